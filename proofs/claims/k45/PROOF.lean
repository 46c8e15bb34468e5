import PyProof.Rows.All
import Wide.All
import OpenK.AllK
import Wide.FinOn
import HandS.ForMost
import HandS.ForExc
import HandS.Lambda
import KE.KDictKeyed
import HandS.Wide
import HandS.Style
import HandS.Flow
import HandS.IsInst
import HandS.SortInts
import HandS.NoneIn
import HandS.Iter
import HandS.Comp
import HandS.Ends
import HandS.EndTab
import PyProof.ReprRoads
import HandS.Dict
import HandS.Property
import HandS.ClsMeth
import HandS.Star
import HandS.ExcInit
import HandS.ExcField
import HandS.ExcIs
import HandS.TryMany
import KE.KExcInit
import PyProof.ExcBaseAll.RuntimeError
import PyProof.ExcBaseAll.OverflowError
import PyProof.ExcBaseAll.IndexError
import KE.RegKTryMore
import HandS.NamedTupGet
import HandS.Conv
import KE.KExcIs
import KE.GoesMore
import PyProof.EnumMake
import KE.DataMinMax
import HandS.OwnEq
import OpenK.KMeth
import HandS.Deep
import HandS.Zip
import HandS.More
import HandS.Small
import HandS.TupLen
import KE.KDictDisplayH
import PySem.Challenge.RW_dequeeffect_k45_distances_by_search
set_option Elab.async false
set_option linter.all false
set_option maxRecDepth 100000
set_option maxHeartbeats 0
namespace DL
open PySem L2

/-- a value as a tree -/
inductive D where
  | non | bl (b : Bool) | int (i : Int) | str (x : Str)
  | lst (xs : List D) | tup (xs : List D)
  | dct (kvs : List (Key × D)) | dcT (kvs : List (List Key × D)) | dcN (kvs : List (D × D))
  | obj (n : Str) (fs : List (Str × D))
  | scr (ns : List Int)
  | cls (n : Str)
  | ty (n : String)
  /-- a door: a function object, what its cells hold -/
  | clo (f : Addr) (us : List V) (ds : List D)
deriving Inhabited

mutual
/-- a key without texts -/
def noTx : NestedKey → Bool
  | .num _ => true
  | .tup ks => noTxL ks
  | _ => false
def noTxL : List NestedKey → Bool
  | [] => true
  | k :: ks => noTx k && noTxL ks
end
mutual
/-- data as a key -/
def nkD : D → Option NestedKey
  | .int i => some (.num i)
  | .tup ds => (nksD ds).map .tup
  | _ => none
def nksD : List D → Option (List NestedKey)
  | [] => some []
  | d :: ds => (nkD d).bind fun k => (nksD ds).map fun ks => k :: ks
end
/-- an entry told: the key, its own tuple, the value -/
abbrev NdE := NestedKey × Addr × V
/-- the dict at p, its keys tuples of whole numbers and tuples: the very object -/
def NdO (p : Addr) (us : List NdE) (ob : Obj) : HO := .ext fun h => (us.map (·.1)).Nodup ∧ us.length ≤ sizeLine ∧ (p == sysModules) = false ∧ (∀ u ∈ us, noTx u.1 = true ∧ u.1.depth ≤ 8) ∧
  ∃ (es : Array DictEntry) (ep : Nat) (zs : List (NestedKey × Addr × Value)), h.get? p = some ob ∧ ob.ExactDict ∧ ob.data = .dict es ep ∧ Paired (fun (u : NdE) (z : NestedKey × Addr × Value) => z.1 = u.1 ∧ z.2.1 = u.2.1 ∧ RelV u.2.2 z.2.2) us zs ∧ ∀ w : World, es.toList = zs.map fun z => (⟨z.1.hash w, .ref z.2.1, z.2.2⟩ : DictEntry)
theorem nd_ne_code {p c : Addr} {us : List NdE} {ob : Obj} {q : Str} : NdO p us ob ≠ LamX.CodeO c q := by
  intro h
  unfold NdO LamX.CodeO at h
  injection h with h
  have e := congrFun h { objs := Array.replicate (c + 1) { cls := .none, data := .fields #[.none, .str q 0] } }
  have g : ∀ a o, ({ objs := Array.replicate (c + 1) { cls := .none, data := .fields #[.none, .str q 0] } } : Heap).get? a = some o → o = { cls := .none, data := .fields #[.none, .str q 0] } := by
    intro a o hg
    unfold Heap.get? at hg
    simp only [Array.getElem?_replicate] at hg
    by_cases ha : a < c + 1
    · simp only [ha, if_true] at hg
      exact (Option.some.inj hg).symm
    · simp only [ha, if_false] at hg
      cases hg
  have w : ∃ (oc : Obj) (vs : Array Value) (t : Tok), ({ objs := Array.replicate (c + 1) { cls := .none, data := .fields #[.none, .str q 0] } } : Heap).get? c = some oc ∧ oc.data = .fields vs ∧ vs[1]? = some (.str q t) := by
    refine ⟨{ cls := .none, data := .fields #[.none, .str q 0] }, _, 0, ?_, rfl, rfl⟩
    unfold Heap.get?
    simp only [Array.getElem?_replicate, Nat.lt_succ_self, if_true]
  rw [← e] at w
  obtain ⟨_, _, _, _, es, ep, zs, ho, _, hd, _⟩ := w
  rw [g p ob ho] at hd
  cases hd
/-- what is fixed for a whole text -/
structure Gc where
  K : PySem.W.Frag
  mg : Str → Option Value
  /-- the tables of code objects, each with the name that its codes bear -/
  T : List (Addr × Str)
/-- no such table -/
def Fx (o : HO) : Prop := ∀ ps, o ≠ .tbl ps
theorem fx_lst {xs : List V} : Fx (.lst xs) := fun _ h => nomatch h
theorem fx_tup {xs : List V} : Fx (.tup xs) := fun _ h => nomatch h
theorem fx_dK {xs : List (Key × V)} : Fx (.dK xs) := fun _ h => nomatch h
theorem fx_dT {xs : List (List Key × V)} : Fx (.dT xs) := fun _ h => nomatch h
theorem fx_nd {p : Addr} {us : List NdE} {ob : Obj} : Fx (NdO p us ob) := fun _ h => by unfold NdO at h; cases h
theorem fx_ins {C dx : Addr} {xs : List (Str × V)} : Fx (.ins C dx xs) := fun _ h => nomatch h
theorem fx_xd {xs : List (Str × V)} : Fx (.xd xs) := fun _ h => nomatch h
theorem fx_frz {o : Obj} {u : HO} : Fx (.frz o u) := fun _ h => nomatch h
theorem fx_own {x : Addr} : Fx (.own x) := fun _ h => nomatch h

/-- neither a table nor a thing known by a saying -/
def Pln (o : HO) : Prop := (∀ ps, o ≠ .tbl ps) ∧ ∀ c q, o ≠ LamX.CodeO c q
theorem pln_lst {xs : List V} : Pln (.lst xs) := ⟨fun _ h => (nomatch h), fun _ _ h => by unfold LamX.CodeO at h; cases h⟩
theorem pln_dK {xs : List (Key × V)} : Pln (.dK xs) := ⟨fun _ h => (nomatch h), fun _ _ h => by unfold LamX.CodeO at h; cases h⟩
theorem pln_dT {xs : List (List Key × V)} : Pln (.dT xs) := ⟨fun _ h => (nomatch h), fun _ _ h => by unfold LamX.CodeO at h; cases h⟩
theorem pln_ins {C dx : Addr} {xs : List (Str × V)} : Pln (.ins C dx xs) := ⟨fun _ h => (nomatch h), fun _ _ h => by unfold LamX.CodeO at h; cases h⟩
theorem pln_nd {p : Addr} {us : List NdE} {ob : Obj} : Pln (NdO p us ob) := ⟨fx_nd, fun _ _ => nd_ne_code⟩
theorem tabs_upd {T : List (Addr × Str)} {H : Hp} {D : Addr} {o o' : HO} (t : LamX.Tabs T H) (h : H D = some o) (p : Pln o) : LamX.Tabs T (upd H D o') := by
  intro q hq
  obtain ⟨ps, h1, h2, h3⟩ := t q hq
  have e : q.1 ≠ D := fun z => by rw [z, h] at h1; exact p.1 ps (Option.some.inj h1)
  refine ⟨ps, by rw [upd_ne e]; exact h1, h2, fun pos cv hc => ?_⟩
  obtain ⟨c, e1, e2⟩ := h3 pos cv hc
  have e' : c ≠ D := fun z => by rw [z, h] at e2; exact p.2 _ _ (Option.some.inj e2)
  exact ⟨c, e1, by rw [upd_ne e']; exact e2⟩
/-- the built-in types that data is of -/
abbrev tyNames : List String := ["NoneType", "bool", "int", "str", "list", "tuple", "dict"]
/-- what the written part says of a class whose instances are data -/
structure ObjK (K : PySem.W.Frag) (C : Addr) : Prop where
  cl : Cls K C
  ha : PySem.W.findIn K (.ref C) "__class__" = some (some (.builtin "object.__class__"))
  hn : PySem.W.specialIn K (.builtin "object.__class__") "__get__" = some (some (.builtin "getset_descriptor.__get__"))
  htk : PySem.W.takesIn K (.builtin "object.__class__") = some true
  hm : PySem.W.mroIn K C (.type "object") = some true
  ki : ∀ T ∈ tyNames, PySem.W.kitOne K (.ref C) (.type T) = some false
mutual
/-- v stands for the tree d, all its objects within Av -/
def Rep (G : Gc) (Av : Addr → Prop) (H : Hp) : D → V → Prop
  | .non, v => v = .non
  | .bl b, v => v = .bl b
  | .int i, v => v = .int i
  | .str x, v => v = .str x
  | .lst ds, v => ∃ a vs, v = .ref a ∧ Av a ∧ H a = some (.lst vs) ∧ RepL G Av H ds vs
  | .tup ds, v => ∃ a vs, v = .ref a ∧ Av a ∧ H a = some (.tup vs) ∧ RepL G Av H ds vs
  | .dct kvs, v => ∃ a us, v = .ref a ∧ Av a ∧ Rd H a (.dK us) ∧ RepK G Av H kvs us
  | .dcT kvs, v => ∃ a us, v = .ref a ∧ Av a ∧ Rd H a (.dT us) ∧ RepT G Av H kvs us
  | .dcN kvs, v => ∃ (a : Addr) (us : List NdE × Obj), v = .ref a ∧ Av a ∧ Rd H a (NdO a us.1 us.2) ∧ RepN G Av H kvs us.1
  | .obj n fs, v => ∃ a C dx us, v = .ref a ∧ Av a ∧ (G.mg n = some (.ref C) ∧ ObjK G.K C) ∧ H a = some (.ins C dx us) ∧ RepF G Av H fs us
  | .scr ns, v => ∃ a, v = .ref a ∧ ((Av a ∧ Rd H a (.lst (ns.map V.int))) ∨ ∀ H', SqL G.K H' a (ns.map V.int))
  | .cls n, v => ∃ C, G.mg n = some (.ref C) ∧ v = .ref C
  | .ty n, v => v = .ty n
  | .clo f us ds, v => v = .ref f ∧ RepL G Av H ds us
def RepL (G : Gc) (Av : Addr → Prop) (H : Hp) : List D → List V → Prop
  | [], vs => vs = []
  | d :: ds, vs => ∃ v r, vs = v :: r ∧ Rep G Av H d v ∧ RepL G Av H ds r
def RepK (G : Gc) (Av : Addr → Prop) (H : Hp) : List (Key × D) → List (Key × V) → Prop
  | [], us => us = []
  | (k, d) :: ds, us => ∃ v r, us = (k, v) :: r ∧ Rep G Av H d v ∧ RepK G Av H ds r
def RepT (G : Gc) (Av : Addr → Prop) (H : Hp) : List (List Key × D) → List (List Key × V) → Prop
  | [], us => us = []
  | (k, d) :: ds, us => ∃ v r, us = (k, v) :: r ∧ Rep G Av H d v ∧ RepT G Av H ds r
def RepN (G : Gc) (Av : Addr → Prop) (H : Hp) : List (D × D) → List NdE → Prop
  | [], us => us = []
  | (dk, d) :: ds, us => ∃ k p v r, us = (k, p, v) :: r ∧ nkD dk = some k ∧ Rep G Av H dk (.ref p) ∧ Rep G Av H d v ∧ RepN G Av H ds r
def RepF (G : Gc) (Av : Addr → Prop) (H : Hp) : List (Str × D) → List (Str × V) → Prop
  | [], us => us = []
  | (k, d) :: ds, us => ∃ v r, us = (k, v) :: r ∧ Rep G Av H d v ∧ RepF G Av H ds r
end

/-- what a step of the heap keeps for those who look within Av -/
structure Keep (G : Gc) (Av Av' : Addr → Prop) (H H' : Hp) : Prop where
  rd : ∀ a u, Av a → Fx u → Rd H a u → Rd H' a u
  lst : ∀ a vs, Av a → H a = some (.lst vs) → H' a = some (.lst vs)
  tup : ∀ a vs, Av a → H a = some (.tup vs) → H' a = some (.tup vs)
  ins : ∀ a C dx us, Av a → H a = some (.ins C dx us) → H' a = some (.ins C dx us)
  av : ∀ a u, Av a → Rd H a u → Av' a

theorem rd_of {H : Hp} {a : Addr} {u : HO} (h : H a = some u) : Rd H a u := .inl h

section
variable {G : Gc} {Av Av' : Addr → Prop} {H H' : Hp}
mutual
theorem Rep.keep (k : Keep G Av Av' H H') : ∀ {d : D} {v : V}, Rep G Av H d v → Rep G Av' H' d v
  | .non, v, h => by unfold Rep at h ⊢; exact h
  | .bl _, v, h => by unfold Rep at h ⊢; exact h
  | .int _, v, h => by unfold Rep at h ⊢; exact h
  | .str _, v, h => by unfold Rep at h ⊢; exact h
  | .lst ds, v, h => by
    unfold Rep at h ⊢
    obtain ⟨a, vs, e, ha, hh, r⟩ := h
    exact ⟨a, vs, e, k.av a _ ha (rd_of hh), k.lst a vs ha hh, RepL.keep k r⟩
  | .tup ds, v, h => by
    unfold Rep at h ⊢
    obtain ⟨a, vs, e, ha, hh, r⟩ := h
    exact ⟨a, vs, e, k.av a _ ha (rd_of hh), k.tup a vs ha hh, RepL.keep k r⟩
  | .dct kvs, v, h => by
    unfold Rep at h ⊢
    obtain ⟨a, us, e, ha, hh, r⟩ := h
    exact ⟨a, us, e, k.av a _ ha hh, k.rd a _ ha fx_dK hh, RepK.keep k r⟩
  | .dcT kvs, v, h => by
    unfold Rep at h ⊢
    obtain ⟨a, us, e, ha, hh, r⟩ := h
    exact ⟨a, us, e, k.av a _ ha hh, k.rd a _ ha fx_dT hh, RepT.keep k r⟩
  | .dcN kvs, v, h => by
    unfold Rep at h ⊢
    obtain ⟨a, us, e, ha, hh, r⟩ := h
    exact ⟨a, us, e, k.av a _ ha hh, k.rd a _ ha fx_nd hh, RepN.keep k r⟩
  | .obj n fs, v, h => by
    unfold Rep at h ⊢
    obtain ⟨a, C, dx, us, e, ha, hm, hh, r⟩ := h
    exact ⟨a, C, dx, us, e, k.av a _ ha (rd_of hh), hm, k.ins a C dx us ha hh, RepF.keep k r⟩
  | .scr ns, v, h => by
    unfold Rep at h ⊢
    obtain ⟨a, e, h⟩ := h
    refine ⟨a, e, ?_⟩
    rcases h with ⟨ha, hh⟩ | hh
    · exact .inl ⟨k.av a _ ha hh, k.rd a _ ha fx_lst hh⟩
    · exact .inr hh
  | .cls _, v, h => by unfold Rep at h ⊢; exact h
  | .ty _, v, h => by unfold Rep at h ⊢; exact h
  | .clo _ _ _, v, h => by unfold Rep at h ⊢; exact ⟨h.1, RepL.keep k h.2⟩
theorem RepL.keep (k : Keep G Av Av' H H') : ∀ {ds : List D} {vs : List V}, RepL G Av H ds vs → RepL G Av' H' ds vs
  | [], vs, h => by unfold RepL at h ⊢; exact h
  | d :: ds, vs, h => by
    unfold RepL at h ⊢
    obtain ⟨v, r, e, h1, h2⟩ := h
    exact ⟨v, r, e, Rep.keep k h1, RepL.keep k h2⟩
theorem RepK.keep (k : Keep G Av Av' H H') : ∀ {ds : List (Key × D)} {vs : List (Key × V)}, RepK G Av H ds vs → RepK G Av' H' ds vs
  | [], vs, h => by unfold RepK at h ⊢; exact h
  | (q, d) :: ds, vs, h => by
    unfold RepK at h ⊢
    obtain ⟨v, r, e, h1, h2⟩ := h
    exact ⟨v, r, e, Rep.keep k h1, RepK.keep k h2⟩
theorem RepT.keep (k : Keep G Av Av' H H') : ∀ {ds : List (List Key × D)} {vs : List (List Key × V)}, RepT G Av H ds vs → RepT G Av' H' ds vs
  | [], vs, h => by unfold RepT at h ⊢; exact h
  | (q, d) :: ds, vs, h => by
    unfold RepT at h ⊢
    obtain ⟨v, r, e, h1, h2⟩ := h
    exact ⟨v, r, e, Rep.keep k h1, RepT.keep k h2⟩
theorem RepN.keep (k : Keep G Av Av' H H') : ∀ {ds : List (D × D)} {vs : List NdE}, RepN G Av H ds vs → RepN G Av' H' ds vs
  | [], vs, h => by unfold RepN at h ⊢; exact h
  | (dk, d) :: ds, vs, h => by
    unfold RepN at h ⊢
    obtain ⟨q, p, v, r, e, e2, h1, h2, h3⟩ := h
    exact ⟨q, p, v, r, e, e2, Rep.keep k h1, Rep.keep k h2, RepN.keep k h3⟩
theorem RepF.keep (k : Keep G Av Av' H H') : ∀ {ds : List (Str × D)} {vs : List (Str × V)}, RepF G Av H ds vs → RepF G Av' H' ds vs
  | [], vs, h => by unfold RepF at h ⊢; exact h
  | (q, d) :: ds, vs, h => by
    unfold RepF at h ⊢
    obtain ⟨v, r, e, h1, h2⟩ := h
    exact ⟨v, r, e, Rep.keep k h1, RepF.keep k h2⟩
end
end

/-! ### the state of a def's run -/
/-- a slot: nothing known, shared data, an object that this slot alone holds -/
inductive SC where
  | un | sh (d : D) | ow (d : D)
deriving Inhabited
abbrev SD := List SC

/-- what is fixed for a run of a def: the heap at the entry, where results may lie, the slots of objects that the caller lends -/
structure Ct extends Gc where
  H0 : Hp
  A0 : Addr → Prop
  io : List (Nat × Addr)
/-- where data lies; the objects that slots own -/
structure Sx where
  Av : Addr → Prop
  ρ : Nat → Option Addr

/-- an owned object's content (its parts are shared data) -/
def Own (G : Gc) (Av : Addr → Prop) (H : Hp) (a : Addr) : D → Prop
  | .lst ds => ∃ vs, H a = some (.lst vs) ∧ RepL G Av H ds vs
  | .dct kvs => ∃ us, H a = some (.dK us) ∧ RepK G Av H kvs us
  | .dcT kvs => ∃ us, H a = some (.dT us) ∧ RepT G Av H kvs us
  | .dcN kvs => ∃ us : List NdE × Obj, H a = some (NdO a us.1 us.2) ∧ RepN G Av H kvs us.1
  | .obj n fs => ∃ C dx us, (G.mg n = some (.ref C) ∧ ObjK G.K C) ∧ H a = some (.ins C dx us) ∧ RepF G Av H fs us
  | _ => False

theorem Own.pln {G : Gc} {Av : Addr → Prop} {H : Hp} {a : Addr} {d : D} (h : Own G Av H a d) : ∃ o, H a = some o ∧ Pln o ∧ Fx o := by
  cases d <;> first
    | exact h.elim
    | (obtain ⟨vs, h1, _⟩ := h; exact ⟨_, h1, by first | exact pln_lst | exact pln_dK | exact pln_dT | exact pln_nd, by first | exact fx_lst | exact fx_dK | exact fx_dT | exact fx_nd⟩)
    | (obtain ⟨C, dx, us, _, h1, _⟩ := h; exact ⟨_, h1, pln_ins, fx_ins⟩)
def SlotOk (c : Ct) (x : Sx) (σ : St) (H : Hp) (i : Nat) : Option SC → Prop
  | some (.sh d) => ∃ v, σ[i]? = some (some v) ∧ Rep c.toGc x.Av H d v
  | some (.ow d) => ∃ a, x.ρ i = some a ∧ σ[i]? = some (some (.ref a)) ∧ Own c.toGc x.Av H a d
  | _ => True

structure SR (c : Ct) (x : Sx) (σ : St) (H : Hp) (Δ : SD) : Prop where
  len : σ.length = Δ.length
  base : ∀ a o, c.H0 a = some o → Fx o → (∀ p ∈ c.io, p.2 ≠ a) → H a = some o
  tab : LamX.Tabs c.T H
  trk : ∀ a, H a = none → c.H0 a = none
  fr : ∀ p, H p = none → x.Av p
  av : ∀ a, x.Av a → c.A0 a
  a0 : ∀ p, c.H0 p = none → c.A0 p
  ow : ∀ i a, x.ρ i = some a → ¬ x.Av a ∧ H a ≠ none ∧ (c.H0 a = none ∨ ∃ p ∈ c.io, p.2 = a)
  inj : ∀ i j a, x.ρ i = some a → x.ρ j = some a → i = j
  slot : ∀ i, SlotOk c x σ H i Δ[i]?
  ios : ∀ p ∈ c.io, x.ρ p.1 = some p.2

/-- what a step keeps: everything that no slot owns; addresses -/
structure Kp (x : Sx) (H : Hp) (x' : Sx) (H' : Hp) : Prop where
  frame : ∀ a o, H a = some o → Fx o → (∀ i, x.ρ i ≠ some a) → H' a = some o
  trk : ∀ a, H' a = none → H a = none
  own : ∀ i a, x'.ρ i = some a → (∃ j, x.ρ j = some a) ∨ H a = none
  av : ∀ a, x.Av a → H a ≠ none → x'.Av a
  avb : ∀ a, x'.Av a → x.Av a ∨ H a = none ∨ ∃ j, x.ρ j = some a
theorem Kp.refl (x : Sx) (H : Hp) : Kp x H x H := ⟨fun _ _ h _ _ => h, fun _ h => h, fun i a h => .inl ⟨i, h⟩, fun _ h _ => h, fun _ h => .inl h⟩
theorem Kp.trans {x x1 x2 : Sx} {H H1 H2 : Hp} (a : Kp x H x1 H1) (b : Kp x1 H1 x2 H2) : Kp x H x2 H2 where
  frame := fun p o h f n => b.frame p o (a.frame p o h f n) f fun i e => by
    rcases a.own i p e with ⟨j, q⟩ | q
    · exact n j q
    · rw [h] at q; cases q
  trk := fun p h => a.trk p (b.trk p h)
  own := fun i p h => by
    rcases b.own i p h with ⟨j, q⟩ | q
    · exact a.own j p q
    · exact .inr (a.trk p q)
  av := fun p h n => b.av p (a.av p h n) fun e => n (a.trk p e)
  avb := fun p h => by
    rcases b.avb p h with q | q | ⟨j, q⟩
    · exact a.avb p q
    · exact .inr (.inl (a.trk p q))
    · rcases a.own j p q with q | q
      · exact .inr (.inr q)
      · exact .inr (.inl q)

section
variable {c : Ct} {x x' : Sx} {σ : St} {H H' : Hp} {Δ : SD}
theorem SR.notOwned (s : SR c x σ H Δ) {a : Addr} (h : x.Av a) : ∀ i, x.ρ i ≠ some a := fun i e => (s.ow i a e).1 h
theorem SR.keep (s : SR c x σ H Δ) (k : Kp x H x' H') : Keep c.toGc x.Av x'.Av H H' where
  rd := fun a u ha f h => by
    rcases h with h | ⟨o, h⟩
    · exact .inl (k.frame a _ h f (s.notOwned ha))
    · exact .inr ⟨o, k.frame a _ h fx_frz (s.notOwned ha)⟩
  lst := fun a vs ha h => k.frame a _ h fx_lst (s.notOwned ha)
  tup := fun a vs ha h => k.frame a _ h fx_tup (s.notOwned ha)
  ins := fun a C dx us ha h => k.frame a _ h fx_ins (s.notOwned ha)
  av := fun a u ha h => k.av a ha (by
    rcases h with h | ⟨o, h⟩ <;> (rw [h]; intro q; cases q))
theorem Rep.kp (s : SR c x σ H Δ) (k : Kp x H x' H') {d : D} {v : V} (h : Rep c.toGc x.Av H d v) : Rep c.toGc x'.Av H' d v := h.keep (s.keep k)
theorem RepL.kp (s : SR c x σ H Δ) (k : Kp x H x' H') {d : List D} {v : List V} (h : RepL c.toGc x.Av H d v) : RepL c.toGc x'.Av H' d v := h.keep (s.keep k)
/-- Keep between two sets over one heap -/
theorem Keep.sub {G : Gc} {Av Av' : Addr → Prop} {H : Hp} (h : ∀ a, H a ≠ none → Av a → Av' a) : Keep G Av Av' H H :=
  ⟨fun _ _ _ _ h => h, fun _ _ _ h => h, fun _ _ _ h => h, fun _ _ _ _ _ h => h, fun a u ha r => h a (by rcases r with r | ⟨o, r⟩ <;> (rw [r]; intro q; cases q)) ha⟩
/-- only new objects -/
def Ex (H H' : Hp) : Prop := ∀ a o, H a = some o → H' a = some o
theorem Ex.refl (H : Hp) : Ex H H := fun _ _ h => h
theorem Ex.trans {H H1 H2 : Hp} (a : Ex H H1) (b : Ex H1 H2) : Ex H H2 := fun x o h => b x o (a x o h)
theorem Ex.new {H : Hp} {p : Addr} {o : HO} (h : H p = none) : Ex H (upd H p o) := fun a u e => by
  rw [upd_ne (ne_of_none e h)]; exact e
theorem Ex.none {H H' : Hp} (e : Ex H H') {p : Addr} (h : H' p = none) : H p = none := by
  cases q : H p with
  | none => rfl
  | some o => rw [e p o q] at h; cases h
theorem Ex.keep {G : Gc} {Av : Addr → Prop} {H H' : Hp} (e : Ex H H') : Keep G Av Av H H' :=
  ⟨fun a u _ _ h => by
    rcases h with h | ⟨o, h⟩
    · exact .inl (e a _ h)
    · exact .inr ⟨o, e a _ h⟩, fun a vs _ h => e a _ h, fun a vs _ h => e a _ h, fun a C dx us _ h => e a _ h, fun _ _ h _ => h⟩
theorem Own.ex {G : Gc} {Av : Addr → Prop} (e : Ex H H') {a : Addr} {d : D} (h : Own G Av H a d) : Own G Av H' a d := by
  cases d <;> first
    | exact h
    | (obtain ⟨vs, h1, h2⟩ := h; exact ⟨vs, e a _ h1, h2.keep e.keep⟩)
    | (obtain ⟨C, dx, us, h0, h1, h2⟩ := h; exact ⟨C, dx, us, h0, e a _ h1, h2.keep e.keep⟩)
theorem Own.sub {G : Gc} {Av Av' : Addr → Prop} (hs : ∀ a, H a ≠ none → Av a → Av' a) {a : Addr} {d : D} (h : Own G Av H a d) : Own G Av' H a d := by
  cases d <;> first
    | exact h
    | (obtain ⟨vs, h1, h2⟩ := h; exact ⟨vs, h1, h2.keep (Keep.sub hs)⟩)
    | (obtain ⟨C, dx, us, h0, h1, h2⟩ := h; exact ⟨C, dx, us, h0, h1, h2.keep (Keep.sub hs)⟩)
/-- new objects only: the state stands -/
theorem SR.ex (s : SR c x σ H Δ) (e : Ex H H') : SR c x σ H' Δ where
  len := s.len
  base := fun a o h f n => e a o (s.base a o h f n)
  tab := s.tab.ext e
  trk := fun a h => s.trk a (e.none h)
  fr := fun p h => s.fr p (e.none h)
  av := s.av
  a0 := s.a0
  ow := fun i a h => ⟨(s.ow i a h).1, fun q => (s.ow i a h).2.1 (e.none q), (s.ow i a h).2.2⟩
  inj := s.inj
  slot := fun i => by
    have h := s.slot i
    revert h
    cases hq : Δ[i]? with
    | none => intro _; trivial
    | some z =>
      cases z with
      | un => intro _; trivial
      | sh d => exact fun ⟨v, h1, h2⟩ => ⟨v, h1, h2.keep e.keep⟩
      | ow d => exact fun ⟨a, h0, h1, h2⟩ => ⟨a, h0, h1, h2.ex e⟩
  ios := s.ios
theorem Kp.ex (e : Ex H H') (x : Sx) : Kp x H x H' := ⟨fun a o h _ _ => e a o h, fun a h => e.none h, fun i a h => .inl ⟨i, h⟩, fun _ h _ => h, fun _ h => .inl h⟩
end

/-! ### mirrors -/
inductive Res (α : Type) where
  | ok (a : α) (Δ : SD)
  | ex (n : Str) (d : Option D) (Δ : SD)
  | bad
abbrev M (α : Type) := SD → Res α
def mPure {α : Type} (a : α) : M α := fun Δ => .ok a Δ
def mBad {α : Type} : M α := fun _ => .bad
def mBind {α β : Type} (f : M α) (g : α → M β) : M β := fun Δ => match f Δ with
  | .ok a Δ' => g a Δ'
  | .ex n d Δ' => .ex n d Δ'
  | .bad => .bad
/-- a step that may have no answer -/
def mOpt {α : Type} : Option α → M α
  | some a => mPure a
  | none => mBad

/-- an exception in the air -/
def ExV (G : Gc) (Av : Addr → Prop) (H : Hp) (dx : Option Addr) : Option D → Prop
  | none => True
  | some d => ∃ p v, dx = some p ∧ Av p ∧ H p = some (.xd [("value", v)]) ∧ Rep G Av H d v
def ExG (G : Gc) (Av : Addr → Prop) (H : Hp) (n : Str) (d : Option D) (C : Addr) (dx : Option Addr) : Prop := G.mg n = some (.ref C) ∧ ExV G Av H dx d
abbrev ExR (c : Ct) (x : Sx) (H : Hp) (n : Str) (d : Option D) (C : Addr) (dx : Option Addr) : Prop := ExG c.toGc x.Av H n d C dx

/-- what a mirror's answer allows to want -/
def Post {α : Type} (c : Ct) (W : WX) (x : Sx) (σ : St) (H : Hp) (ok : α → SD → Prop) : Res α → Prop
  | .ok a Δ' => ok a Δ'
  | .ex n d Δ' => ∀ C dx x' H', Kp x H x' H' → SR c x' σ H' Δ' → ExR c x' H' n d C dx → W (.ref C) dx σ H'
  | .bad => False
/-- .. of a shared value -/
def okV (c : Ct) (x : Sx) (σ : St) (H : Hp) (Q : VK) (d : D) (Δ' : SD) : Prop := ∀ v x' H', Kp x H x' H' → SR c x' σ H' Δ' → Rep c.toGc x'.Av H' d v → Q v H'
/-- .. of a value that is read at once: its own object may be a slot's -/
def Rep1 (G : Gc) (Av : Addr → Prop) (H : Hp) (d : D) (v : V) : Prop := Rep G Av H d v ∨ ∃ a, v = .ref a ∧ Own G Av H a d
def okB (c : Ct) (x : Sx) (σ : St) (H : Hp) (Q : VK) (d : D) (Δ' : SD) : Prop := ∀ v x' H', Kp x H x' H' → SR c x' σ H' Δ' → Rep1 c.toGc x'.Av H' d v → Q v H'
/-- .. of a new object that nobody holds -/
def okF (c : Ct) (x : Sx) (σ : St) (H : Hp) (Q : VK) (d : D) (Δ' : SD) : Prop := ∀ a x' H', Kp x H x' H' → SR c x' σ H' Δ' → c.H0 a = none → H a = none → ¬ x'.Av a → (∀ i, x'.ρ i ≠ some a) → Own c.toGc x'.Av H' a d → Q (.ref a) H'
def okT (c : Ct) (x : Sx) (σ : St) (H : Hp) (Q : Bool → Hp → Prop) (b : Bool) (Δ' : SD) : Prop := ∀ x' H', Kp x H x' H' → SR c x' σ H' Δ' → Q b H'

def SoundE (c : Ct) (W : WX) (t : TE) (f : M D) : Prop := ∀ x σ H Δ Q, SR c x σ H Δ → Post c W x σ H (okV c x σ H Q) (f Δ) → t σ H Q
def SoundB (c : Ct) (W : WX) (t : TE) (f : M D) : Prop := ∀ x σ H Δ Q, SR c x σ H Δ → Post c W x σ H (okB c x σ H Q) (f Δ) → t σ H Q
def SoundF (c : Ct) (W : WX) (t : TE) (f : M D) : Prop := ∀ x σ H Δ Q, SR c x σ H Δ → Post c W x σ H (okF c x σ H Q) (f Δ) → t σ H Q
def SoundT (c : Ct) (W : WX) (t : TT) (f : M Bool) : Prop := ∀ x σ H Δ Q, SR c x σ H Δ → Post c W x σ H (okT c x σ H Q) (f Δ) → t σ H Q

section
variable {c : Ct} {W : WX} {x x1 : Sx} {σ : St} {H H1 : Hp} {Q : VK}
theorem Post.mono {α : Type} {ok ok' : α → SD → Prop} {r : Res α} (h : Post c W x σ H ok r) (k : ∀ a Δ, ok a Δ → ok' a Δ) : Post c W x σ H ok' r := by
  cases r with
  | ok a Δ' => exact k a Δ' h
  | ex n d Δ' => exact h
  | bad => exact h
/-- from a later state -/
theorem Post.step {α : Type} {ok ok' : α → SD → Prop} {r : Res α} (h : Post c W x σ H ok r) (k : Kp x H x1 H1) (m : ∀ a Δ, ok a Δ → ok' a Δ) : Post c W x1 σ H1 ok' r := by
  cases r with
  | ok a Δ' => exact m a Δ' h
  | ex n d Δ' => exact fun C dx x' H' k' => h C dx x' H' (k.trans k')
  | bad => exact h
theorem okV.step {d : D} {Δ : SD} (k : Kp x H x1 H1) (h : okV c x σ H Q d Δ) : okV c x1 σ H1 Q d Δ := fun v x' H' k' => h v x' H' (k.trans k')
theorem okB.step {d : D} {Δ : SD} (k : Kp x H x1 H1) (h : okB c x σ H Q d Δ) : okB c x1 σ H1 Q d Δ := fun v x' H' k' => h v x' H' (k.trans k')
theorem okF.step {d : D} {Δ : SD} (k : Kp x H x1 H1) (h : okF c x σ H Q d Δ) : okF c x1 σ H1 Q d Δ := fun a x' H' k' s h0 h1 => h a x' H' (k.trans k') s h0 (k.trk a h1)
theorem okT.step {Q : Bool → Hp → Prop} {b : Bool} {Δ : SD} (k : Kp x H x1 H1) (h : okT c x σ H Q b Δ) : okT c x1 σ H1 Q b Δ := fun x' H' k' => h x' H' (k.trans k')
/-- bind, the first part's answer: for any kind of end -/
theorem Post.bind {α β : Type} {ok : α → SD → Prop} {ok' : β → SD → Prop} {f : M α} {g : α → M β} {Δ : SD} (h : Post c W x σ H ok' (mBind f g Δ)) (k : ∀ a Δ1, Post c W x σ H ok' (g a Δ1) → ok a Δ1) : Post c W x σ H ok (f Δ) := by
  unfold mBind at h
  cases e : f Δ with
  | ok a Δ1 => rw [e] at h; exact k a Δ1 h
  | ex n d Δ1 => rw [e] at h; exact h
  | bad => rw [e] at h; exact h
end

section
variable {c : Ct} {W : WX} {t : TE} {f : M D}
theorem SoundE.b (h : SoundE c W t f) : SoundB c W t f := fun x σ H Δ Q s p => h x σ H Δ Q s (p.mono fun d Δ' q v x' H' k s' r => q v x' H' k s' (.inl r))
/-- a new object is let go: it is shared from then on -/
theorem SR.share {x : Sx} {σ : St} {H : Hp} {Δ : SD} (s : SR c x σ H Δ) {a : Addr} (hn : ∀ i, x.ρ i ≠ some a) (h0 : c.A0 a) : SR c { x with Av := fun b => x.Av b ∨ b = a } σ H Δ where
  len := s.len
  base := s.base
  tab := s.tab
  trk := s.trk
  fr := fun p h => .inl (s.fr p h)
  av := fun b h => h.elim (s.av b) fun e => e ▸ h0
  a0 := s.a0
  ow := fun i b h => ⟨fun q => q.elim (s.ow i b h).1 fun e => hn i (e ▸ h), (s.ow i b h).2⟩
  inj := s.inj
  slot := fun i => by
    have h := s.slot i
    revert h
    cases hq : Δ[i]? with
    | none => intro _; trivial
    | some z =>
      cases z with
      | un => intro _; trivial
      | sh d => exact fun ⟨v, h1, h2⟩ => ⟨v, h1, h2.keep (Keep.sub fun _ _ q => .inl q)⟩
      | ow d => exact fun ⟨b, h0, h1, h2⟩ => ⟨b, h0, h1, h2.sub fun _ _ q => .inl q⟩
  ios := s.ios
theorem Own.rep {G : Gc} {Av : Addr → Prop} {H : Hp} {a : Addr} {d : D} (h : Own G Av H a d) : Rep G (fun b => Av b ∨ b = a) H d (.ref a) := by
  have kp : Keep G Av (fun b => Av b ∨ b = a) H H := Keep.sub fun _ _ q => .inl q
  cases d <;> first
    | exact h.elim
    | (obtain ⟨vs, h1, h2⟩ := h; unfold Rep; exact ⟨a, vs, rfl, .inr rfl, h1, h2.keep kp⟩)
    | (obtain ⟨vs, h1, h2⟩ := h; unfold Rep; exact ⟨a, vs, rfl, .inr rfl, .inl h1, h2.keep kp⟩)
    | (obtain ⟨C, dx, us, h0, h1, h2⟩ := h; unfold Rep; exact ⟨a, C, dx, us, rfl, .inr rfl, h0, h1, h2.keep kp⟩)
theorem SoundF.e (h : SoundF c W t f) : SoundE c W t f := fun x σ H Δ Q s p => h x σ H Δ Q s (p.mono fun d Δ' q a x' H' k s' h0 h1 h2 h3 o =>
  q (.ref a) { x' with Av := fun b => x'.Av b ∨ b = a } H' ⟨k.frame, k.trk, k.own, fun b hb n => .inl (k.av b hb n), fun b hb => hb.elim (k.avb b) fun e => .inr (.inl (e ▸ h1))⟩ (s'.share h3 (s'.a0 a h0)) o.rep)
end
end DL

namespace DL
open PySem L2

/-- where a piece of code stands -/
structure Ok (X : Cx) (c : Ct) (W : WX) (k : Nat) : Prop where
  hK : c.K = X.K
  hmg : c.mg = X.mg
  calm : X.calm = true
  room : Room k X.A
  gd : 20 ≤ k → X.A.guards = some []
  tk : Takes X W
  pass : PassesOwn (model X.prog X.w) X.A X.env X.xe
  nd : X.N.Nodup

/-- an operand: a value, or a slot (read when it is used) -/
inductive AK where
  | v (d : D) | s (i : Nat)
def AKOk (c : Ct) (x : Sx) (σ : St) (H : Hp) : AK → V → Prop
  | .v d, v => Rep c.toGc x.Av H d v
  | .s i, v => σ[i]? = some (some v)
def AKsOk (c : Ct) (x : Sx) (σ : St) (H : Hp) : List AK → List V → Prop
  | [], vs => vs = []
  | a :: as, vs => ∃ v r, vs = v :: r ∧ AKOk c x σ H a v ∧ AKsOk c x σ H as r
def okO (c : Ct) (x : Sx) (σ : St) (H : Hp) (Q : VK) (a : AK) (Δ' : SD) : Prop := ∀ v x' H', Kp x H x' H' → SR c x' σ H' Δ' → AKOk c x' σ H' a v → Q v H'
def okA (c : Ct) (x : Sx) (σ : St) (H : Hp) (Q : List V → Hp → Prop) (as : List AK) (Δ' : SD) : Prop := ∀ vs x' H', Kp x H x' H' → SR c x' σ H' Δ' → AKsOk c x' σ H' as vs → Q vs H'
def SoundO (c : Ct) (W : WX) (t : TE) (f : M AK) : Prop := ∀ x σ H Δ Q, SR c x σ H Δ → Post c W x σ H (okO c x σ H Q) (f Δ) → t σ H Q
def SoundA (c : Ct) (W : WX) (t : TA) (f : M (List AK)) : Prop := ∀ x σ H Δ Q, SR c x σ H Δ → Post c W x σ H (okA c x σ H Q) (f Δ) → t σ H Q
theorem okO.step {c : Ct} {x x1 : Sx} {σ : St} {H H1 : Hp} {Q : VK} {d : AK} {Δ : SD} (k : Kp x H x1 H1) (h : okO c x σ H Q d Δ) : okO c x1 σ H1 Q d Δ := fun v x' H' k' => h v x' H' (k.trans k')
theorem okA.step {c : Ct} {x x1 : Sx} {σ : St} {H H1 : Hp} {Q : List V → Hp → Prop} {d : List AK} {Δ : SD} (k : Kp x H x1 H1) (h : okA c x σ H Q d Δ) : okA c x1 σ H1 Q d Δ := fun v x' H' k' => h v x' H' (k.trans k')

structure DE (X : Cx) (c : Ct) (W : WX) (e : Expr) (f : M D) : Prop where
  out : ∃ t, PE X e t ∧ SoundE c W t f
structure DF (X : Cx) (c : Ct) (W : WX) (e : Expr) (f : M D) : Prop where
  out : ∃ t, PE X e t ∧ SoundF c W t f
structure DO (X : Cx) (c : Ct) (W : WX) (e : Expr) (f : M AK) : Prop where
  out : ∃ t, PE X e t ∧ SoundO c W t f
structure DA (X : Cx) (c : Ct) (W : WX) (es : List Expr) (f : M (List AK)) : Prop where
  out : ∃ t, PA X es t ∧ SoundA c W t f
structure DT (X : Cx) (c : Ct) (W : WX) (e : Expr) (f : M Bool) : Prop where
  out : ∃ t, PT X e t ∧ SoundT c W t f
structure DW (X : Cx) (c : Ct) (W : WX) (e : Expr) (f : M Bool) : Prop where
  out : ∃ t, PW X e t ∧ SoundT c W t f

/-! ### mirrors of operands -/
/-- what a slot holds -/
def SC.rd : Option SC → Option D
  | some (.sh d) => some d
  | some (.ow d) => some d
  | _ => none
def mGet : AK → M D
  | .v d => mPure d
  | .s i => fun Δ => match SC.rd Δ[i]? with
    | some d => .ok d Δ
    | none => .bad
def mGets : List AK → M (List D)
  | [] => mPure []
  | a :: as => mBind (mGet a) fun d => mBind (mGets as) fun ds => mPure (d :: ds)
def mV (f : M D) : M AK := mBind f fun d => mPure (.v d)
def mSlot (i : Nat) : M AK := fun Δ => match SC.rd Δ[i]? with
  | some _ => .ok (.s i) Δ
  | none => .bad
def mNil : M (List AK) := mPure []
def mCons (f : M AK) (r : M (List AK)) : M (List AK) := mBind f fun a => mBind r fun as => mPure (a :: as)
/-- a name read for good: an object that a slot held alone is shared from then on -/
def mVar (i : Nat) : M D := fun Δ => match Δ[i]? with
  | some (.sh d) => .ok d Δ
  | some (.ow d) => .ok d (Δ.set i (.sh d))
  | _ => .bad

section
variable {c : Ct} {W : WX} {x x' : Sx} {σ : St} {H H' : Hp} {Δ : SD}
theorem AKOk.kp (s : SR c x σ H Δ) (k : Kp x H x' H') : ∀ {a : AK} {v : V}, AKOk c x σ H a v → AKOk c x' σ H' a v
  | .v _, _, h => Rep.kp s k h
  | .s _, _, h => h
theorem AKsOk.kp (s : SR c x σ H Δ) (k : Kp x H x' H') : ∀ {as : List AK} {vs : List V}, AKsOk c x σ H as vs → AKsOk c x' σ H' as vs
  | [], _, h => h
  | _ :: _, _, ⟨v, r, e, h1, h2⟩ => ⟨v, r, e, AKOk.kp s k h1, AKsOk.kp s k h2⟩
/-- reading an operand at last -/
theorem get_ok (s : SR c x σ H Δ) {a : AK} {v : V} {d : D} {Δ' : SD} (h : AKOk c x σ H a v) (e : mGet a Δ = .ok d Δ') : Δ' = Δ ∧ Rep1 c.toGc x.Av H d v := by
  cases a with
  | v d' =>
    have e' : Res.ok d' Δ = Res.ok d Δ' := e
    cases e'
    exact ⟨rfl, .inl h⟩
  | s i =>
    have sl := s.slot i
    have e' : (match SC.rd Δ[i]? with
      | some d => Res.ok d Δ
      | none => Res.bad) = Res.ok d Δ' := e
    have h' : σ[i]? = some (some v) := h
    revert sl e'
    cases Δ[i]? with
    | none => intro _ e'; cases e'
    | some z =>
      cases z with
      | un => intro _ e'; cases e'
      | sh d' =>
        rintro ⟨v', h1, h2⟩ e'
        cases e'
        rw [h1] at h'; cases h'
        exact ⟨rfl, .inl h2⟩
      | ow d' =>
        rintro ⟨p, _, h1, h2⟩ e'
        cases e'
        rw [h1] at h'; cases h'
        exact ⟨rfl, .inr ⟨p, rfl, h2⟩⟩
theorem get_not_ex {a : AK} {n : Str} {d : Option D} {Δ' : SD} : mGet a Δ ≠ .ex n d Δ' := by
  intro e
  cases a with
  | v _ => cases e
  | s i =>
    have e' : (match SC.rd Δ[i]? with
      | some d => Res.ok d Δ
      | none => Res.bad) = Res.ex n d Δ' := e
    split at e' <;> cases e'
/-- behind an operand: what is wanted holds of the data read -/
theorem Post.get {α : Type} {ok : α → SD → Prop} {g : D → M α} (s : SR c x σ H Δ) {a : AK} {v : V} (h : AKOk c x σ H a v) (p : Post c W x σ H ok (mBind (mGet a) g Δ)) : ∃ d, Rep1 c.toGc x.Av H d v ∧ Post c W x σ H ok (g d Δ) := by
  unfold mBind at p
  cases e : mGet a Δ with
  | ok d Δ' =>
    obtain ⟨rfl, r⟩ := get_ok s h e
    rw [e] at p
    exact ⟨d, r, p⟩
  | ex n d Δ' => exact absurd e get_not_ex
  | bad => rw [e] at p; exact p.elim
def Rep1L (G : Gc) (Av : Addr → Prop) (H : Hp) : List D → List V → Prop
  | [], vs => vs = []
  | d :: ds, vs => ∃ v r, vs = v :: r ∧ Rep1 G Av H d v ∧ Rep1L G Av H ds r
theorem Post.gets {α : Type} {ok : α → SD → Prop} (s : SR c x σ H Δ) : ∀ {as : List AK} {vs : List V} {g : List D → M α}, AKsOk c x σ H as vs → Post c W x σ H ok (mBind (mGets as) g Δ) → ∃ ds, Rep1L c.toGc x.Av H ds vs ∧ Post c W x σ H ok (g ds Δ)
  | [], vs, g, h, p => ⟨[], h, p⟩
  | a :: as, vs, g, ⟨v, r, e, h1, h2⟩, p => by
    have p' : Post c W x σ H ok (mBind (mGet a) (fun d => mBind (mGets as) fun ds => g (d :: ds)) Δ) := by
      refine cast (congrArg _ ?_) p
      show mBind (mBind (mGet a) fun d => mBind (mGets as) fun ds => mPure (d :: ds)) g Δ = _
      unfold mBind
      cases mGet a Δ with
      | ok d Δ1 =>
        dsimp only
        cases mGets as Δ1 with
        | ok ds Δ2 => rfl
        | ex n d Δ' => rfl
        | bad => rfl
      | ex n d Δ' => rfl
      | bad => rfl
    obtain ⟨d, r1, p1⟩ := Post.get s h1 p'
    obtain ⟨ds, r2, p2⟩ := Post.gets s h2 p1
    exact ⟨d :: ds, ⟨v, r, e, r1, r2⟩, p2⟩
end

/-! ### operands -/
section
variable {X : Cx} {c : Ct} {W : WX} {k : Nat} {ex a b : Expr} {es : List Expr} {f fa fb : M D} {pos : Pos}
theorem DE.o (h : DE X c W ex f) : DO X c W ex (mV f) := by
  obtain ⟨t, p, s⟩ := h.out
  exact ⟨t, p, fun x σ H Δ Q sr q => s x σ H Δ Q sr (q.bind fun d Δ1 q1 v x' H' k' s' r => q1 v x' H' k' s' r)⟩
theorem DF.de (h : DF X c W ex f) : DE X c W ex f := by
  obtain ⟨t, p, s⟩ := h.out
  exact ⟨t, p, s.e⟩
theorem DF.o (h : DF X c W ex f) : DO X c W ex (mV f) := h.de.o
theorem do_slot {i : Nat} {x : Str} (hN : X.N[i]? = some x) (hv : Vis X.env.scope x) (hd : (x == ("__debug__" : Str)) = false := by decide) (hcd : (x == ("__classdict__" : Str)) = false := by decide) : DO X c W (.Name x pos) (mSlot i) := by
  refine ⟨tVar i, pe_var hN hv hd hcd, fun y σ H Δ Q sr q => ?_⟩
  have sl := sr.slot i
  have q' : Post c W y σ H (okO c y σ H Q) (match SC.rd Δ[i]? with
    | some _ => Res.ok (.s i) Δ
    | none => Res.bad) := q
  revert sl q'
  cases Δ[i]? with
  | none => intro _ q'; exact q'.elim
  | some z =>
    cases z with
    | un => intro _ q'; exact q'.elim
    | sh d =>
      rintro ⟨v, h1, h2⟩ q'
      exact ⟨v, h1, q' v y H (Kp.refl _ _) sr h1⟩
    | ow d =>
      rintro ⟨p, h0, h1, h2⟩ q'
      exact ⟨.ref p, h1, q' _ y H (Kp.refl _ _) sr h1⟩
theorem da_nil : DA X c W [] mNil := ⟨tNil, pa_nil, fun x σ H Δ Q sr q => q [] x H (Kp.refl _ _) sr rfl⟩
theorem da_cons {fo : M AK} {fr : M (List AK)} (h : DO X c W ex fo) (r : DA X c W es fr) (hs : starEach (ex :: es) X.env = (false, eval ex X.env) :: starEach es X.env := by rfl) : DA X c W (ex :: es) (mCons fo fr) := by
  obtain ⟨t, p, s⟩ := h.out
  obtain ⟨u, p', s'⟩ := r.out
  refine ⟨tCons t u, pa_cons p p' hs, fun x σ H Δ Q sr q => ?_⟩
  refine s x σ H Δ _ sr (q.bind fun a Δ1 q1 v x1 H1 k1 sr1 h1 => ?_)
  refine s' x1 σ H1 Δ1 _ sr1 ((q1.step k1 fun a Δ q => okA.step k1 q).bind fun as Δ2 q2 vs x2 H2 k2 sr2 h2 => ?_)
  exact q2 (v :: vs) x2 H2 k2 sr2 ⟨v, vs, rfl, h1.kp sr1 k2, h2⟩

/-! ### names and constants -/
/-- an object that a slot held is shared -/
theorem SR.freeze {x : Sx} {σ : St} {H : Hp} {Δ : SD} (s : SR c x σ H Δ) {i : Nat} {d : D} (h : Δ[i]? = some (.ow d)) (hio : ∀ p ∈ c.io, p.1 ≠ i) : ∃ x' v, Kp x H x' H ∧ SR c x' σ H (Δ.set i (.sh d)) ∧ σ[i]? = some (some v) ∧ Rep c.toGc x'.Av H d v := by
  have sl := s.slot i
  rw [h] at sl
  obtain ⟨a, h0, h1, h2⟩ := sl
  obtain ⟨nav, hal, hor⟩ := s.ow i a h0
  have hH0 : c.H0 a = none := by
    rcases hor with q | ⟨p, hp, e⟩
    · exact q
    · have q1 := s.ios p hp
      rw [e] at q1
      exact absurd (s.inj _ _ _ q1 h0) (hio p hp)
  have hA0 : c.A0 a := s.a0 a hH0
  have rho : ∀ {j b}, (if j = i then none else x.ρ j) = some b → j ≠ i ∧ x.ρ j = some b := fun {j b} q => by
    by_cases e : j = i
    · rw [if_pos e] at q; cases q
    · rw [if_neg e] at q; exact ⟨e, q⟩
  refine ⟨⟨fun b => x.Av b ∨ b = a, fun j => if j = i then none else x.ρ j⟩, .ref a, ⟨fun p o hp _ _ => hp, fun p hp => hp, fun j p hj => .inl ⟨j, (rho hj).2⟩, fun p hp _ => .inl hp, fun p hp => hp.elim (fun q => .inl q) fun e => .inr (.inr ⟨i, e ▸ h0⟩)⟩, ?_, h1, h2.rep⟩
  exact {
    len := by rw [List.length_set]; exact s.len
    base := s.base
    tab := s.tab
    trk := s.trk
    fr := fun p q => .inl (s.fr p q)
    av := fun b q => q.elim (s.av b) fun e => e ▸ hA0
    a0 := s.a0
    ow := fun j b q => ⟨fun z => z.elim (s.ow j b (rho q).2).1 fun e => (rho q).1 (s.inj _ _ _ (rho q).2 (e ▸ h0)), (s.ow j b (rho q).2).2⟩
    inj := fun j l b q1 q2 => s.inj _ _ _ (rho q1).2 (rho q2).2
    slot := fun j => by
      by_cases e : j = i
      · subst e
        have hl : j < Δ.length := (List.getElem?_eq_some_iff.mp h).1
        rw [List.getElem?_set_self hl]
        exact ⟨_, h1, h2.rep⟩
      · rw [List.getElem?_set_ne (Ne.symm e)]
        have z := s.slot j
        revert z
        cases Δ[j]? with
        | none => intro _; trivial
        | some w =>
          cases w with
          | un => intro _; trivial
          | sh d' => exact fun ⟨v, z1, z2⟩ => ⟨v, z1, z2.keep (Keep.sub fun _ _ q => .inl q)⟩
          | ow d' => exact fun ⟨b, z0, z1, z2⟩ => ⟨b, by show (if j = i then none else x.ρ j) = some b; rw [if_neg e]; exact z0, z1, z2.sub fun _ _ q => .inl q⟩
    ios := fun p hp => by show (if p.1 = i then none else x.ρ p.1) = some p.2; rw [if_neg (hio p hp)]; exact s.ios p hp }
theorem de_var {i : Nat} {x : Str} (hio : ∀ p ∈ c.io, p.1 ≠ i) (hN : X.N[i]? = some x) (hv : Vis X.env.scope x) (hd : (x == ("__debug__" : Str)) = false := by decide) (hcd : (x == ("__classdict__" : Str)) = false := by decide) : DE X c W (.Name x pos) (mVar i) := by
  refine ⟨tVar i, pe_var hN hv hd hcd, fun y σ H Δ Q sr q => ?_⟩
  have sl := sr.slot i
  have q' : Post c W y σ H (okV c y σ H Q) (match Δ[i]? with
    | some (.sh d) => Res.ok d Δ
    | some (.ow d) => Res.ok d (Δ.set i (.sh d))
    | _ => Res.bad) := q
  cases e : Δ[i]? with
  | none => rw [e] at q'; exact q'.elim
  | some z =>
    rw [e] at q' sl
    cases z with
    | un => exact q'.elim
    | sh d =>
      obtain ⟨v, h1, h2⟩ := sl
      exact ⟨v, h1, q' v y H (Kp.refl _ _) sr h2⟩
    | ow d =>
      obtain ⟨x', v, k', s', h1, r⟩ := sr.freeze e hio
      exact ⟨v, h1, q' v x' H k' s' r⟩
theorem de_c {v : V} {d : D} (p : PE X ex (tC v)) (h : ∀ Av H, Rep c.toGc Av H d v) : DE X c W ex (mPure d) := ⟨_, p, fun x σ H Δ Q sr q => q v x H (Kp.refl _ _) sr (h _ _)⟩
theorem de_int {i j} : DE X c W (.Constant (.int i) j pos) (mPure (.int i)) := de_c pe_int fun _ _ => by unfold Rep; rfl
theorem de_bl {b j} : DE X c W (.Constant (.bool b) j pos) (mPure (.bl b)) := de_c pe_bl fun _ _ => by unfold Rep; rfl
theorem de_non {j} : DE X c W (.Constant .none j pos) (mPure .non) := de_c pe_non fun _ _ => by unfold Rep; rfl
theorem de_str {x j} : DE X c W (.Constant (.str x) j pos) (mPure (.str x)) := de_c pe_str fun _ _ => by unfold Rep; rfl
end
end DL

namespace DL
open PySem L2

abbrev Fresh (H : Hp) (Av : Addr → Prop) : Prop := ∀ p, H p = none → Av p
/-- a value comes back, new objects alone are made -/
def outV (G : Gc) (Av : Addr → Prop) (H : Hp) (Q : VK) : Option D → Prop
  | some d => ∀ v H', Ex H H' → Rep G Av H' d v → Q v H'
  | none => False
/-- a new object comes back -/
def outN (G : Gc) (Av : Addr → Prop) (H : Hp) (Q : VK) : Option D → Prop
  | some d => ∀ p H', H p = none → H' p ≠ none → Ex H H' → Own G (fun a => Av a ∧ a ≠ p) H' p d → Q (.ref p) H'
  | none => False
def OpD (G : Gc) (r : R2) (f : D → D → Option D) : Prop := ∀ Av H dx dy x y Q, Fresh H Av → Rep1 G Av H dx x → Rep1 G Av H dy y → outV G Av H Q (f dx dy) → r x y H Q
def OpN (G : Gc) (r : R2) (f : D → D → Option D) : Prop := ∀ Av H dx dy x y Q, Fresh H Av → Rep1 G Av H dx x → Rep1 G Av H dy y → outN G Av H Q (f dx dy) → r x y H Q
def UnD (G : Gc) (r : V → Hp → VK → Prop) (f : D → Option D) : Prop := ∀ Av H dx x Q, Fresh H Av → Rep1 G Av H dx x → outV G Av H Q (f dx) → r x H Q
def CaD (G : Gc) (r : List V → Hp → VK → Prop) (f : List D → Option D) : Prop := ∀ Av H ds vs Q, Fresh H Av → Rep1L G Av H ds vs → outV G Av H Q (f ds) → r vs H Q
def CaN (G : Gc) (r : List V → Hp → VK → Prop) (f : List D → Option D) : Prop := ∀ Av H ds vs Q, Fresh H Av → Rep1L G Av H ds vs → outN G Av H Q (f ds) → r vs H Q

def mOp (g : D → D → Option D) (fa fb : M AK) : M D := mBind fa fun a => mBind fb fun b => mBind (mGet a) fun x => mBind (mGet b) fun y => mOpt (g x y)
def mUn (g : D → Option D) (fa : M AK) : M D := mBind fa fun a => mBind (mGet a) fun x => mOpt (g x)
def mCb (g : List D → Option D) (fs : M (List AK)) : M D := mBind fs fun as => mBind (mGets as) fun ds => mOpt (g ds)

section
variable {c : Ct} {W : WX} {x : Sx} {σ : St} {H H' : Hp} {Δ : SD} {Q : VK}
/-- the end of a value that is made by new objects alone -/
theorem Post.outV {o : Option D} (s : SR c x σ H Δ) (h : Post c W x σ H (okV c x σ H Q) (mOpt o Δ)) : outV c.toGc x.Av H Q o := by
  cases o with
  | none => exact h
  | some d => exact fun v H' e r => h v x H' (Kp.ex e x) (s.ex e) r
theorem SR.alloc (s : SR c x σ H Δ) {p : Addr} (hp : H p = none) (e : Ex H H') : Kp x H ⟨fun a => x.Av a ∧ a ≠ p, x.ρ⟩ H' ∧ (H' p ≠ none → SR c ⟨fun a => x.Av a ∧ a ≠ p, x.ρ⟩ σ H' Δ) ∧ c.H0 p = none ∧ ∀ i, x.ρ i ≠ some p := by
  have ne : ∀ {a : Addr}, H a ≠ none → a ≠ p := fun h z => h (z ▸ hp)
  have nr : ∀ i, x.ρ i ≠ some p := fun i h => (s.ow i p h).2.1 hp
  have kp : Keep c.toGc x.Av (fun a => x.Av a ∧ a ≠ p) H H' := by
    have k0 := e.keep (G := c.toGc) (Av := x.Av)
    exact ⟨k0.rd, k0.lst, k0.tup, k0.ins, fun a u ha r => ⟨ha, ne (by rcases r with r | ⟨o, r⟩ <;> (rw [r]; intro q; cases q))⟩⟩
  refine ⟨⟨fun a o h _ _ => e a o h, fun a h => e.none h, fun i a h => .inl ⟨i, h⟩, fun a h n => ⟨h, ne n⟩, fun a h => .inl h.1⟩, fun hn => ?_, s.trk p hp, nr⟩
  exact {
    len := s.len
    base := fun a o h f n => e a o (s.base a o h f n)
    tab := s.tab.ext e
    trk := fun a h => s.trk a (e.none h)
    fr := fun a h => ⟨s.fr a (e.none h), fun z => hn (z ▸ h)⟩
    av := fun a h => s.av a h.1
    a0 := s.a0
    ow := fun i a h => ⟨fun q => (s.ow i a h).1 q.1, fun q => (s.ow i a h).2.1 (e.none q), (s.ow i a h).2.2⟩
    inj := s.inj
    slot := fun i => by
      have h := s.slot i
      revert h
      cases Δ[i]? with
      | none => intro _; trivial
      | some z =>
        cases z with
        | un => intro _; trivial
        | sh d => exact fun ⟨v, h1, h2⟩ => ⟨v, h1, h2.keep kp⟩
        | ow d => exact fun ⟨a, h0, h1, h2⟩ => ⟨a, h0, h1, (h2.sub fun b hb z => ⟨z, ne hb⟩).ex e⟩
    ios := s.ios }
theorem Post.outN {o : Option D} (s : SR c x σ H Δ) (h : Post c W x σ H (okF c x σ H Q) (mOpt o Δ)) : outN c.toGc x.Av H Q o := by
  cases o with
  | none => exact h
  | some d =>
    intro p H' hp hn e r
    obtain ⟨k, sr, h0, nr⟩ := s.alloc hp e
    exact h p _ H' k (sr hn) h0 hp (fun q => q.2 rfl) nr r
end

section
variable {X : Cx} {c : Ct} {W : WX} {k : Nat} {ea eb : Expr} {es : List Expr} {fa fb : M AK} {fs : M (List AK)} {pos : Pos} {g : D → D → Option D} {r : R2} {op : Operator}
theorem sound_op {ta tb : TE} (sa : SoundO c W ta fa) (sb : SoundO c W tb fb) (h : OpD c.toGc r g) : SoundE c W (tOp r ta tb) (mOp g fa fb) := by
  refine fun x σ H Δ Q sr q => sa x σ H Δ _ sr (q.bind fun a Δ1 q1 v x1 H1 k1 sr1 h1 => ?_)
  refine sb x1 σ H1 Δ1 _ sr1 ((q1.step k1 fun a Δ q => okV.step k1 q).bind fun b Δ2 q2 u x2 H2 k2 sr2 h2 => ?_)
  have q3 := q2.step k2 fun a Δ q => okV.step k2 q
  obtain ⟨dx, r1, q4⟩ := Post.get sr2 (h1.kp sr1 k2) q3
  obtain ⟨dy, r2, q5⟩ := Post.get sr2 h2 q4
  exact h x2.Av H2 dx dy v u Q sr2.fr r1 r2 (Post.outV sr2 q5)
theorem sound_opN {ta tb : TE} (sa : SoundO c W ta fa) (sb : SoundO c W tb fb) (h : OpN c.toGc r g) : SoundF c W (tOp r ta tb) (mOp g fa fb) := by
  refine fun x σ H Δ Q sr q => sa x σ H Δ _ sr (q.bind fun a Δ1 q1 v x1 H1 k1 sr1 h1 => ?_)
  refine sb x1 σ H1 Δ1 _ sr1 ((q1.step k1 fun a Δ q => okF.step k1 q).bind fun b Δ2 q2 u x2 H2 k2 sr2 h2 => ?_)
  have q3 := q2.step k2 fun a Δ q => okF.step k2 q
  obtain ⟨dx, r1, q4⟩ := Post.get sr2 (h1.kp sr1 k2) q3
  obtain ⟨dy, r2, q5⟩ := Post.get sr2 h2 q4
  exact h x2.Av H2 dx dy v u Q sr2.fr r1 r2 (Post.outN sr2 q5)
theorem de_op (ho : OpR X (binaryOp op) r) (h : OpD c.toGc r g) (ha : DO X c W ea fa) (hb : DO X c W eb fb) : DE X c W (.BinOp ea op eb pos) (mOp g fa fb) := by
  obtain ⟨ta, pa, sa⟩ := ha.out
  obtain ⟨tb, pb, sb⟩ := hb.out
  exact ⟨_, pe_op ho pa pb, sound_op sa sb h⟩
theorem df_op (ho : OpR X (binaryOp op) r) (h : OpN c.toGc r g) (ha : DO X c W ea fa) (hb : DO X c W eb fb) : DF X c W (.BinOp ea op eb pos) (mOp g fa fb) := by
  obtain ⟨ta, pa, sa⟩ := ha.out
  obtain ⟨tb, pb, sb⟩ := hb.out
  exact ⟨_, pe_op ho pa pb, sound_opN sa sb h⟩
theorem de_cmp {op : CmpOp} (ho : OpR X (compareOp op) r) (h : OpD c.toGc r g) (ha : DO X c W ea fa) (hb : DO X c W eb fb) (hm : behindInMarks op eb = false) : DE X c W (.Compare ea [op] [eb] pos) (mOp g fa fb) := by
  obtain ⟨ta, pa, sa⟩ := ha.out
  obtain ⟨tb, pb, sb⟩ := hb.out
  exact ⟨_, pe_cmpR ho pa pb hm, sound_op sa sb h⟩
theorem de_un {op : UnaryOp} {r : V → Hp → VK → Prop} {g : D → Option D} (ho : UnR X (unaryOp op) r) (h : UnD c.toGc r g) (ha : DO X c W ea fa) : DE X c W (.UnaryOp op ea pos) (mUn g fa) := by
  obtain ⟨ta, pa, sa⟩ := ha.out
  refine ⟨_, pe_un ho pa, fun x σ H Δ Q sr q => sa x σ H Δ _ sr (q.bind fun a Δ1 q1 v x1 H1 k1 sr1 h1 => ?_)⟩
  have q2 := q1.step k1 fun a Δ q => okV.step k1 q
  obtain ⟨dx, r1, q3⟩ := Post.get sr1 h1 q2
  exact h x1.Av H1 dx v Q sr1.fr r1 (Post.outV sr1 q3)
theorem sound_cb {t : TA} {r : List V → Hp → VK → Prop} {g : List D → Option D} (s : SoundA c W t fs) (h : CaD c.toGc r g) : SoundE c W (tCB r t) (mCb g fs) := by
  refine fun x σ H Δ Q sr q => s x σ H Δ _ sr (q.bind fun a Δ1 q1 v x1 H1 k1 sr1 h1 => ?_)
  have q2 := q1.step k1 fun a Δ q => okV.step k1 q
  obtain ⟨ds, r1, q3⟩ := Post.gets sr1 h1 q2
  exact h x1.Av H1 ds v Q sr1.fr r1 (Post.outV sr1 q3)
theorem sound_cbN {t : TA} {r : List V → Hp → VK → Prop} {g : List D → Option D} (s : SoundA c W t fs) (h : CaN c.toGc r g) : SoundF c W (tCB r t) (mCb g fs) := by
  refine fun x σ H Δ Q sr q => s x σ H Δ _ sr (q.bind fun a Δ1 q1 v x1 H1 k1 sr1 h1 => ?_)
  have q2 := q1.step k1 fun a Δ q => okF.step k1 q
  obtain ⟨ds, r1, q3⟩ := Post.gets sr1 h1 q2
  exact h x1.Av H1 ds v Q sr1.fr r1 (Post.outN sr1 q3)
variable {r' : List V → Hp → VK → Prop} {g' : List D → Option D} {nm : Str} {id T : String} {p : Pos} {e : Expr}
theorem de_callB (hc : CallR X (.builtin id) r') (h : CaD c.toGc r' g') (hg : Gl X nm) (hm : X.mg nm = none) (hv : bootBuiltins nm = some (.builtin id)) (ha : DA X c W (e :: es) fs) (hn : nm ≠ "__name__" := by decide) (hdb : (nm == ("__debug__" : Str)) = false := by decide)
    (he : starEach (e :: es) X.env = (false, eval e X.env) :: starEach es X.env := by rfl) (hpl : (backTo pos (starEach es X.env)).any (·.1) = false := by rfl) : DE X c W (.Call (.Name nm p) (e :: es) [] pos) (mCb g' fs) := by
  obtain ⟨t, pa, s⟩ := ha.out
  exact ⟨_, pe_callB hc hg hm hv pa hn hdb he hpl, sound_cb s h⟩
theorem df_callB (hc : CallR X (.builtin id) r') (h : CaN c.toGc r' g') (hg : Gl X nm) (hm : X.mg nm = none) (hv : bootBuiltins nm = some (.builtin id)) (ha : DA X c W (e :: es) fs) (hn : nm ≠ "__name__" := by decide) (hdb : (nm == ("__debug__" : Str)) = false := by decide)
    (he : starEach (e :: es) X.env = (false, eval e X.env) :: starEach es X.env := by rfl) (hpl : (backTo pos (starEach es X.env)).any (·.1) = false := by rfl) : DF X c W (.Call (.Name nm p) (e :: es) [] pos) (mCb g' fs) := by
  obtain ⟨t, pa, s⟩ := ha.out
  exact ⟨_, pe_callB hc hg hm hv pa hn hdb he hpl, sound_cbN s h⟩
theorem de_callT (hc : CallR X (.type T) r') (h : CaD c.toGc r' g') (hg : Gl X nm) (hm : X.mg nm = none) (hv : bootBuiltins nm = some (.type T)) (ha : DA X c W (e :: es) fs) (hn : nm ≠ "__name__" := by decide) (hdb : (nm == ("__debug__" : Str)) = false := by decide)
    (he : starEach (e :: es) X.env = (false, eval e X.env) :: starEach es X.env := by rfl) (hpl : (backTo pos (starEach es X.env)).any (·.1) = false := by rfl) : DE X c W (.Call (.Name nm p) (e :: es) [] pos) (mCb g' fs) := by
  obtain ⟨t, pa, s⟩ := ha.out
  exact ⟨_, pe_callTy hc hg hm hv pa hn hdb he hpl, sound_cb s h⟩
theorem df_callT (hc : CallR X (.type T) r') (h : CaN c.toGc r' g') (hg : Gl X nm) (hm : X.mg nm = none) (hv : bootBuiltins nm = some (.type T)) (ha : DA X c W (e :: es) fs) (hn : nm ≠ "__name__" := by decide) (hdb : (nm == ("__debug__" : Str)) = false := by decide)
    (he : starEach (e :: es) X.env = (false, eval e X.env) :: starEach es X.env := by rfl) (hpl : (backTo pos (starEach es X.env)).any (·.1) = false := by rfl) : DF X c W (.Call (.Name nm p) (e :: es) [] pos) (mCb g' fs) := by
  obtain ⟨t, pa, s⟩ := ha.out
  exact ⟨_, pe_callTy hc hg hm hv pa hn hdb he hpl, sound_cbN s h⟩
end

/-! ### displays -/
section
variable {X : Cx} {c : Ct} {W : WX} {es : List Expr} {fs : M (List AK)} {pos : Pos}
/-- every part of an aggregate is shared -/
def mVals : List AK → M (List D)
  | [] => mPure []
  | .v d :: as => mBind (mVals as) fun ds => mPure (d :: ds)
  | .s _ :: _ => mBad
theorem Post.vals {α : Type} {ok : α → SD → Prop} {x : Sx} {σ : St} {H : Hp} {Δ : SD} (s : SR c x σ H Δ) : ∀ {as : List AK} {vs : List V} {g : List D → M α}, AKsOk c x σ H as vs → Post c W x σ H ok (mBind (mVals as) g Δ) → ∃ ds, RepL c.toGc x.Av H ds vs ∧ Post c W x σ H ok (g ds Δ)
  | [], vs, g, h, p => ⟨[], by unfold RepL; exact h, p⟩
  | .v d :: as, vs, g, ⟨v, r, e, h1, h2⟩, p => by
    have p' : Post c W x σ H ok (mBind (mVals as) (fun ds => g (d :: ds)) Δ) := by
      refine cast (congrArg _ ?_) p
      show mBind (mBind (mVals as) fun ds => mPure (d :: ds)) g Δ = _
      unfold mBind
      cases mVals as Δ with
      | ok ds Δ2 => rfl
      | ex n d Δ' => rfl
      | bad => rfl
    obtain ⟨ds, r2, p2⟩ := Post.vals s h2 p'
    exact ⟨d :: ds, by unfold RepL; exact ⟨v, r, e, h1, r2⟩, p2⟩
  | .s i :: as, vs, g, h, p => p.elim
def lim : Nat := 1000000
theorem lim_ok {n : Nat} (h : n ≤ lim) : n ≤ sizeLine := Nat.le_trans h (by rw [PySem.sizeLine_eq]; decide)
def mLst (f : M (List AK)) : M D := mBind f fun as => mBind (mVals as) fun ds => if ds.length ≤ lim then mPure (.lst ds) else mBad
def mTup (f : M (List AK)) : M D := mBind f fun as => mBind (mVals as) fun ds => if ds.length ≤ lim then mPure (.tup ds) else mBad
theorem repL_length {G : Gc} {Av : Addr → Prop} {H : Hp} : ∀ {ds : List D} {vs : List V}, RepL G Av H ds vs → vs.length = ds.length
  | [], vs, h => by unfold RepL at h; rw [h]; rfl
  | d :: ds, vs, h => by
    unfold RepL at h
    obtain ⟨v, r, e, _, h2⟩ := h
    rw [e, List.length_cons, List.length_cons, repL_length h2]
/-- parts at a heap with one object more, that object left out -/
theorem RepL.out {G : Gc} {Av : Addr → Prop} {H H' : Hp} {p : Addr} (hp : H p = none) (e : Ex H H') {ds : List D} {vs : List V} (h : RepL G Av H ds vs) : RepL G (fun a => Av a ∧ a ≠ p) H' ds vs := by
  have k0 := e.keep (G := G) (Av := Av)
  exact h.keep ⟨k0.rd, k0.lst, k0.tup, k0.ins, fun a u ha r => ⟨ha, fun z => by
    subst z
    rcases r with r | ⟨o, r⟩ <;> (rw [hp] at r; cases r)⟩⟩
theorem df_lst (h : DA X c W es fs) : DF X c W (.List es pos) (mLst fs) := by
  obtain ⟨t, p, s⟩ := h.out
  refine ⟨_, pe_lst p, fun x σ H Δ Q sr q => s x σ H Δ _ sr (q.bind fun as Δ1 q1 vs x1 H1 k1 sr1 h1 => ?_)⟩
  obtain ⟨ds, rl, q2⟩ := Post.vals sr1 h1 (q1.step k1 fun a Δ q => okF.step k1 q)
  by_cases hz : ds.length ≤ lim
  · rw [if_pos hz] at q2
    refine ⟨by rw [repL_length rl]; exact lim_ok hz, fun a ha => ?_⟩
    obtain ⟨k, sr2, h0, nr⟩ := sr1.alloc ha (Ex.new (o := .lst vs) ha)
    exact q2 a _ _ k (sr2 (by rw [upd_same]; intro z; cases z)) h0 ha (fun z => z.2 rfl) nr ⟨vs, upd_same, rl.out ha (Ex.new ha)⟩
  · rw [if_neg hz] at q2
    exact q2.elim
theorem de_tup {n} (h : DA X c W es fs) : DE X c W (.Tuple es n pos) (mTup fs) := by
  obtain ⟨t, p, s⟩ := h.out
  refine ⟨_, pe_tup p, fun x σ H Δ Q sr q => s x σ H Δ _ sr (q.bind fun as Δ1 q1 vs x1 H1 k1 sr1 h1 => ?_)⟩
  obtain ⟨ds, rl, q2⟩ := Post.vals sr1 h1 (q1.step k1 fun a Δ q => okV.step k1 q)
  by_cases hz : ds.length ≤ lim
  · rw [if_pos hz] at q2
    refine ⟨by rw [repL_length rl]; exact lim_ok hz, fun a ha => ?_⟩
    have e : Ex H1 (upd H1 a (.tup vs)) := Ex.new ha
    exact q2 _ x1 _ (Kp.ex e x1) (sr1.ex e) (by unfold Rep; exact ⟨a, vs, rfl, sr1.fr a ha, upd_same, rl.keep e.keep⟩)
  · rw [if_neg hz] at q2
    exact q2.elim
end
end DL

namespace DL
open PySem L2

section
variable {G : Gc} {Av : Addr → Prop} {H : Hp} {v : V}
theorem rep_non (h : Rep1 G Av H .non v) : v = .non := by
  rcases h with h | ⟨a, e, h⟩
  · unfold Rep at h; exact h
  · exact h.elim
theorem rep_int {i : Int} (h : Rep1 G Av H (.int i) v) : v = .int i := by
  rcases h with h | ⟨a, e, h⟩
  · unfold Rep at h; exact h
  · exact h.elim
theorem rep_bl {i : Bool} (h : Rep1 G Av H (.bl i) v) : v = .bl i := by
  rcases h with h | ⟨a, e, h⟩
  · unfold Rep at h; exact h
  · exact h.elim
theorem rep_str {i : Str} (h : Rep1 G Av H (.str i) v) : v = .str i := by
  rcases h with h | ⟨a, e, h⟩
  · unfold Rep at h; exact h
  · exact h.elim
theorem rep_lst {ds : List D} (h : Rep1 G Av H (.lst ds) v) : ∃ a vs, v = .ref a ∧ H a = some (.lst vs) ∧ RepL G Av H ds vs := by
  rcases h with h | ⟨a, e, h⟩
  · unfold Rep at h
    obtain ⟨a, vs, e, _, hh, r⟩ := h
    exact ⟨a, vs, e, hh, r⟩
  · obtain ⟨vs, hh, r⟩ := h
    exact ⟨a, vs, e, hh, r⟩
theorem rep_tup {ds : List D} (h : Rep1 G Av H (.tup ds) v) : ∃ a vs, v = .ref a ∧ Av a ∧ H a = some (.tup vs) ∧ RepL G Av H ds vs := by
  rcases h with h | ⟨a, e, h⟩
  · unfold Rep at h
    exact h
  · exact h.elim
theorem rep_scr {ns : List Int} (h : Rep1 G Av H (.scr ns) v) : ∃ a, v = .ref a ∧ SqL G.K H a (ns.map V.int) := by
  rcases h with h | ⟨a, e, h⟩
  · unfold Rep at h
    obtain ⟨a, e, h⟩ := h
    refine ⟨a, e, ?_⟩
    rcases h with ⟨_, h⟩ | h
    · exact .inl h
    · exact h H
  · exact h.elim
theorem mk_int {i : Int} : Rep G Av H (.int i) (.int i) := by unfold Rep; rfl
theorem mk_bl {i : Bool} : Rep G Av H (.bl i) (.bl i) := by unfold Rep; rfl
theorem mk_str {i : Str} : Rep G Av H (.str i) (.str i) := by unfold Rep; rfl
theorem mk_non : Rep G Av H .non .non := by unfold Rep; rfl
theorem RepL.app : ∀ {ds es : List D} {vs us : List V}, RepL G Av H ds vs → RepL G Av H es us → RepL G Av H (ds ++ es) (vs ++ us)
  | [], es, vs, us, h, h' => by unfold RepL at h; subst h; exact h'
  | d :: ds, es, vs, us, h, h' => by
    unfold RepL at h
    obtain ⟨v, r, e, h1, h2⟩ := h
    subst e
    show RepL G Av H (d :: (ds ++ es)) (v :: (r ++ us))
    unfold RepL
    exact ⟨v, _, rfl, h1, h2.app h'⟩
theorem RepL.at : ∀ {ds : List D} {vs : List V} {i : Nat} {d : D}, RepL G Av H ds vs → ds[i]? = some d → ∃ v, vs[i]? = some v ∧ Rep G Av H d v
  | [], vs, i, d, h, e => by simp at e
  | d0 :: ds, vs, i, d, h, e => by
    unfold RepL at h
    obtain ⟨v, r, rfl, h1, h2⟩ := h
    cases i with
    | zero => simp at e; subst e; exact ⟨v, rfl, h1⟩
    | succ i => simpa using h2.at (by simpa using e)
theorem RepL.get : ∀ {ds : List D} {vs : List V} {i : Nat} {v : V}, RepL G Av H ds vs → vs[i]? = some v → ∃ d, ds[i]? = some d ∧ Rep G Av H d v := fun {ds vs i v} h e => by
  have hl := repL_length h
  have hi : i < ds.length := by rw [← hl]; exact (List.getElem?_eq_some_iff.mp e).1
  obtain ⟨u, e', r⟩ := h.at (i := i) (d := ds[i]) (by simp [hi])
  rw [e] at e'; cases e'
  exact ⟨_, by simp [hi], r⟩
theorem RepL.take : ∀ {ds : List D} {vs : List V} (n : Nat), RepL G Av H ds vs → RepL G Av H (ds.take n) (vs.take n)
  | ds, vs, 0, h => by simp [RepL]
  | [], vs, n + 1, h => by unfold RepL at h; subst h; simp [RepL]
  | d :: ds, vs, n + 1, h => by
    unfold RepL at h
    obtain ⟨v, r, rfl, h1, h2⟩ := h
    show RepL G Av H (d :: ds.take n) (v :: r.take n)
    unfold RepL
    exact ⟨v, _, rfl, h1, h2.take n⟩
theorem RepL.drop : ∀ {ds : List D} {vs : List V} (n : Nat), RepL G Av H ds vs → RepL G Av H (ds.drop n) (vs.drop n)
  | ds, vs, 0, h => h
  | [], vs, n + 1, h => by unfold RepL at h; subst h; simp [RepL]
  | d :: ds, vs, n + 1, h => by
    unfold RepL at h
    obtain ⟨v, r, rfl, h1, h2⟩ := h
    exact h2.drop n
theorem RepL.rev : ∀ {ds : List D} {vs : List V}, RepL G Av H ds vs → RepL G Av H ds.reverse vs.reverse
  | [], vs, h => by unfold RepL at h; subst h; simp [RepL]
  | d :: ds, vs, h => by
    unfold RepL at h
    obtain ⟨v, r, rfl, h1, h2⟩ := h
    rw [List.reverse_cons, List.reverse_cons]
    exact h2.rev.app (by unfold RepL; exact ⟨v, [], rfl, h1, by unfold RepL; rfl⟩)
theorem RepL.rep {ds : List D} {vs : List V} (h : RepL G Av H ds vs) : ∀ k : Nat, RepL G Av H (List.replicate k ds).flatten (List.replicate k vs).flatten
  | 0 => by simp [RepL]
  | k + 1 => by
    rw [List.replicate_succ, List.replicate_succ, List.flatten_cons, List.flatten_cons]
    exact h.app (h.rep k)
/-- a list of ints -/
def dInts : List D → Option (List Int)
  | [] => some []
  | .int i :: ds => (dInts ds).map (i :: ·)
  | _ :: _ => none
def dBls : List D → Option (List Bool)
  | [] => some []
  | .bl i :: ds => (dBls ds).map (i :: ·)
  | _ :: _ => none
def dStrs : List D → Option (List Str)
  | [] => some []
  | .str i :: ds => (dStrs ds).map (i :: ·)
  | _ :: _ => none
theorem repL_ints : ∀ {ds : List D} {ns : List Int} {vs : List V}, dInts ds = some ns → RepL G Av H ds vs → vs = ns.map V.int
  | [], ns, vs, e, h => by unfold RepL at h; cases e; exact h
  | d :: ds, ns, vs, e, h => by
    unfold RepL at h
    obtain ⟨v, r, rfl, h1, h2⟩ := h
    cases d <;> first
      | (cases e; done)
      | skip
    simp only [dInts, Option.map_eq_some_iff] at e
    obtain ⟨ms, e1, rfl⟩ := e
    rw [repL_ints e1 h2, rep_int (.inl h1)]
    rfl
theorem repL_bls : ∀ {ds : List D} {ns : List Bool} {vs : List V}, dBls ds = some ns → RepL G Av H ds vs → vs = ns.map V.bl
  | [], ns, vs, e, h => by unfold RepL at h; cases e; exact h
  | d :: ds, ns, vs, e, h => by
    unfold RepL at h
    obtain ⟨v, r, rfl, h1, h2⟩ := h
    cases d <;> first
      | (cases e; done)
      | skip
    simp only [dBls, Option.map_eq_some_iff] at e
    obtain ⟨ms, e1, rfl⟩ := e
    rw [repL_bls e1 h2, rep_bl (.inl h1)]
    rfl
theorem repL_strs : ∀ {ds : List D} {ns : List Str} {vs : List V}, dStrs ds = some ns → RepL G Av H ds vs → vs = ns.map V.str
  | [], ns, vs, e, h => by unfold RepL at h; cases e; exact h
  | d :: ds, ns, vs, e, h => by
    unfold RepL at h
    obtain ⟨v, r, rfl, h1, h2⟩ := h
    cases d <;> first
      | (cases e; done)
      | skip
    simp only [dStrs, Option.map_eq_some_iff] at e
    obtain ⟨ms, e1, rfl⟩ := e
    rw [repL_strs e1 h2, rep_str (.inl h1)]
    rfl
theorem mkL_ints : ∀ (ns : List Int), RepL G Av H (ns.map D.int) (ns.map V.int)
  | [] => by unfold RepL; rfl
  | n :: ns => by
    show RepL G Av H (D.int n :: ns.map D.int) (V.int n :: ns.map V.int)
    unfold RepL
    exact ⟨_, _, rfl, mk_int, mkL_ints ns⟩
end

/-! ### + - * // % ** -/
section
variable {G : Gc}
def dAdd : D → D → Option D
  | .int i, .int j => some (.int (i + j))
  | .str a, .str b => if a.length + b.length ≤ lim then some (.str (a ++ b)) else none
  | .lst a, .lst b => if a.length + b.length ≤ lim then some (.lst (a ++ b)) else none
  | .tup a, .tup b => if a ≠ [] ∧ b ≠ [] ∧ a.length + b.length ≤ lim then some (.tup (a ++ b)) else none
  | _, _ => none
def dCat : D → D → Option D
  | .lst a, .lst b => if a.length + b.length ≤ lim then some (.lst (a ++ b)) else none
  | _, _ => none
def rAddS : R2 := fun x y H Q => ∃ i j, x = .str i ∧ y = .str j ∧ i.length + j.length ≤ sizeLine ∧ Q (.str (i ++ j)) H
def rAddD (K : PySem.W.Frag) : R2 := fun x y H Q => rI0 (fun i j => .int (i + j)) x y H Q ∨ (rAddS x y H Q ∨ (rCat x y H Q ∨ rCatT K x y H Q))
theorem op_addD {X : Cx} : OpR X (binaryOp .Add) (rAddD X.K) := op_add.or ((show OpR X (binaryOp .Add) rAddS from op_add_str).or (op_cat.or op_catT))
theorem d_cat_core {Av : Addr → Prop} {H : Hp} {a b : List D} {x y : V} {Q : VK} (rx : Rep1 G Av H (.lst a) x) (ry : Rep1 G Av H (.lst b) y) (hz : a.length + b.length ≤ lim)
    (q : ∀ p vs, H p = none → RepL G Av H (a ++ b) vs → Q (.ref p) (upd H p (.lst vs))) : rCat x y H Q := by
  obtain ⟨l, vs, rfl, h1, r1⟩ := rep_lst rx
  obtain ⟨l2, us, rfl, h2, r2⟩ := rep_lst ry
  exact ⟨l, l2, vs, us, rfl, rfl, h1, h2, by rw [repL_length r1, repL_length r2]; exact lim_ok hz, fun p hp => q p _ hp (r1.app r2)⟩
/-- a new list, shared at once -/
theorem newL {Av : Addr → Prop} {H : Hp} {Q : VK} {ds : List D} {vs : List V} {p : Addr} (fr : Fresh H Av) (hp : H p = none) (r : RepL G Av H ds vs) (q : outV G Av H Q (some (.lst ds))) : Q (.ref p) (upd H p (.lst vs)) :=
  q _ _ (Ex.new hp) (by unfold Rep; exact ⟨p, vs, rfl, fr p hp, upd_same, r.keep (Ex.new hp).keep⟩)
theorem newT {Av : Addr → Prop} {H : Hp} {Q : VK} {ds : List D} {vs : List V} {p : Addr} (fr : Fresh H Av) (hp : H p = none) (r : RepL G Av H ds vs) (q : outV G Av H Q (some (.tup ds))) : Q (.ref p) (upd H p (.tup vs)) :=
  q _ _ (Ex.new hp) (by unfold Rep; exact ⟨p, vs, rfl, fr p hp, upd_same, r.keep (Ex.new hp).keep⟩)
/-- .. held by nobody -/
theorem newLN {Av : Addr → Prop} {H : Hp} {Q : VK} {ds : List D} {vs : List V} {p : Addr} (hp : H p = none) (r : RepL G Av H ds vs) (q : outN G Av H Q (some (.lst ds))) : Q (.ref p) (upd H p (.lst vs)) :=
  q p _ hp (by rw [upd_same]; intro z; cases z) (Ex.new hp) ⟨vs, upd_same, r.out hp (Ex.new hp)⟩
theorem outV.now {Av : Addr → Prop} {H : Hp} {Q : VK} {d : D} {v : V} (q : outV G Av H Q (some d)) (r : Rep G Av H d v) : Q v H := q v H (Ex.refl H) r
theorem d_add : OpD G (rAddD G.K) dAdd := by
  intro Av H dx dy x y Q fr rx ry q
  unfold dAdd at q
  split at q
  · rw [rep_int rx, rep_int ry]; exact .inl ⟨_, _, rfl, rfl, q.now mk_int⟩
  · split at q
    · rename_i hz
      rw [rep_str rx, rep_str ry]; exact .inr (.inl ⟨_, _, rfl, rfl, lim_ok hz, q.now mk_str⟩)
    · exact q.elim
  · split at q
    · rename_i hz
      exact .inr (.inr (.inl (d_cat_core rx ry hz fun p vs hp r => newL fr hp r q)))
    · exact q.elim
  · split at q
    · rename_i hz
      obtain ⟨l, vs, rfl, a1, h1, r1⟩ := rep_tup rx
      obtain ⟨l2, us, rfl, a2, h2, r2⟩ := rep_tup ry
      have n1 : vs ≠ [] := fun z => by
        have := repL_length r1
        rw [z] at this
        exact hz.1 (List.length_eq_zero_iff.mp this.symm)
      have n2 : us ≠ [] := fun z => by
        have := repL_length r2
        rw [z] at this
        exact hz.2.1 (List.length_eq_zero_iff.mp this.symm)
      exact .inr (.inr (.inr ⟨l, l2, vs, us, rfl, rfl, SqT.of h1, SqT.of h2, n1, by rw [repL_length r1, repL_length r2]; exact lim_ok hz.2.2, fun z => absurd z n2, fun _ p hp => newT fr hp (r1.app r2) q⟩))
    · exact q.elim
  · exact q.elim
theorem d_cat : OpN G (rAddD G.K) dCat := by
  intro Av H dx dy x y Q fr rx ry q
  unfold dCat at q
  split at q
  · split at q
    · rename_i hz
      exact .inr (.inr (.inl (d_cat_core rx ry hz fun p vs hp r => newLN hp r q)))
    · exact q.elim
  · exact q.elim
def dSub : D → D → Option D
  | .int i, .int j => some (.int (i - j))
  | _, _ => none
theorem d_sub : OpD G (rI0 fun i j => .int (i - j)) dSub := by
  intro Av H dx dy x y Q fr rx ry q
  unfold dSub at q
  split at q
  · rw [rep_int rx, rep_int ry]; exact ⟨_, _, rfl, rfl, q.now mk_int⟩
  · exact q.elim
instance {i j : Int} : Decidable (CMul i j) := by unfold CMul; infer_instance
/-- a product of ints of less than a million bits together, or one of them below 2 ** 64; a list so often -/
def bitsOk (i j : Int) : Bool := decide (i.natAbs.log2 + j.natAbs.log2 < 1000000) || decide (CMul i j)
def dMul : D → D → Option D
  | .int i, .int j => if bitsOk i j = true then some (.int (i * j)) else none
  | .lst a, .int k => if a.length * k.toNat ≤ lim ∧ -1000000 ≤ k ∧ k ≤ 1000000 then some (.lst (List.replicate k.toNat a).flatten) else none
  | _, _ => none
def dRep : D → D → Option D
  | .lst a, .int k => if a.length * k.toNat ≤ lim ∧ -1000000 ≤ k ∧ k ≤ 1000000 then some (.lst (List.replicate k.toNat a).flatten) else none
  | _, _ => none
def rMulD : R2 := fun x y H Q => (rI CMulW (fun i j => .int (i * j)) x y H Q ∨ rI CMul (fun i j => .int (i * j)) x y H Q) ∨ rRep x y H Q
theorem op_mulD {X : Cx} : OpR X (binaryOp .Mult) rMulD := (op_mulW.or op_mul).or op_rep
theorem d_rep_core {Av : Addr → Prop} {H : Hp} {a : List D} {k : Int} {x y : V} {Q : VK} (rx : Rep1 G Av H (.lst a) x) (ry : Rep1 G Av H (.int k) y) (hz : a.length * k.toNat ≤ lim ∧ -1000000 ≤ k ∧ k ≤ 1000000)
    (q : ∀ p vs, H p = none → RepL G Av H (List.replicate k.toNat a).flatten vs → Q (.ref p) (upd H p (.lst vs))) : rRep x y H Q := by
  obtain ⟨l, vs, rfl, h1, r1⟩ := rep_lst rx
  rw [rep_int ry]
  exact ⟨l, k, vs, rfl, rfl, h1, by omega, by omega, by rw [repL_length r1]; exact lim_ok hz.1, fun p hp => q p _ hp (r1.rep k.toNat)⟩
theorem d_mul : OpD G rMulD dMul := by
  intro Av H dx dy x y Q fr rx ry q
  unfold dMul at q
  split at q
  · split at q
    · rename_i hz
      rw [rep_int rx, rep_int ry]
      unfold bitsOk at hz
      rw [Bool.or_eq_true] at hz
      rcases hz with hz | hz
      · exact .inl (.inl ⟨_, _, rfl, rfl, (by have z := of_decide_eq_true hz; exact z), q.now mk_int⟩)
      · exact .inl (.inr ⟨_, _, rfl, rfl, of_decide_eq_true hz, q.now mk_int⟩)
    · exact q.elim
  · split at q
    · rename_i hz
      exact .inr (d_rep_core rx ry hz fun p vs hp r => newL fr hp r q)
    · exact q.elim
  · exact q.elim
theorem d_rep : OpN G rMulD dRep := by
  intro Av H dx dy x y Q fr rx ry q
  unfold dRep at q
  split at q
  · split at q
    · rename_i hz
      exact .inr (d_rep_core rx ry hz fun p vs hp r => newLN hp r q)
    · exact q.elim
  · exact q.elim
/-- by a positive divisor of less than 9000 bits -/
def divOk (j : Int) : Bool := decide (0 < j ∧ j.natAbs.log2 < 9000)
def dDiv : D → D → Option D
  | .int i, .int j => if divOk j = true then some (.int (i / j)) else none
  | _, _ => none
theorem d_div : OpD G (rI CDivW fun i j => .int (i / j)) dDiv := by
  intro Av H dx dy x y Q fr rx ry q
  unfold dDiv at q
  split at q
  · split at q
    · rename_i hz
      rw [rep_int rx, rep_int ry]; exact ⟨_, _, rfl, rfl, (by have z := of_decide_eq_true hz; exact z), q.now mk_int⟩
    · exact q.elim
  · exact q.elim
def dMod : D → D → Option D
  | .int i, .int j => if 0 < j then some (.int (i % j)) else none
  | _, _ => none
theorem d_mod : OpD G (rI (fun _ j => 0 < j) fun i j => .int (i % j)) dMod := by
  intro Av H dx dy x y Q fr rx ry q
  unfold dMod at q
  split at q
  · split at q
    · rename_i hz
      rw [rep_int rx, rep_int ry]; exact ⟨_, _, rfl, rfl, hz, q.now mk_int⟩
    · exact q.elim
  · exact q.elim
def dPow : D → D → Option D
  | .int i, .int j => if 0 ≤ j ∧ j ≤ 1000 ∧ i.natAbs < 2 ^ 64 then some (.int (i ^ j.toNat)) else none
  | _, _ => none
theorem d_pow : OpD G (rI CPow fun i j => .int (i ^ j.toNat)) dPow := by
  intro Av H dx dy x y Q fr rx ry q
  unfold dPow at q
  split at q
  · split at q
    · rename_i hz
      rw [rep_int rx, rep_int ry]; exact ⟨_, _, rfl, rfl, ⟨hz.1, by omega, hz.2.2⟩, q.now mk_int⟩
    · exact q.elim
  · exact q.elim
def dNeg : D → Option D
  | .int i => some (.int (-i))
  | _ => none
theorem d_neg : UnD G (rU fun i => .int (-i)) dNeg := by
  intro Av H dx x Q fr rx q
  unfold dNeg at q
  split at q
  · rw [rep_int rx]; exact ⟨_, rfl, q.now mk_int⟩
  · exact q.elim

/-! ### order of ints, is -/
def dCmp (p : Int → Int → Bool) : D → D → Option D
  | .int i, .int j => some (.bl (p i j))
  | _, _ => none
theorem d_cmp (p : Int → Int → Bool) : OpD G (rI0 fun i j => .bl (p i j)) (dCmp p) := by
  intro Av H dx dy x y Q fr rx ry q
  unfold dCmp at q
  split at q
  · rw [rep_int rx, rep_int ry]; exact ⟨_, _, rfl, rfl, q.now mk_bl⟩
  · exact q.elim
abbrev dLt := dCmp fun i j => decide (i < j)
abbrev dLe := dCmp fun i j => decide (i ≤ j)
abbrev dGt := dCmp fun i j => decide (j < i)
abbrev dGe := dCmp fun i j => decide (j ≤ i)
def isNon : D → Bool
  | .non => true
  | _ => false
theorem rep_isNon {Av : Addr → Prop} {H : Hp} {d : D} {v : V} (h : Rep1 G Av H d v) : decide (v = .non) = isNon d := by
  rcases h with h | ⟨a, e, h⟩
  · cases d <;> unfold Rep at h <;> simp only [isNon] <;> first
      | (rw [h]; simp; done)
      | (rw [h.1]; simp; done)
      | (obtain ⟨a, vs, e, _⟩ := h; rw [e]; simp; done)
      | (obtain ⟨a, C, dx, vs, e, _⟩ := h; rw [e]; simp; done)
      | (obtain ⟨a, e, e2⟩ := h; first | (rw [e]; simp; done) | (rw [e2]; simp; done))
  · rw [e]
    cases d <;> first | exact h.elim | (simp [isNon])
/-- is, is not: None on the right, or two bools -/
def dIs : D → D → Option D
  | .bl a, .bl b => some (.bl (decide (a = b)))
  | d, .non => some (.bl (isNon d))
  | _, _ => none
def dIsNot : D → D → Option D
  | .bl a, .bl b => some (.bl (!decide (a = b)))
  | d, .non => some (.bl (!isNon d))
  | _, _ => none
def rIsD : R2 := fun x y H Q => (y = .non ∧ Q (.bl (decide (x = .non))) H) ∨ rIsB x y H Q
def rIsNotD : R2 := fun x y H Q => (y = .non ∧ Q (.bl (!decide (x = .non))) H) ∨ rNotB x y H Q
theorem op_isD {X : Cx} : OpR X (compareOp .Is) rIsD := op_isN.or op_isBl
theorem op_isNotD {X : Cx} : OpR X (compareOp .IsNot) rIsNotD := op_notN.or op_notBl
theorem d_is : OpD G rIsD dIs := by
  intro Av H dx dy x y Q fr rx ry q
  unfold dIs at q
  split at q
  · rw [rep_bl rx, rep_bl ry]; exact .inr ⟨_, _, rfl, rfl, q.now mk_bl⟩
  · rw [rep_non ry]; exact .inl ⟨rfl, by rw [rep_isNon rx]; exact q.now mk_bl⟩
  · exact q.elim
theorem d_isNot : OpD G rIsNotD dIsNot := by
  intro Av H dx dy x y Q fr rx ry q
  unfold dIsNot at q
  split at q
  · rw [rep_bl rx, rep_bl ry]; exact .inr ⟨_, _, rfl, rfl, q.now mk_bl⟩
  · rw [rep_non ry]; exact .inl ⟨rfl, by rw [rep_isNon rx]; exact q.now mk_bl⟩
  · exact q.elim
end
end DL

namespace DL
open PySem L2

/-! ### == by the library's data -/
mutual
def toPy : D → Option PyData
  | .non => some .none
  | .bl b => some (.bool b)
  | .int i => some (.int i)
  | .str x => if PySem.PyData.strOk x = true then some (.str x) else none
  | .lst xs => (toPyL xs).map .list
  | .tup xs => (toPyL xs).map .tuple
  | _ => none
def toPyL : List D → Option (List PyData)
  | [] => some []
  | d :: ds => (toPy d).bind fun p => (toPyL ds).map (p :: ·)
end
mutual
theorem canLay_of : ∀ {d : D} {p : PyData}, toPy d = some p → p.canLay0 = true
  | .non, p, e => by cases e; rfl
  | .bl _, p, e => by cases e; rfl
  | .int _, p, e => by cases e; rfl
  | .str x, p, e => by
    simp only [toPy] at e
    split at e
    · rename_i h
      cases e
      simpa [PyData.canLay0] using h
    · cases e
  | .lst xs, p, e => by
    simp only [toPy, Option.map_eq_some_iff] at e
    obtain ⟨ps, e1, rfl⟩ := e
    simpa [PyData.canLay0] using canLayL_of e1
  | .tup xs, p, e => by
    simp only [toPy, Option.map_eq_some_iff] at e
    obtain ⟨ps, e1, rfl⟩ := e
    simpa [PyData.canLay0] using canLayL_of e1
  | .dct _, p, e => by cases e
  | .dcT _, p, e => by cases e
  | .dcN _, p, e => by cases e
  | .obj _ _, p, e => by cases e
  | .scr _, p, e => by cases e
  | .cls _, p, e => by cases e
  | .ty _, p, e => by cases e
theorem canLayL_of : ∀ {ds : List D} {ps : List PyData}, toPyL ds = some ps → PyData.canLayAll0 ps = true
  | [], ps, e => by cases e; rfl
  | d :: ds, ps, e => by
    simp only [toPyL, Option.bind_eq_some_iff, Option.map_eq_some_iff] at e
    obtain ⟨p, e1, qs, e2, rfl⟩ := e
    simp [PyData.canLayAll0, canLay_of e1, canLayL_of e2]
end
section
variable {G : Gc} {Av : Addr → Prop} {H : Hp}
mutual
theorem Rep.dp : ∀ {d : D} {p : PyData} {v : V}, toPy d = some p → Rep G Av H d v → Dp G.K H v p
  | .non, p, v, e, h => by cases e; unfold Rep at h; rw [h]; exact .non
  | .bl _, p, v, e, h => by cases e; unfold Rep at h; rw [h]; exact .bl _
  | .int _, p, v, e, h => by cases e; unfold Rep at h; rw [h]; exact .int _
  | .str _, p, v, e, h => by
    simp only [toPy] at e
    split at e
    · cases e; unfold Rep at h; rw [h]; exact .str _
    · cases e
  | .lst xs, p, v, e, h => by
    simp only [toPy, Option.map_eq_some_iff] at e
    obtain ⟨ps, e1, rfl⟩ := e
    unfold Rep at h
    obtain ⟨a, vs, rfl, _, hh, r⟩ := h
    exact .lst (SqL.of hh) (RepL.dp e1 r)
  | .tup xs, p, v, e, h => by
    simp only [toPy, Option.map_eq_some_iff] at e
    obtain ⟨ps, e1, rfl⟩ := e
    unfold Rep at h
    obtain ⟨a, vs, rfl, _, hh, r⟩ := h
    exact .tup (SqT.of hh) (RepL.dp e1 r)
  | .dct _, p, v, e, h => by cases e
  | .dcT _, p, v, e, h => by cases e
  | .dcN _, p, v, e, h => by cases e
  | .obj _ _, p, v, e, h => by cases e
  | .scr _, p, v, e, h => by cases e
  | .cls _, p, v, e, h => by cases e
  | .ty _, p, v, e, h => by cases e
theorem RepL.dp : ∀ {ds : List D} {ps : List PyData} {vs : List V}, toPyL ds = some ps → RepL G Av H ds vs → DpAll G.K H vs ps
  | [], ps, vs, e, h => by cases e; unfold RepL at h; rw [h]; exact .nil
  | d :: ds, ps, vs, e, h => by
    simp only [toPyL, Option.bind_eq_some_iff, Option.map_eq_some_iff] at e
    obtain ⟨p, e1, qs, e2, rfl⟩ := e
    unfold RepL at h
    obtain ⟨v, r, rfl, h1, h2⟩ := h
    exact .cons (Rep.dp e1 h1) (RepL.dp e2 h2)
end
theorem Rep1.dp {d : D} {p : PyData} {v : V} (e : toPy d = some p) (h : Rep1 G Av H d v) : Dp G.K H v p := by
  rcases h with h | ⟨a, rfl, h⟩
  · exact Rep.dp e h
  · cases d <;> first
      | exact h.elim
      | (cases e; done)
      | skip
    simp only [toPy, Option.map_eq_some_iff] at e
    obtain ⟨ps, e1, rfl⟩ := e
    obtain ⟨vs, hh, r⟩ := h
    exact .lst (SqL.of hh) (RepL.dp e1 r)
end
/-- == of data without dicts, objects -/
def eqP (x y : D) : Option Bool := match toPy x, toPy y with
  | some p, some q => if p.depth ≤ 64 ∧ q.depth ≤ 64 then some (PyData.eqv p q) else none
  | _, _ => none
/-- two texts of any signs; otherwise by eqP -/
def eqD : D → D → Option Bool
  | .str a, .str b => some (decide (a = b))
  | x, y => eqP x y
def rEqX (K : PySem.W.Frag) : R2 := fun x y H Q => rEqD K x y H Q ∨ rEq x y H Q
def rNeX (K : PySem.W.Frag) : R2 := fun x y H Q => rNeD K x y H Q ∨ rNe x y H Q
theorem op_eqX {X : Cx} (hu : X.A.units + 64 < cLine) : OpR X (compareOp .Eq) (rEqX X.K) := (op_eqD hu).or op_eq
theorem op_neX {X : Cx} (hu : X.A.units + 64 < cLine) : OpR X (compareOp .NotEq) (rNeX X.K) := (op_neD hu).or op_ne
def dEq (x y : D) : Option D := (eqD x y).map D.bl
def dNe (x y : D) : Option D := (eqD x y).map fun b => D.bl (!b)
section
variable {G : Gc}
theorem eqP_some {x y : D} {b : Bool} (h : eqP x y = some b) : ∃ p q, toPy x = some p ∧ toPy y = some q ∧ SeqAt.shaped p = true ∧ SeqAt.shaped q = true ∧ b = PyData.eqv p q := by
  unfold eqP at h
  cases e1 : toPy x with
  | none => rw [e1] at h; cases h
  | some p =>
    cases e2 : toPy y with
    | none => rw [e1, e2] at h; cases h
    | some q =>
      rw [e1, e2] at h
      dsimp only at h
      split at h
      · rename_i hd
        cases h
        exact ⟨p, q, rfl, rfl, by simp [SeqAt.shaped, canLay_of e1, hd.1], by simp [SeqAt.shaped, canLay_of e2, hd.2], rfl⟩
      · cases h
theorem eqD_cases {x y : D} {b : Bool} (h : eqD x y = some b) : (∃ i j, x = .str i ∧ y = .str j ∧ b = decide (i = j)) ∨ eqP x y = some b := by
  unfold eqD at h
  split at h
  · cases h; exact .inl ⟨_, _, rfl, rfl, rfl⟩
  · exact .inr h
theorem d_eq : OpD G (rEqX G.K) dEq := by
  intro Av H dx dy x y Q fr rx ry q
  unfold dEq at q
  cases e : eqD dx dy with
  | none => rw [e] at q; exact q.elim
  | some b =>
    rw [e] at q
    rcases eqD_cases e with ⟨i, j, rfl, rfl, rfl⟩ | e
    · rw [rep_str rx, rep_str ry]
      refine .inr ⟨rfl, ?_⟩
      have z : decide (V.str i = V.str j) = decide (i = j) := by simp
      rw [z]
      exact outV.now (G := G) (Av := Av) q mk_bl
    · obtain ⟨p, p', e1, e2, s1, s2, rfl⟩ := eqP_some e
      exact .inl ⟨p, p', rx.dp e1, ry.dp e2, s1, s2, outV.now (G := G) (Av := Av) q mk_bl⟩
theorem d_ne : OpD G (rNeX G.K) dNe := by
  intro Av H dx dy x y Q fr rx ry q
  unfold dNe at q
  cases e : eqD dx dy with
  | none => rw [e] at q; exact q.elim
  | some b =>
    rw [e] at q
    rcases eqD_cases e with ⟨i, j, rfl, rfl, rfl⟩ | e
    · rw [rep_str rx, rep_str ry]
      refine .inr ⟨rfl, ?_⟩
      have z : decide (V.str i = V.str j) = decide (i = j) := by simp
      rw [z]
      exact outV.now (G := G) (Av := Av) q mk_bl
    · obtain ⟨p, p', e1, e2, s1, s2, rfl⟩ := eqP_some e
      exact .inl ⟨p, p', rx.dp e1, ry.dp e2, s1, s2, outV.now (G := G) (Av := Av) q mk_bl⟩
end

/-! ### x in a list or tuple of flat things, a text in a text -/
def flatD : D → Bool
  | .non | .bl _ | .int _ | .str _ => true
  | _ => false
def flatEq : D → D → Bool
  | .non, .non => true
  | .bl a, .bl b => a == b
  | .bl a, .int j => (if a then 1 else 0) == j
  | .int i, .bl b => i == (if b then 1 else 0)
  | .int i, .int j => i == j
  | .str x, .str y => x == y
  | _, _ => false
def inD (x : D) (ds : List D) : Bool := ds.any fun y => flatEq y x
def inStr (a b : Str) : Bool := !(Builtin.Str.occurrences b a 0 b.length 1).isEmpty
def inB (x y : D) : Option Bool := match x, y with
  | .str a, .str b => some (inStr a b)
  | x, .lst ds => if flatD x = true ∧ ds.all flatD = true then some (inD x ds) else none
  | x, .tup ds => if flatD x = true ∧ ds.all flatD = true then some (inD x ds) else none
  | _, _ => none
def dIn (x y : D) : Option D := (inB x y).map D.bl
def dNotIn (x y : D) : Option D := (inB x y).map fun b => D.bl (!b)
section
variable {G : Gc} {Av : Addr → Prop} {H : Hp}
/-- the flat values -/
def fV : D → V
  | .bl b => .bl b
  | .int i => .int i
  | .str x => .str x
  | _ => .non
theorem flat_rep {d : D} {v : V} (f : flatD d = true) (h : Rep1 G Av H d v) : v = fV d := by
  cases d <;> first
    | (cases f; done)
    | exact rep_non h
    | exact rep_bl h
    | exact rep_int h
    | exact rep_str h
theorem flat_V {d : D} (f : flatD d = true) : flatV (fV d) = true := by
  cases d <;> first | (cases f; done) | rfl
theorem flat_eqV {x y : D} (fx : flatD x = true) (fy : flatD y = true) : eqV (fV x) (fV y) = flatEq x y := by
  cases x <;> cases y <;> first
    | (cases fx; done)
    | (cases fy; done)
    | rfl
theorem flat_L : ∀ {ds : List D} {vs : List V}, ds.all flatD = true → RepL G Av H ds vs → vs = ds.map fV
  | [], vs, f, h => by unfold RepL at h; exact h
  | d :: ds, vs, f, h => by
    unfold RepL at h
    obtain ⟨v, r, rfl, h1, h2⟩ := h
    rw [List.all_cons, Bool.and_eq_true] at f
    rw [flat_rep f.1 (.inl h1), flat_L f.2 h2]
    rfl
theorem flat_allV {ds : List D} (f : ds.all flatD = true) : (ds.map fV).all flatV = true := by
  rw [List.all_map, List.all_eq_true]
  intro d hd
  exact flat_V (List.all_eq_true.mp f d hd)
theorem flat_inV {x : D} {ds : List D} (fx : flatD x = true) (f : ds.all flatD = true) : inV (fV x) (ds.map fV) = inD x ds := by
  unfold inV inD
  induction ds with
  | nil => rfl
  | cons d ds ih =>
    rw [List.all_cons, Bool.and_eq_true] at f
    rw [List.map_cons, List.any_cons, List.any_cons, ih f.2, flat_eqV f.1 fx]
def rInD (K : PySem.W.Frag) : R2 := fun x y H Q => rIn K false x y H Q ∨ ∃ i j, x = .str i ∧ y = .str j ∧ Q (.bl (inStr i j)) H
def rNotInD (K : PySem.W.Frag) : R2 := fun x y H Q => rIn K true x y H Q ∨ ∃ i j, x = .str i ∧ y = .str j ∧ Q (.bl (!inStr i j)) H
theorem op_inD {X : Cx} : OpR X (compareOp .In) (rInD X.K) := op_in_seq.or op_in_str
theorem op_notInD {X : Cx} : OpR X (compareOp .NotIn) (rNotInD X.K) := op_notIn_seq.or op_notIn_str
theorem in_core {K : PySem.W.Frag} {neg : Bool} {dx dy : D} {x y : V} {Q : VK} {b : Bool} (rx : Rep1 G Av H dx x) (ry : Rep1 G Av H dy y) (e : inB dx dy = some b) (q : Q (.bl (if neg then !b else b)) H) :
    rIn K neg x y H Q ∨ ∃ i j, x = .str i ∧ y = .str j ∧ Q (.bl (if neg then !inStr i j else inStr i j)) H := by
  unfold inB at e
  split at e
  · cases e
    exact .inr ⟨_, _, rep_str rx, rep_str ry, q⟩
  · split at e
    · rename_i hf
      cases e
      obtain ⟨a, vs, rfl, hh, r⟩ := rep_lst ry
      rw [flat_L hf.2 r] at hh
      rw [flat_rep hf.1 rx]
      exact .inl ⟨a, _, rfl, .inl (SqL.of hh), flat_V hf.1, flat_allV hf.2, by rw [flat_inV hf.1 hf.2]; exact q⟩
    · cases e
  · split at e
    · rename_i hf
      cases e
      obtain ⟨a, vs, rfl, _, hh, r⟩ := rep_tup ry
      rw [flat_L hf.2 r] at hh
      rw [flat_rep hf.1 rx]
      exact .inl ⟨a, _, rfl, .inr (SqT.of hh), flat_V hf.1, flat_allV hf.2, by rw [flat_inV hf.1 hf.2]; exact q⟩
    · cases e
  · cases e
end
theorem d_in {G : Gc} : OpD G (rInD G.K) dIn := by
  intro Av H dx dy x y Q fr rx ry q
  unfold dIn at q
  cases e : inB dx dy with
  | none => rw [e] at q; exact q.elim
  | some b =>
    rw [e] at q
    exact in_core (neg := false) rx ry e (outV.now (G := G) (Av := Av) q mk_bl)
theorem d_notIn {G : Gc} : OpD G (rNotInD G.K) dNotIn := by
  intro Av H dx dy x y Q fr rx ry q
  unfold dNotIn at q
  cases e : inB dx dy with
  | none => rw [e] at q; exact q.elim
  | some b =>
    rw [e] at q
    exact in_core (neg := true) rx ry e (outV.now (G := G) (Av := Av) q mk_bl)

/-! ### places -/
section
variable {X : Cx} {c : Ct} {W : WX} {ea eb : Expr} {fa fb : M AK} {pos : Pos} {g : D → D → Option D} {r : R2}
theorem de_ixR (ho : IxR X r) (h : OpD c.toGc r g) (ha : DO X c W ea fa) (hb : DO X c W eb fb) (hs : PlainIx eb) : DE X c W (.Subscript ea eb pos) (mOp g fa fb) := by
  obtain ⟨ta, pa, sa⟩ := ha.out
  obtain ⟨tb, pb, sb⟩ := hb.out
  exact ⟨_, pe_ix ho pa pb hs, sound_op sa sb h⟩
end
/-- the place that an index means -/
def dIx : D → D → Option D
  | .lst ds, .int i => atI ds i
  | .tup ds, .int i => atI ds i
  | .scr ns, .int i => (atI ns i).map D.int
  | .str z, .int i => if z.length ≤ lim then (atI z.cps.toList i).map fun c => .str ⟨#[c]⟩ else none
  | _, _ => none
section
variable {G : Gc} {Av : Addr → Prop} {H : Hp}
theorem atI_rep {ds : List D} {vs : List V} {i : Int} {d : D} (r : RepL G Av H ds vs) (e : atI ds i = some d) : ∃ v, atI vs i = some v ∧ Rep G Av H d v := by
  unfold atI at e ⊢
  rw [repL_length r]
  cases q : ixN ds.length i with
  | none => rw [q] at e; cases e
  | some j => rw [q] at e; exact r.at e
theorem atI_map {α β : Type} (f : α → β) (xs : List α) (i : Int) : atI (xs.map f) i = (atI xs i).map f := by
  unfold atI
  rw [List.length_map]
  cases ixN xs.length i with
  | none => rfl
  | some j => simp
theorem d_ix : OpD G (rIx G.K) dIx := by
  intro Av H dx dy x y Q fr rx ry q
  unfold dIx at q
  split at q
  · rename_i ds i
    cases e : atI ds i with
    | none => rw [e] at q; exact q.elim
    | some d =>
      rw [e] at q
      obtain ⟨a, vs, rfl, hh, r⟩ := rep_lst rx
      obtain ⟨v, e1, r1⟩ := atI_rep r e
      rw [rep_int ry]
      exact .inl ⟨a, vs, i, v, rfl, rfl, SqL.of hh, e1, q.now r1⟩
  · rename_i ds i
    cases e : atI ds i with
    | none => rw [e] at q; exact q.elim
    | some d =>
      rw [e] at q
      obtain ⟨a, vs, rfl, _, hh, r⟩ := rep_tup rx
      obtain ⟨v, e1, r1⟩ := atI_rep r e
      rw [rep_int ry]
      exact .inr (.inl ⟨a, vs, i, v, rfl, rfl, SqT.of hh, e1, q.now r1⟩)
  · rename_i ns i
    cases e : atI ns i with
    | none => rw [e] at q; exact q.elim
    | some n =>
      rw [e] at q
      obtain ⟨a, rfl, hh⟩ := rep_scr rx
      rw [rep_int ry]
      exact .inl ⟨a, _, i, .int n, rfl, rfl, hh, by rw [atI_map, e]; rfl, outV.now (G := G) (Av := Av) q mk_int⟩
  · rename_i z i
    split at q
    · rename_i hz
      cases e : atI z.cps.toList i with
      | none => rw [e] at q; exact q.elim
      | some n =>
        rw [e] at q
        rw [rep_str rx, rep_int ry]
        exact .inr (.inr ⟨z, i, n, rfl, rfl, lim_ok hz, e, outV.now (G := G) (Av := Av) q mk_str⟩)
    · exact q.elim
  · exact q.elim
end

/-! ### cuts -/
def cutG {α : Type} (xs : List α) (lo hi : Option Int) : List α := (xs.drop (HT.sIx xs.length 0 lo)).take (HT.sIx xs.length xs.length hi - HT.sIx xs.length 0 lo)
def intOf : Option D → Option (Option Int)
  | none => some none
  | some (.int i) => some (some i)
  | _ => none
/-- the parts of a cut -/
def okP (c : Ct) (x : Sx) (σ : St) (H : Hp) (Q : Option Int → Hp → Prop) (o : Option Int) (Δ' : SD) : Prop := ∀ x' H', Kp x H x' H' → SR c x' σ H' Δ' → Q o H'
def SoundP (c : Ct) (W : WX) (t : TO) (f : M (Option Int)) : Prop := ∀ x σ H Δ Q, SR c x σ H Δ → Post c W x σ H (okP c x σ H Q) (f Δ) → t σ H Q
structure DP (X : Cx) (c : Ct) (W : WX) (e : Option Expr) (f : M (Option Int)) : Prop where
  out : ∃ t, PO X e t ∧ SoundP c W t f
def asInt : D → Option (Option Int)
  | .int i => some (some i)
  | _ => none
def mPart (f : M AK) : M (Option Int) := mBind f fun a => mBind (mGet a) fun d => mOpt (asInt d)
section
variable {X : Cx} {c : Ct} {W : WX} {e : Expr} {lo hi : Option Expr} {fa : M AK} {fl fh : M (Option Int)} {pos p2 : Pos}
theorem okP.step {x x1 : Sx} {σ : St} {H H1 : Hp} {Q : Option Int → Hp → Prop} {o : Option Int} {Δ : SD} (k : Kp x H x1 H1) (h : okP c x σ H Q o Δ) : okP c x1 σ H1 Q o Δ := fun x' H' k' => h x' H' (k.trans k')
theorem dp_none : DP X c W none (mPure none) := ⟨_, po_none, fun x σ H Δ Q sr q => q x H (Kp.refl _ _) sr⟩
theorem dp_some (h : DO X c W e fa) : DP X c W (some e) (mPart fa) := by
  obtain ⟨t, p, s⟩ := h.out
  refine ⟨_, po_some p, fun x σ H Δ Q sr q => s x σ H Δ _ sr (q.bind fun a Δ1 q1 v x1 H1 k1 sr1 h1 => ?_)⟩
  obtain ⟨d, r, q2⟩ := Post.get sr1 h1 (q1.step k1 fun a Δ q => okP.step k1 q)
  cases d <;> first
    | exact q2.elim
    | skip
  rw [rep_int r]
  exact ⟨_, rfl, q2 x1 H1 (Kp.refl _ _) sr1⟩
def mCut (g : D → Option Int → Option Int → Option D) (fa : M AK) (fl fh : M (Option Int)) : M D := mBind fa fun a => mBind fl fun l => mBind fh fun h => mBind (mGet a) fun d => mOpt (g d l h)
def SlD (G : Gc) (r : V → Option Int → Option Int → Hp → VK → Prop) (f : D → Option Int → Option Int → Option D) : Prop := ∀ Av H dx x l h Q, Fresh H Av → Rep1 G Av H dx x → outV G Av H Q (f dx l h) → r x l h H Q
def SlN (G : Gc) (r : V → Option Int → Option Int → Hp → VK → Prop) (f : D → Option Int → Option Int → Option D) : Prop := ∀ Av H dx x l h Q, Fresh H Av → Rep1 G Av H dx x → outN G Av H Q (f dx l h) → r x l h H Q
variable {r : V → Option Int → Option Int → Hp → VK → Prop} {g : D → Option Int → Option Int → Option D}
theorem de_slice (hr : SlR X r) (hg : SlD c.toGc r g) (he : DO X c W e fa) (hl : DP X c W lo fl) (hh : DP X c W hi fh) : DE X c W (.Subscript e (.Slice lo hi none p2) pos) (mCut g fa fl fh) := by
  obtain ⟨t, p, s⟩ := he.out
  obtain ⟨tl, pl, sl⟩ := hl.out
  obtain ⟨th, ph, sh⟩ := hh.out
  refine ⟨_, pe_slice hr p pl ph, fun x σ H Δ Q sr q => s x σ H Δ _ sr (q.bind fun a Δ1 q1 v x1 H1 k1 sr1 h1 => ?_)⟩
  refine sl x1 σ H1 Δ1 _ sr1 ((q1.step k1 fun a Δ q => okV.step k1 q).bind fun l Δ2 q2 x2 H2 k2 sr2 => ?_)
  refine sh x2 σ H2 Δ2 _ sr2 ((q2.step k2 fun a Δ q => okV.step k2 q).bind fun u Δ3 q3 x3 H3 k3 sr3 => ?_)
  obtain ⟨d, rd, q4⟩ := Post.get sr3 ((h1.kp sr1 k2).kp sr2 k3) (q3.step k3 fun a Δ q => okV.step k3 q)
  exact hg x3.Av H3 d v l u Q sr3.fr rd (Post.outV sr3 q4)
theorem df_slice (hr : SlR X r) (hg : SlN c.toGc r g) (he : DO X c W e fa) (hl : DP X c W lo fl) (hh : DP X c W hi fh) : DF X c W (.Subscript e (.Slice lo hi none p2) pos) (mCut g fa fl fh) := by
  obtain ⟨t, p, s⟩ := he.out
  obtain ⟨tl, pl, sl⟩ := hl.out
  obtain ⟨th, ph, sh⟩ := hh.out
  refine ⟨_, pe_slice hr p pl ph, fun x σ H Δ Q sr q => s x σ H Δ _ sr (q.bind fun a Δ1 q1 v x1 H1 k1 sr1 h1 => ?_)⟩
  refine sl x1 σ H1 Δ1 _ sr1 ((q1.step k1 fun a Δ q => okF.step k1 q).bind fun l Δ2 q2 x2 H2 k2 sr2 => ?_)
  refine sh x2 σ H2 Δ2 _ sr2 ((q2.step k2 fun a Δ q => okF.step k2 q).bind fun u Δ3 q3 x3 H3 k3 sr3 => ?_)
  obtain ⟨d, rd, q4⟩ := Post.get sr3 ((h1.kp sr1 k2).kp sr2 k3) (q3.step k3 fun a Δ q => okF.step k3 q)
  exact hg x3.Av H3 d v l u Q sr3.fr rd (Post.outN sr3 q4)
end
theorem RepL.cut {G : Gc} {Av : Addr → Prop} {H : Hp} {ds : List D} {vs : List V} (r : RepL G Av H ds vs) (lo hi : Option Int) : RepL G Av H (cutG ds lo hi) (cutV vs lo hi) := by
  unfold cutG cutV
  rw [repL_length r]
  exact (r.drop _).take _
def rSlD (K : PySem.W.Frag) : V → Option Int → Option Int → Hp → VK → Prop := fun x lo hi H Q => rSlL K x lo hi H Q ∨ (rSlT K x lo hi H Q ∨ ∃ z, x = .str z ∧ z.length ≤ sizeLine ∧ Q (.str (cutS z lo hi)) H)
def dCut : D → Option Int → Option Int → Option D
  | .lst ds, lo, hi => some (.lst (cutG ds lo hi))
  | .tup ds, lo, hi => if HT.sIx ds.length 0 lo = 0 ∧ HT.sIx ds.length ds.length hi = ds.length then none else some (.tup (cutG ds lo hi))
  | .str z, lo, hi => if z.length ≤ lim then some (.str (cutS z lo hi)) else none
  | _, _, _ => none
def dCutN : D → Option Int → Option Int → Option D
  | .lst ds, lo, hi => some (.lst (cutG ds lo hi))
  | _, _, _ => none
theorem d_cut {G : Gc} : SlD G (rSlD G.K) dCut := by
  intro Av H dx x lo hi Q fr rx q
  unfold dCut at q
  split at q
  · obtain ⟨a, vs, rfl, hh, r⟩ := rep_lst rx
    exact .inl ⟨a, vs, rfl, SqL.of hh, fun p hp => newL fr hp (r.cut _ _) q⟩
  · split at q
    · exact q.elim
    · rename_i hw
      obtain ⟨a, vs, rfl, _, hh, r⟩ := rep_tup rx
      refine .inr (.inl ⟨a, vs, rfl, SqT.of hh, by rw [repL_length r]; exact hw, fun p hp => newT fr hp (r.cut _ _) q⟩)
  · split at q
    · rename_i hz
      rw [rep_str rx]
      exact .inr (.inr ⟨_, rfl, lim_ok hz, outV.now (G := G) (Av := Av) q mk_str⟩)
    · exact q.elim
  · exact q.elim
theorem d_cutN {G : Gc} : SlN G (rSlD G.K) dCutN := by
  intro Av H dx x lo hi Q fr rx q
  unfold dCutN at q
  split at q
  · obtain ⟨a, vs, rfl, hh, r⟩ := rep_lst rx
    exact .inl ⟨a, vs, rfl, SqL.of hh, fun p hp => newLN hp (r.cut _ _) q⟩
  · exact q.elim

/-! ### truth -/
def truD : D → Option Bool
  | .non => some false
  | .bl b => some b
  | .int i => some (i != 0)
  | .str y => if y.length ≤ lim then some ((y.length : Int) != 0) else none
  | .lst ds => some (!ds.isEmpty)
  | .tup ds => some (!ds.isEmpty)
  | _ => none
theorem empty_eq {α β : Type} {xs : List α} {ys : List β} (h : ys.length = xs.length) : (!xs.isEmpty) = !ys.isEmpty := by
  cases xs <;> cases ys <;> first | rfl | (simp at h)
theorem truV_of {G : Gc} {Av : Addr → Prop} {H : Hp} {d : D} {v : V} {b : Bool} (r : Rep1 G Av H d v) (e : truD d = some b) : TruV G.K v H b := by
  cases d <;> simp only [truD] at e <;> first
    | (cases e; done)
    | skip
  · cases e; rw [rep_non r]; rfl
  · cases e; rw [rep_bl r]; rfl
  · cases e; rw [rep_int r]; rfl
  · split at e
    · rename_i hz
      cases e; rw [rep_str r]; exact ⟨lim_ok hz, rfl⟩
    · cases e
  · cases e
    obtain ⟨a, vs, rfl, hh, rl⟩ := rep_lst r
    refine .inl ⟨vs, SqL.of hh, ?_⟩
    exact empty_eq (repL_length rl)
  · cases e
    obtain ⟨a, vs, rfl, _, hh, rl⟩ := rep_tup r
    refine .inr (.inl ⟨vs, SqT.of hh, ?_⟩)
    exact empty_eq (repL_length rl)
def mTru (f : M AK) : M Bool := mBind f fun a => mBind (mGet a) fun d => mOpt (truD d)
def asBl : D → Option Bool
  | .bl b => some b
  | _ => none
def mBl (f : M D) : M Bool := mBind f fun d => mOpt (asBl d)
def mAnd (f g : M Bool) : M Bool := mBind f fun b => if b = true then g else mPure false
def mOr (f g : M Bool) : M Bool := mBind f fun b => if b = true then mPure true else g
def mNot (f : M Bool) : M Bool := mBind f fun b => mPure (!b)
def mIte {α : Type} (t : M Bool) (f g : M α) : M α := mBind t fun b => if b = true then f else g
section
variable {X : Cx} {c : Ct} {W : WX} {a b : Expr} {fa : M AK} {rest : List Expr} {f g : M Bool} {pos : Pos}
theorem dt_tru (hK : c.K = X.K) (ha : DO X c W a fa) (he : ∀ whole, isTrue a X.env whole = (do let v ← whole; standAt a.pos; holding [v] (truthy v)) := by intro _; rfl) : DT X c W a (mTru fa) := by
  obtain ⟨t, p, s⟩ := ha.out
  refine ⟨_, pt_truth p he, fun x σ H Δ Q sr q => s x σ H Δ _ sr (q.bind fun a Δ1 q1 v x1 H1 k1 sr1 h1 => ?_)⟩
  obtain ⟨d, r, q2⟩ := Post.get sr1 h1 (q1.step k1 fun a Δ q => okT.step k1 q)
  cases e : truD d with
  | none => rw [e] at q2; exact q2.elim
  | some k =>
    rw [e] at q2
    exact ⟨k, by rw [← hK]; exact truV_of r e, q2 x1 H1 (Kp.refl _ _) sr1⟩
theorem asBl_some {d : D} {k : Bool} (h : asBl d = some k) : d = .bl k := by
  cases d <;> first | (cases h; rfl) | cases h
/-- a comparison, a call .. whose value is a bool, as a test -/
theorem bl_end {x : Sx} {σ : St} {H : Hp} {Q : Bool → Hp → Prop} {d : D} {Δ : SD} (q : Post c W x σ H (okT c x σ H Q) (mOpt (asBl d) Δ)) : okV c x σ H (fun v H' => ∃ k, v = .bl k ∧ Q k H') d Δ := by
  intro v x' H' k' s' r
  cases e : asBl d with
  | none => rw [e] at q; exact q.elim
  | some k =>
    rw [e] at q
    have e' := asBl_some e
    subst e'
    exact ⟨k, rep_bl (.inl r), q x' H' k' s'⟩
theorem dt_val {fd : M D} (h : DE X c W a fd) (he : ∀ whole, isTrue a X.env whole = (do let v ← whole; standAt a.pos; holding [v] (truthy v)) := by intro _; rfl) : DT X c W a (mBl fd) := by
  obtain ⟨t, p, s⟩ := h.out
  exact ⟨_, pt_val p he, fun x σ H Δ Q sr q => s x σ H Δ _ sr (q.bind fun d Δ1 q1 => bl_end q1)⟩
theorem dt_cmp {op : CmpOp} {r : R2} {gd : D → D → Option D} {ga gb : M AK} (ho : OpR X (compareOp op) r) (h : OpD c.toGc r gd) (ha : DO X c W a ga) (hb : DO X c W b gb) (hm : behindInMarks op b = false) : DT X c W (.Compare a [op] [b] pos) (mBl (mOp gd ga gb)) := by
  obtain ⟨ta, pa, sa⟩ := ha.out
  obtain ⟨tb, pb, sb⟩ := hb.out
  refine ⟨_, pt_cmpR ho pa pb hm, fun x σ H Δ Q sr q => ?_⟩
  have s := sound_op (W := W) sa sb h
  exact s x σ H Δ _ sr (q.bind fun d Δ1 q1 => bl_end q1)
theorem dw_and1 (h : DT X c W a f) : DW X c W (.BoolOp .And [a] pos) f := by
  obtain ⟨t, p, s⟩ := h.out
  exact ⟨_, pw_and1 p, s⟩
theorem dw_or1 (h : DT X c W a f) : DW X c W (.BoolOp .Or [a] pos) f := by
  obtain ⟨t, p, s⟩ := h.out
  exact ⟨_, pw_or1 p, s⟩
theorem dw_and (ha : DT X c W a f) (hb : DW X c W (.BoolOp .And (b :: rest) pos) g) : DW X c W (.BoolOp .And (a :: b :: rest) pos) (mAnd f g) := by
  obtain ⟨t, p, s⟩ := ha.out
  obtain ⟨u, p', s'⟩ := hb.out
  refine ⟨_, pw_and p p', fun x σ H Δ Q sr q => s x σ H Δ _ sr (q.bind fun k Δ1 q1 x1 H1 k1 sr1 => ?_)⟩
  cases k with
  | true => exact s' x1 σ H1 Δ1 Q sr1 (q1.step k1 fun a Δ q => okT.step k1 q)
  | false => exact q1 x1 H1 k1 sr1
theorem dw_or (ha : DT X c W a f) (hb : DW X c W (.BoolOp .Or (b :: rest) pos) g) : DW X c W (.BoolOp .Or (a :: b :: rest) pos) (mOr f g) := by
  obtain ⟨t, p, s⟩ := ha.out
  obtain ⟨u, p', s'⟩ := hb.out
  refine ⟨_, pw_or p p', fun x σ H Δ Q sr q => s x σ H Δ _ sr (q.bind fun k Δ1 q1 x1 H1 k1 sr1 => ?_)⟩
  cases k with
  | false => exact s' x1 σ H1 Δ1 Q sr1 (q1.step k1 fun a Δ q => okT.step k1 q)
  | true => exact q1 x1 H1 k1 sr1
theorem DW.t (h : DW X c W a f) : DT X c W a f := by
  obtain ⟨t, p, s⟩ := h.out
  exact ⟨_, p.pt, s⟩
theorem dt_not (h : DT X c W a f) : DT X c W (.UnaryOp .Not a pos) (mNot f) := by
  obtain ⟨t, p, s⟩ := h.out
  exact ⟨_, pt_not p, fun x σ H Δ Q sr q => s x σ H Δ _ sr (q.bind fun k Δ1 q1 x1 H1 k1 sr1 => q1 x1 H1 k1 sr1)⟩
theorem de_ite {e : Expr} {fa fb : M D} (ht : DT X c W e f) (ha : DE X c W a fa) (hb : DE X c W b fb) : DE X c W (.IfExp e a b pos) (mIte f fa fb) := by
  obtain ⟨t, p, s⟩ := ht.out
  obtain ⟨ta, pa, sa⟩ := ha.out
  obtain ⟨tb, pb, sb⟩ := hb.out
  refine ⟨_, pe_ifExp p pa pb, fun x σ H Δ Q sr q => s x σ H Δ _ sr (q.bind fun k Δ1 q1 x1 H1 k1 sr1 => ?_)⟩
  cases k with
  | true => exact sa x1 σ H1 Δ1 Q sr1 (q1.step k1 fun a Δ q => okV.step k1 q)
  | false => exact sb x1 σ H1 Δ1 Q sr1 (q1.step k1 fun a Δ q => okV.step k1 q)
theorem df_ite {e : Expr} {fa fb : M D} (ht : DT X c W e f) (ha : DF X c W a fa) (hb : DF X c W b fb) : DF X c W (.IfExp e a b pos) (mIte f fa fb) := by
  obtain ⟨t, p, s⟩ := ht.out
  obtain ⟨ta, pa, sa⟩ := ha.out
  obtain ⟨tb, pb, sb⟩ := hb.out
  refine ⟨_, pe_ifExp p pa pb, fun x σ H Δ Q sr q => s x σ H Δ _ sr (q.bind fun k Δ1 q1 x1 H1 k1 sr1 => ?_)⟩
  cases k with
  | true => exact sa x1 σ H1 Δ1 Q sr1 (q1.step k1 fun a Δ q => okF.step k1 q)
  | false => exact sb x1 σ H1 Δ1 Q sr1 (q1.step k1 fun a Δ q => okF.step k1 q)

/-! ### and, or, not as values (by truth) -/
def mAndV (f g : M D) : M D := mBind f fun d => mBind (mOpt (truD d)) fun b => if b = true then g else mPure d
def mOrV (f g : M D) : M D := mBind f fun d => mBind (mOpt (truD d)) fun b => if b = true then mPure d else g
def mNotV (f : M AK) : M D := mBind (mTru f) fun b => mPure (.bl (!b))
theorem de_one {op} {fa : M D} (h : DE X c W a fa) : DE X c W (.BoolOp op [a] pos) fa := by
  obtain ⟨t, p, s⟩ := h.out
  exact ⟨_, pe_one p, s⟩
theorem Post.tru {x : Sx} {σ : St} {H : Hp} {Q : VK} {d : D} {v : V} {Δ : SD} {kk : Bool → M D} (hK : c.K = X.K) (r : Rep1 c.toGc x.Av H d v) (q : Post c W x σ H (okV c x σ H Q) (mBind (mOpt (truD d)) kk Δ)) :
    ∃ k, TruV X.K v H k ∧ Post c W x σ H (okV c x σ H Q) (kk k Δ) := by
  cases e : truD d with
  | none => rw [e] at q; exact q.elim
  | some k =>
    rw [e] at q
    exact ⟨k, by rw [← hK]; exact truV_of r e, q⟩
theorem de_and {fa fb : M D} (hK : c.K = X.K) (ha : DE X c W a fa) (hb : DE X c W (.BoolOp .And (b :: rest) pos) fb) : DE X c W (.BoolOp .And (a :: b :: rest) pos) (mAndV fa fb) := by
  obtain ⟨t, p, s⟩ := ha.out
  obtain ⟨u, p', s'⟩ := hb.out
  refine ⟨_, pe_andT p p', fun x σ H Δ Q sr q => s x σ H Δ _ sr (q.bind fun d Δ1 q1 v x1 H1 k1 sr1 r => ?_)⟩
  obtain ⟨k, tv, q2⟩ := Post.tru hK (.inl r) (q1.step k1 fun a Δ q => okV.step k1 q)
  refine ⟨k, tv, ?_⟩
  cases k with
  | true => exact s' x1 σ H1 Δ1 Q sr1 q2
  | false => exact q2 v x1 H1 (Kp.refl _ _) sr1 r
theorem de_or {fa fb : M D} (hK : c.K = X.K) (ha : DE X c W a fa) (hb : DE X c W (.BoolOp .Or (b :: rest) pos) fb) : DE X c W (.BoolOp .Or (a :: b :: rest) pos) (mOrV fa fb) := by
  obtain ⟨t, p, s⟩ := ha.out
  obtain ⟨u, p', s'⟩ := hb.out
  refine ⟨_, pe_orT p p', fun x σ H Δ Q sr q => s x σ H Δ _ sr (q.bind fun d Δ1 q1 v x1 H1 k1 sr1 r => ?_)⟩
  obtain ⟨k, tv, q2⟩ := Post.tru hK (.inl r) (q1.step k1 fun a Δ q => okV.step k1 q)
  refine ⟨k, tv, ?_⟩
  cases k with
  | false => exact s' x1 σ H1 Δ1 Q sr1 q2
  | true => exact q2 v x1 H1 (Kp.refl _ _) sr1 r
theorem de_not (hK : c.K = X.K) (ha : DO X c W a fa) : DE X c W (.UnaryOp .Not a pos) (mNotV fa) := by
  obtain ⟨t, p, s⟩ := ha.out
  refine ⟨_, pe_notT p, fun x σ H Δ Q sr q => ?_⟩
  refine s x σ H Δ _ sr ((q.bind (ok := okT c x σ H fun k H' => Q (.bl (!k)) H') fun k Δ1 q1 x1 H1 k1 sr1 => q1 _ x1 H1 k1 sr1 mk_bl).bind fun a Δ1 q1 v x1 H1 k1 sr1 h1 => ?_)
  obtain ⟨d, r, q2⟩ := Post.get sr1 h1 (q1.step k1 fun a Δ q => okT.step k1 q)
  cases e : truD d with
  | none => rw [e] at q2; exact q2.elim
  | some k =>
    rw [e] at q2
    exact ⟨k, by rw [← hK]; exact truV_of r e, q2 x1 H1 (Kp.refl _ _) sr1⟩

/-! ### chains -/
def mChain (g g' : D → D → Option D) (fa fb fc : M AK) : M D := mBind fa fun a => mBind fb fun b => mBind (mGet a) fun x => mBind (mGet b) fun y => mBind (mOpt (g x y)) fun d => mBind (mOpt (asBl d)) fun k =>
  if k = true then mBind fc fun w => mBind (mGet b) fun y => mBind (mGet w) fun z => mOpt (g' y z) else mPure (.bl false)
theorem sound_chain {ta tb tc : TE} {ga gb gc : M AK} {r r' : R2} {g g' : D → D → Option D} (sa : SoundO c W ta ga) (sb : SoundO c W tb gb) (sc : SoundO c W tc gc) (h : OpD c.toGc r g) (h' : OpD c.toGc r' g') : SoundE c W (tChain r r' ta tb tc) (mChain g g' ga gb gc) := by
  refine fun x σ H Δ Q sr q => sa x σ H Δ _ sr (q.bind fun a Δ1 q1 v x1 H1 k1 sr1 h1 => ?_)
  refine sb x1 σ H1 Δ1 _ sr1 ((q1.step k1 fun a Δ q => okV.step k1 q).bind fun b Δ2 q2 u x2 H2 k2 sr2 h2 => ?_)
  obtain ⟨dx, r1, q4⟩ := Post.get sr2 (h1.kp sr1 k2) (q2.step k2 fun a Δ q => okV.step k2 q)
  obtain ⟨dy, r2, q5⟩ := Post.get sr2 h2 q4
  refine h x2.Av H2 dx dy v u _ sr2.fr r1 r2 ?_
  cases e : g dx dy with
  | none => rw [e] at q5; exact q5.elim
  | some d =>
    rw [e] at q5
    intro z H3 ex rz
    cases e2 : asBl d with
    | none =>
      have q6 : Post c W x2 σ H2 (okV c x2 σ H2 Q) (mBind (mOpt (asBl d)) _ Δ2) := q5
      rw [e2] at q6; exact q6.elim
    | some k =>
      have q6 : Post c W x2 σ H2 (okV c x2 σ H2 Q) (mBind (mOpt (asBl d)) _ Δ2) := q5
      rw [e2] at q6
      have ed := asBl_some e2
      subst ed
      refine ⟨k, rep_bl (.inl rz), ?_⟩
      have k3 : Kp x2 H2 x2 H3 := Kp.ex ex x2
      have sr3 := sr2.ex ex
      cases k with
      | false => exact q6 _ x2 H3 k3 sr3 mk_bl
      | true =>
        have q6' : Post c W x2 σ H2 (okV c x2 σ H2 Q) (mBind gc (fun w => mBind (mGet b) fun y => mBind (mGet w) fun z => mOpt (g' y z)) Δ2) := q6
        refine sc x2 σ H3 Δ2 _ sr3 ((q6'.step k3 fun a Δ q => okV.step k3 q).bind fun w Δ3 q7 y x4 H4 k4 sr4 h4 => ?_)
        obtain ⟨dy', r3, q8⟩ := Post.get sr4 ((h2.kp sr2 k3).kp sr3 k4) (q7.step k4 fun a Δ q => okV.step k4 q)
        obtain ⟨dz, r4, q9⟩ := Post.get sr4 h4 q8
        exact h' x4.Av H4 dy' dz u y Q sr4.fr r3 r4 (Post.outV sr4 q9)
theorem de_chain {op op' : CmpOp} {e : Expr} {ga gb gc : M AK} {r r' : R2} {g g' : D → D → Option D} (ho : OpR X (compareOp op) r) (ho' : OpR X (compareOp op') r') (h : OpD c.toGc r g) (h' : OpD c.toGc r' g') (ha : DO X c W a ga) (hb : DO X c W b gb) (hc : DO X c W e gc)
    (hm : lastMarks [op, op'] [b, e] = false := by with_unfolding_all rfl) : DE X c W (.Compare a [op, op'] [b, e] pos) (mChain g g' ga gb gc) := by
  obtain ⟨ta, pa, sa⟩ := ha.out
  obtain ⟨tb, pb, sb⟩ := hb.out
  obtain ⟨tc, pc, sc⟩ := hc.out
  exact ⟨_, pe_chain ho ho' pa pb pc hm, sound_chain sa sb sc h h'⟩
theorem dt_chain {op op' : CmpOp} {e : Expr} {ga gb gc : M AK} {r r' : R2} {g g' : D → D → Option D} (ho : OpR X (compareOp op) r) (ho' : OpR X (compareOp op') r') (h : OpD c.toGc r g) (h' : OpD c.toGc r' g') (ha : DO X c W a ga) (hb : DO X c W b gb) (hc : DO X c W e gc)
    (hm : lastMarks [op, op'] [b, e] = false := by with_unfolding_all rfl) : DT X c W (.Compare a [op, op'] [b, e] pos) (mBl (mChain g g' ga gb gc)) := by
  obtain ⟨ta, pa, sa⟩ := ha.out
  obtain ⟨tb, pb, sb⟩ := hb.out
  obtain ⟨tc, pc, sc⟩ := hc.out
  refine ⟨_, pt_chain ho ho' pa pb pc hm, fun x σ H Δ Q sr q => ?_⟩
  have s := sound_chain (W := W) sa sb sc h h'
  exact s x σ H Δ _ sr (q.bind fun d Δ1 q1 => bl_end q1)
end
end DL

namespace DL
open PySem L2
section
variable {G : Gc} {Av : Addr → Prop} {H : Hp}
theorem rl_one {d : D} {vs : List V} (h : Rep1L G Av H [d] vs) : ∃ v, vs = [v] ∧ Rep1 G Av H d v := by
  obtain ⟨v, r, e, h1, h2⟩ := h
  exact ⟨v, by rw [e, show r = [] from h2], h1⟩
theorem rl_two {d e : D} {vs : List V} (h : Rep1L G Av H [d, e] vs) : ∃ v u, vs = [v, u] ∧ Rep1 G Av H d v ∧ Rep1 G Av H e u := by
  obtain ⟨v, r, e, h1, h2⟩ := h
  obtain ⟨u, rfl, h3⟩ := rl_one h2
  exact ⟨v, u, e, h1, h3⟩
end
section
variable {G : Gc}
/-! ### len -/
def dLen : List D → Option D
  | [.lst ds] => some (.int ds.length)
  | [.tup ds] => some (.int ds.length)
  | [.scr ns] => some (.int ns.length)
  | [.str z] => if z.length ≤ lim then some (.int z.length) else none
  | _ => none
def rLenD (K : PySem.W.Frag) : List V → Hp → VK → Prop := fun xs H Q => (∃ x n, xs = [x] ∧ LenV K x H n ∧ Q (.int n) H) ∨ ∃ a kvs, xs = [V.ref a] ∧ H a = some (.dK kvs) ∧ Q (.int kvs.length) H
theorem call_lenX {X : Cx} : CallR X (.builtin "len") (rLenD X.K) := call_len.or call_lenD
theorem repK_length {Av : Addr → Prop} {H : Hp} : ∀ {kvs : List (Key × D)} {us : List (Key × V)}, RepK G Av H kvs us → us.length = kvs.length
  | [], us, h => by unfold RepK at h; rw [h]; rfl
  | (k, d) :: ds, us, h => by
    unfold RepK at h
    obtain ⟨v, r, e, _, h2⟩ := h
    rw [e, List.length_cons, List.length_cons, repK_length h2]
/-- a dict that is not locked -/
def Unlocked (H : Hp) : Prop := ∀ a o u, H a ≠ some (.frz o u)
theorem d_len : CaD G (fun xs H Q => ∃ x n, xs = [x] ∧ LenV G.K x H n ∧ Q (.int n) H) dLen := by
  intro Av H ds vs Q fr r q
  unfold dLen at q
  split at q
  · obtain ⟨v, rfl, r1⟩ := rl_one r
    obtain ⟨a, vs, rfl, hh, rl⟩ := rep_lst r1
    exact ⟨_, _, rfl, .inl ⟨vs, SqL.of hh, rfl⟩, by rw [repL_length rl]; exact outV.now (G := G) (Av := Av) q mk_int⟩
  · obtain ⟨v, rfl, r1⟩ := rl_one r
    obtain ⟨a, vs, rfl, _, hh, rl⟩ := rep_tup r1
    exact ⟨_, _, rfl, .inr ⟨vs, SqT.of hh, rfl⟩, by rw [repL_length rl]; exact outV.now (G := G) (Av := Av) q mk_int⟩
  · obtain ⟨v, rfl, r1⟩ := rl_one r
    obtain ⟨a, rfl, hh⟩ := rep_scr r1
    exact ⟨_, _, rfl, .inl ⟨_, hh, rfl⟩, by rw [List.length_map]; exact outV.now (G := G) (Av := Av) q mk_int⟩
  · split at q
    · rename_i hz
      obtain ⟨v, rfl, r1⟩ := rl_one r
      rw [rep_str r1]
      exact ⟨_, _, rfl, ⟨lim_ok hz, rfl⟩, outV.now (G := G) (Av := Av) q mk_int⟩
    · exact q.elim
  · exact q.elim

/-! ### list, tuple -/
def dListN : List D → Option D
  | [.lst ds] => some (.lst ds)
  | [.tup ds] => some (.lst ds)
  | _ => none
def rListD (K : PySem.W.Frag) : List V → Hp → VK → Prop := fun xs H Q => ∃ p ys, xs = [.ref p] ∧ (SqL K H p ys ∨ SqT K H p ys) ∧ ∀ l, H l = none → Q (.ref l) (upd H l (.lst ys))
theorem d_listN : CaN G (rListD G.K) dListN := by
  intro Av H ds vs Q fr r q
  unfold dListN at q
  split at q
  · obtain ⟨v, rfl, r1⟩ := rl_one r
    obtain ⟨a, vs, rfl, hh, rl⟩ := rep_lst r1
    exact ⟨a, vs, rfl, .inl (SqL.of hh), fun p hp => newLN hp rl q⟩
  · obtain ⟨v, rfl, r1⟩ := rl_one r
    obtain ⟨a, vs, rfl, _, hh, rl⟩ := rep_tup r1
    exact ⟨a, vs, rfl, .inr (SqT.of hh), fun p hp => newLN hp rl q⟩
  · exact q.elim
def dTuple : List D → Option D
  | [.lst ds] => some (.tup ds)
  | [.tup ds] => some (.tup ds)
  | _ => none
def rTupleD (K : PySem.W.Frag) : List V → Hp → VK → Prop := fun xs H Q => ∃ p ys, xs = [.ref p] ∧ ((SqL K H p ys ∧ ∀ l, H l = none → Q (.ref l) (upd H l (.tup ys))) ∨ (SqT K H p ys ∧ Q (.ref p) H))
theorem d_tuple : CaD G (rTupleD G.K) dTuple := by
  intro Av H ds vs Q fr r q
  unfold dTuple at q
  split at q
  · obtain ⟨v, rfl, r1⟩ := rl_one r
    obtain ⟨a, vs, rfl, hh, rl⟩ := rep_lst r1
    exact ⟨a, vs, rfl, .inl ⟨SqL.of hh, fun p hp => newT fr hp rl q⟩⟩
  · obtain ⟨v, rfl, r1⟩ := rl_one r
    rcases r1 with r1 | ⟨_, _, r1⟩
    · obtain ⟨a, vs, rfl, _, hh, rl⟩ := rep_tup (.inl r1)
      exact ⟨a, vs, rfl, .inr ⟨SqT.of hh, q.now r1⟩⟩
    · exact r1.elim
  · exact q.elim

/-! ### numbers -/
def dAbs : List D → Option D
  | [.int i] => some (.int (if i < 0 then -i else i))
  | _ => none
theorem d_abs : CaD G (fun xs H Q => ∃ i, xs = [.int i] ∧ Q (.int (if i < 0 then -i else i)) H) dAbs := by
  intro Av H ds vs Q fr r q
  unfold dAbs at q
  split at q
  · obtain ⟨v, rfl, r1⟩ := rl_one r
    rw [rep_int r1]
    exact ⟨_, rfl, outV.now (G := G) (Av := Av) q mk_int⟩
  · exact q.elim
def dInt : List D → Option D
  | [.int i] => some (.int i)
  | [.bl b] => some (.int (if b then 1 else 0))
  | _ => none
theorem d_int : CaD G (fun xs H Q => (∃ i, xs = [.int i] ∧ Q (.int i) H) ∨ ∃ k, xs = [.bl k] ∧ Q (.int (if k then 1 else 0)) H) dInt := by
  intro Av H ds vs Q fr r q
  unfold dInt at q
  split at q
  · obtain ⟨v, rfl, r1⟩ := rl_one r
    rw [rep_int r1]
    exact .inl ⟨_, rfl, outV.now (G := G) (Av := Av) q mk_int⟩
  · obtain ⟨v, rfl, r1⟩ := rl_one r
    rw [rep_bl r1]
    exact .inr ⟨_, rfl, outV.now (G := G) (Av := Av) q mk_int⟩
  · exact q.elim
/-- the greatest, the least of some ints -/
def maxI : List Int → Option Int
  | [] => none
  | n :: ns => some (ns.foldl max n)
def minI : List Int → Option Int
  | [] => none
  | n :: ns => some (ns.foldl min n)
theorem foldl_max_le : ∀ (ns : List Int) (n : Int), n ≤ ns.foldl max n ∧ ∀ y ∈ ns, y ≤ ns.foldl max n
  | [], n => ⟨Int.le_refl _, fun _ h => nomatch h⟩
  | m :: ns, n => by
    obtain ⟨h1, h2⟩ := foldl_max_le ns (max n m)
    rw [List.foldl_cons]
    refine ⟨by omega, fun y hy => ?_⟩
    rcases List.mem_cons.mp hy with rfl | hy
    · omega
    · exact h2 y hy
theorem foldl_max_mem : ∀ (ns : List Int) (n : Int), ns.foldl max n = n ∨ ns.foldl max n ∈ ns
  | [], n => .inl rfl
  | m :: ns, n => by
    rw [List.foldl_cons]
    rcases foldl_max_mem ns (max n m) with h | h
    · rw [h]
      by_cases e : n ≤ m
      · exact .inr (by rw [Int.max_eq_right e]; exact List.mem_cons_self ..)
      · exact .inl (Int.max_eq_left (by omega))
    · exact .inr (List.mem_cons_of_mem _ h)
theorem foldl_min_le : ∀ (ns : List Int) (n : Int), ns.foldl min n ≤ n ∧ ∀ y ∈ ns, ns.foldl min n ≤ y
  | [], n => ⟨Int.le_refl _, fun _ h => nomatch h⟩
  | m :: ns, n => by
    obtain ⟨h1, h2⟩ := foldl_min_le ns (min n m)
    rw [List.foldl_cons]
    refine ⟨by omega, fun y hy => ?_⟩
    rcases List.mem_cons.mp hy with rfl | hy
    · omega
    · exact h2 y hy
theorem foldl_min_mem : ∀ (ns : List Int) (n : Int), ns.foldl min n = n ∨ ns.foldl min n ∈ ns
  | [], n => .inl rfl
  | m :: ns, n => by
    rw [List.foldl_cons]
    rcases foldl_min_mem ns (min n m) with h | h
    · rw [h]
      by_cases e : n ≤ m
      · exact .inl (Int.min_eq_left e)
      · exact .inr (by rw [Int.min_eq_right (by omega)]; exact List.mem_cons_self ..)
    · exact .inr (List.mem_cons_of_mem _ h)
theorem maxI_is {ns : List Int} {m : Int} (h : maxI ns = some m) : m ∈ ns ∧ ∀ y ∈ ns, y ≤ m := by
  cases ns with
  | nil => cases h
  | cons n ns =>
    cases h
    obtain ⟨h1, h2⟩ := foldl_max_le ns n
    refine ⟨?_, fun y hy => ?_⟩
    · rcases foldl_max_mem ns n with e | e
      · rw [e]; exact List.mem_cons_self ..
      · exact List.mem_cons_of_mem _ e
    · rcases List.mem_cons.mp hy with rfl | hy
      · exact h1
      · exact h2 y hy
theorem minI_is {ns : List Int} {m : Int} (h : minI ns = some m) : m ∈ ns ∧ ∀ y ∈ ns, m ≤ y := by
  cases ns with
  | nil => cases h
  | cons n ns =>
    cases h
    obtain ⟨h1, h2⟩ := foldl_min_le ns n
    refine ⟨?_, fun y hy => ?_⟩
    · rcases foldl_min_mem ns n with e | e
      · rw [e]; exact List.mem_cons_self ..
      · exact List.mem_cons_of_mem _ e
    · rcases List.mem_cons.mp hy with rfl | hy
      · exact h1
      · exact h2 y hy
def dMax : List D → Option D
  | [.int i, .int j] => some (.int (if j > i then j else i))
  | [.lst ds] => ((dInts ds).bind maxI).map D.int
  | _ => none
def dMin : List D → Option D
  | [.int i, .int j] => some (.int (if j < i then j else i))
  | [.lst ds] => ((dInts ds).bind minI).map D.int
  | _ => none
def rMaxD (K : PySem.W.Frag) : List V → Hp → VK → Prop := fun xs H Q => (∃ i j, xs = [.int i, .int j] ∧ Q (.int (if j > i then j else i)) H) ∨ rMax K xs H Q
def rMinD (K : PySem.W.Frag) : List V → Hp → VK → Prop := fun xs H Q => (∃ i j, xs = [.int i, .int j] ∧ Q (.int (if j < i then j else i)) H) ∨ rMin K xs H Q
theorem call_maxX {X : Cx} (hc : X.calm = true) : CallR X (.builtin "max") (rMaxD X.K) := (call_max2 hc).or (cr_max hc)
theorem call_minX {X : Cx} (hc : X.calm = true) : CallR X (.builtin "min") (rMinD X.K) := (call_min2 hc).or (cr_min hc)
theorem d_max : CaD G (rMaxD G.K) dMax := by
  intro Av H ds vs Q fr r q
  unfold dMax at q
  split at q
  · obtain ⟨v, u, rfl, r1, r2⟩ := rl_two r
    rw [rep_int r1, rep_int r2]
    exact .inl ⟨_, _, rfl, outV.now (G := G) (Av := Av) q mk_int⟩
  · obtain ⟨v, rfl, r1⟩ := rl_one r
    obtain ⟨a, vs, rfl, hh, rl⟩ := rep_lst r1
    cases e : dInts _ with
    | none => rw [e] at q; exact q.elim
    | some ns =>
      rw [e, Option.bind_some] at q
      cases e2 : maxI ns with
      | none => rw [e2] at q; exact q.elim
      | some m =>
        rw [e2] at q
        rw [repL_ints e rl] at hh
        obtain ⟨h1, h2⟩ := maxI_is e2
        refine .inr ⟨a, ns, rfl, SqL.of hh, List.length_pos_of_mem h1, fun k hk hle => ?_⟩
        have ek : k = m := Int.le_antisymm (h2 k hk) (hle m h1)
        rw [ek]
        exact outV.now (G := G) (Av := Av) q mk_int
  · exact q.elim
theorem d_min : CaD G (rMinD G.K) dMin := by
  intro Av H ds vs Q fr r q
  unfold dMin at q
  split at q
  · obtain ⟨v, u, rfl, r1, r2⟩ := rl_two r
    rw [rep_int r1, rep_int r2]
    exact .inl ⟨_, _, rfl, outV.now (G := G) (Av := Av) q mk_int⟩
  · obtain ⟨v, rfl, r1⟩ := rl_one r
    obtain ⟨a, vs, rfl, hh, rl⟩ := rep_lst r1
    cases e : dInts _ with
    | none => rw [e] at q; exact q.elim
    | some ns =>
      rw [e, Option.bind_some] at q
      cases e2 : minI ns with
      | none => rw [e2] at q; exact q.elim
      | some m =>
        rw [e2] at q
        rw [repL_ints e rl] at hh
        obtain ⟨h1, h2⟩ := minI_is e2
        refine .inr ⟨a, ns, rfl, SqL.of hh, List.length_pos_of_mem h1, fun k hk hle => ?_⟩
        have ek : k = m := Int.le_antisymm (hle m h1) (h2 k hk)
        rw [ek]
        exact outV.now (G := G) (Av := Av) q mk_int
  · exact q.elim
def dSum : List D → Option D
  | [.lst ds] => (dInts ds).map fun ns => .int ns.sum
  | _ => none
theorem d_sum : CaD G (rSum G.K) dSum := by
  intro Av H ds vs Q fr r q
  unfold dSum at q
  split at q
  · obtain ⟨v, rfl, r1⟩ := rl_one r
    obtain ⟨a, vs, rfl, hh, rl⟩ := rep_lst r1
    cases e : dInts _ with
    | none => rw [e] at q; exact q.elim
    | some ns =>
      rw [e] at q
      rw [repL_ints e rl] at hh
      exact ⟨a, ns, rfl, SqL.of hh, outV.now (G := G) (Av := Av) q mk_int⟩
  · exact q.elim
def dAll : List D → Option D
  | [.lst ds] => (dBls ds).map fun ns => .bl (ns.all id)
  | _ => none
def dAny : List D → Option D
  | [.lst ds] => (dBls ds).map fun ns => .bl (ns.any id)
  | _ => none
theorem d_all : CaD G (rAll G.K) dAll := by
  intro Av H ds vs Q fr r q
  unfold dAll at q
  split at q
  · obtain ⟨v, rfl, r1⟩ := rl_one r
    obtain ⟨a, vs, rfl, hh, rl⟩ := rep_lst r1
    cases e : dBls _ with
    | none => rw [e] at q; exact q.elim
    | some ns =>
      rw [e] at q
      rw [repL_bls e rl] at hh
      exact ⟨a, ns, rfl, SqL.of hh, outV.now (G := G) (Av := Av) q mk_bl⟩
  · exact q.elim
theorem d_any : CaD G (rAny G.K) dAny := by
  intro Av H ds vs Q fr r q
  unfold dAny at q
  split at q
  · obtain ⟨v, rfl, r1⟩ := rl_one r
    obtain ⟨a, vs, rfl, hh, rl⟩ := rep_lst r1
    cases e : dBls _ with
    | none => rw [e] at q; exact q.elim
    | some ns =>
      rw [e] at q
      rw [repL_bls e rl] at hh
      exact ⟨a, ns, rfl, SqL.of hh, outV.now (G := G) (Av := Av) q mk_bl⟩
  · exact q.elim

/-! ### isinstance -/
/-- the built-in type of data -/
def kindOf : D → Option String
  | .non => some "NoneType"
  | .bl _ => some "bool"
  | .int _ => some "int"
  | .str _ => some "str"
  | .lst _ => some "list"
  | .tup _ => some "tuple"
  | .dct _ => some "dict"
  | .scr _ => some "list"
  | _ => none
def isiT (k T : String) : Bool := decide (k = T) || (decide (k = "bool") && decide (T = "int"))
theorem isiT_ok : ∀ k ∈ tyNames, ∀ T ∈ tyNames, kitB k T = some (isiT k T) := by decide +kernel
/-- isinstance of a class's name: tb n m tells whether an instance of n is one of m -/
def isiOne (tb : Str → Str → Option Bool) (d : D) : D → Option Bool
  | .ty T => if T ∈ tyNames then (match kindOf d with
    | some k => some (isiT k T)
    | none => match d with
      | .obj _ _ => some false
      | _ => none) else none
  | .cls m => if (tb m m).isSome then (match kindOf d with
    | some _ => some false
    | none => match d with
      | .obj n _ => tb n m
      | _ => none) else none
  | _ => none
def dTys : List D → Option (List String)
  | [] => some []
  | .ty T :: ds => (dTys ds).map (T :: ·)
  | _ :: _ => none
def isiAny (d : D) (Ts : List String) : Option Bool := if Ts.all (fun T => decide (T ∈ tyNames)) = true then (match kindOf d with
  | some k => some (Ts.any (isiT k))
  | none => match d with
    | .obj _ _ => some false
    | _ => none) else none
def dIsi (tb : Str → Str → Option Bool) : List D → Option D
  | [d, .tup ts] => ((dTys ts).bind (isiAny d)).map D.bl
  | [d, t] => (isiOne tb d t).map D.bl
  | _ => none
/-- what the written part must say of tb -/
structure TbOk (G : Gc) (tb : Str → Str → Option Bool) : Prop where
  own : ∀ n m b C E, tb n m = some b → G.mg n = some (.ref C) → G.mg m = some (.ref E) → PySem.W.kitOne G.K (.ref C) (.ref E) = some b
  blt : ∀ m E, (tb m m).isSome = true → G.mg m = some (.ref E) → ∀ k ∈ tyNames, PySem.W.kitOne G.K (.type k) (.ref E) = some false
theorem kind_mem {d : D} {k : String} (h : kindOf d = some k) : k ∈ tyNames := by
  cases d <;> first
    | (cases h; done)
    | (cases h; decide)
theorem kind_ty {Av : Addr → Prop} {H : Hp} {d : D} {v : V} {k : String} (h : kindOf d = some k) (r : Rep1 G Av H d v) : TyX G.K H v (.type k) := by
  cases d <;> first
    | (cases h; done)
    | skip
  · cases h; rw [rep_non r]; exact .base .non
  · cases h; rw [rep_bl r]; exact .base (.bl _)
  · cases h; rw [rep_int r]; exact .base (.int _)
  · cases h; rw [rep_str r]; exact .base (.str _)
  · cases h
    obtain ⟨a, vs, rfl, hh, _⟩ := rep_lst r
    exact .base (.lst hh)
  · cases h
    obtain ⟨a, vs, rfl, _, hh, _⟩ := rep_tup r
    exact .base (.tup hh)
  · cases h
    have key : ∀ {a : Addr} {us : List (Key × V)}, Rd H a (.dK us) → TyX G.K H (.ref a) (.type "dict") := fun {a us} q => by
      rcases q with q | ⟨o, q⟩
      · exact .base (.dK q)
      · exact .fDict q
    rcases r with r | ⟨a, rfl, us, hh, _⟩
    · unfold Rep at r
      obtain ⟨a, us, rfl, _, hh, _⟩ := r
      exact key hh
    · exact key (.inl hh)
  · cases h
    obtain ⟨a, rfl, hh⟩ := rep_scr r
    rcases hh with (hh | ⟨o, hh⟩) | ⟨o, its, n, hk, hc, _⟩
    · exact .base (.lst hh)
    · exact .base (.frz hh)
    · exact .kList hk hc
theorem obj_ty {Av : Addr → Prop} {H : Hp} {n : Str} {fs : List (Str × D)} {v : V} (q : Rep1 G Av H (.obj n fs) v) : ∃ a C, v = .ref a ∧ G.mg n = some (.ref C) ∧ ObjK G.K C ∧ TyX G.K H v (.ref C) := by
  have mk : ∀ {a C dx : Addr} {us : List (Str × V)}, v = .ref a → G.mg n = some (.ref C) ∧ ObjK G.K C → H a = some (.ins C dx us) → ∃ a C, v = .ref a ∧ G.mg n = some (.ref C) ∧ ObjK G.K C ∧ TyX G.K H v (.ref C) := fun {a C dx us} e1 e2 e3 =>
    ⟨a, C, e1, e2.1, e2.2, by rw [e1]; exact .base (.ins e3 e2.2.cl e2.2.ha e2.2.hn e2.2.htk e2.2.hm)⟩
  rcases q with q | ⟨a, e1, C, dx, us, e2, e3, _⟩
  · unfold Rep at q
    obtain ⟨a, C, dx, us, e1, _, e2, e3, _⟩ := q
    exact mk e1 e2 e3
  · exact mk e1 e2 e3
theorem isi_one {Av : Addr → Prop} {H : Hp} {tb : Str → Str → Option Bool} (T : TbOk G tb) {d t : D} {v u : V} {b : Bool} (e : isiOne tb d t = some b) (r : Rep1 G Av H d v) (rt : Rep1 G Av H t u) :
    ∃ ty w, ClsV u w ∧ TyX G.K H v ty ∧ PySem.W.kitOne G.K ty w = some b := by
  unfold isiOne at e
  split at e
  · rename_i T'
    split at e
    · rename_i hT
      have eu : u = .ty T' := by
        rcases rt with rt | ⟨_, _, rt⟩
        · unfold Rep at rt; exact rt
        · exact rt.elim
      subst eu
      split at e
      · rename_i k hk
        cases e
        exact ⟨_, _, .ty _, kind_ty hk r, kit_ty (isiT_ok k (kind_mem hk) T' hT)⟩
      · split at e
        · cases e
          obtain ⟨a, C, _, _, ok, ty⟩ := obj_ty r
          exact ⟨_, _, .ty _, ty, ok.ki T' hT⟩
        · cases e
    · cases e
  · rename_i m
    split at e
    · rename_i hm
      have eu : ∃ E, G.mg m = some (.ref E) ∧ u = .ref E := by
        rcases rt with rt | ⟨_, _, rt⟩
        · unfold Rep at rt; exact rt
        · exact rt.elim
      obtain ⟨E, hE, rfl⟩ := eu
      split at e
      · rename_i k hk
        cases e
        exact ⟨_, _, .own _, kind_ty hk r, T.blt m E hm hE k (kind_mem hk)⟩
      · split at e
        · obtain ⟨a, C, _, hC, ok, ty⟩ := obj_ty r
          exact ⟨_, _, .own _, ty, T.own _ _ b C E e hC hE⟩
        · cases e
    · cases e
  · cases e
theorem tys_rep {Av : Addr → Prop} {H : Hp} : ∀ {ts : List D} {Ts : List String} {us : List V}, dTys ts = some Ts → RepL G Av H ts us → Paired ClsV us (Ts.map Value.type)
  | [], Ts, us, e, h => by unfold RepL at h; cases e; subst h; exact .nil
  | d :: ds, Ts, us, e, h => by
    unfold RepL at h
    obtain ⟨v, r, rfl, h1, h2⟩ := h
    cases d <;> first
      | (cases e; done)
      | skip
    simp only [dTys, Option.map_eq_some_iff] at e
    obtain ⟨Us, e1, rfl⟩ := e
    unfold Rep at h1
    subst h1
    exact .cons (.ty _) (tys_rep e1 h2)
theorem kit_any {t : Value} {p : String → Bool} (h : ∀ T ∈ tyNames, PySem.W.kitOne G.K t (.type T) = some (p T)) : ∀ {Ts : List String}, Ts.all (fun T => decide (T ∈ tyNames)) = true → PySem.W.kitAny G.K t (Ts.map Value.type) = some (Ts.any p)
  | [], _ => rfl
  | T :: Ts, e => by
    rw [List.all_cons, Bool.and_eq_true] at e
    rw [List.map_cons, List.any_cons]
    refine kitAny_cons (h T (of_decide_eq_true e.1)) (fun hb => ?_) (fun hb => by rw [hb]; rfl)
    rw [hb, Bool.false_or]
    exact kit_any h e.2
def rIsiD (K : PySem.W.Frag) : List V → Hp → VK → Prop := fun xs H Q => rIsi K xs H Q ∨ rIsiT K xs H Q
theorem call_isiX {X : Cx} : CallR X (.builtin "isinstance") (rIsiD X.K) := call_isi.or call_isiT
theorem d_isi {tb : Str → Str → Option Bool} (T : TbOk G tb) : CaD G (rIsiD G.K) (dIsi tb) := by
  intro Av H ds vs Q fr r q
  unfold dIsi at q
  split at q
  · rename_i d ts
    obtain ⟨v, u, rfl, r1, r2⟩ := rl_two r
    cases e : dTys ts with
    | none => rw [e] at q; exact q.elim
    | some Ts =>
      rw [e, Option.bind_some] at q
      obtain ⟨a, us, rfl, _, hh, rl⟩ := rep_tup r2
      have pr := tys_rep e rl
      unfold isiAny at q
      split at q
      · rename_i hall
        split at q
        · rename_i k hk
          exact .inr ⟨v, a, us, _, _, _, rfl, hh, pr, kind_ty hk r1, kit_any (fun T' hT' => kit_ty (isiT_ok k (kind_mem hk) T' hT')) hall, outV.now (G := G) (Av := Av) q mk_bl⟩
        · split at q
          · obtain ⟨a', C, _, _, ok, ty⟩ := obj_ty r1
            have ka := kit_any (G := G) (p := fun _ => false) ok.ki hall
            refine .inr ⟨v, a, us, _, _, _, rfl, hh, pr, ty, ka, ?_⟩
            have e2 : (Ts.any fun _ => false) = false := by simp
            rw [e2]
            exact outV.now (G := G) (Av := Av) q mk_bl
          · exact q.elim
      · exact q.elim
  · rename_i d t _
    obtain ⟨v, u, rfl, r1, r2⟩ := rl_two r
    cases e : isiOne tb d t with
    | none => rw [e] at q; exact q.elim
    | some b =>
      rw [e] at q
      obtain ⟨ty, w, c1, c2, c3⟩ := isi_one T e r1 r2
      exact .inl ⟨v, u, ty, w, b, rfl, c1, c2, c3, outV.now (G := G) (Av := Av) q mk_bl⟩
  · exact q.elim
theorem tb_none : TbOk G (fun _ _ => none) := ⟨fun _ _ _ _ _ h => (nomatch h), fun _ _ h => (nomatch h)⟩
end
end DL

namespace DL
open PySem L2

inductive Fl where
  | nx | bk | ct | rt (d : D) | rf (d : D)
def okS (c : Ct) (x : Sx) (H : Hp) (E : Ends) : Fl → SD → Prop
  | .nx, Δ' => ∀ σ' x' H', Kp x H x' H' → SR c x' σ' H' Δ' → E.nx σ' H'
  | .bk, Δ' => ∀ σ' x' H', Kp x H x' H' → SR c x' σ' H' Δ' → E.bk σ' H'
  | .ct, Δ' => ∀ σ' x' H', Kp x H x' H' → SR c x' σ' H' Δ' → E.ct σ' H'
  | .rt d, Δ' => ∀ v σ' x' H', Kp x H x' H' → SR c x' σ' H' Δ' → Rep c.toGc x'.Av H' d v → E.rt v H'
  | .rf d, Δ' => ∀ a σ' x' H', Kp x H x' H' → SR c x' σ' H' Δ' → c.H0 a = none → ¬ x'.Av a → (∀ i, x'.ρ i ≠ some a) → Own c.toGc x'.Av H' a d → E.rt (.ref a) H'
def PostS (c : Ct) (W : WX) (x : Sx) (H : Hp) (E : Ends) : Res Fl → Prop
  | .ok fl Δ' => okS c x H E fl Δ'
  | .ex n d Δ' => ∀ C dx σ' x' H', Kp x H x' H' → SR c x' σ' H' Δ' → ExR c x' H' n d C dx → W (.ref C) dx σ' H'
  | .bad => False
def SoundS (c : Ct) (W : WX) (t : TS) (f : M Fl) : Prop := ∀ x σ H Δ E, SR c x σ H Δ → PostS c W x H E (f Δ) → t E σ H
structure DS (X : Cx) (c : Ct) (W : WX) (st : Stmt) (f : M Fl) : Prop where
  out : ∃ t, PS X st t ∧ SoundS c W t f
structure DB (X : Cx) (c : Ct) (W : WX) (st : List Stmt) (f : M Fl) : Prop where
  out : ∃ t, PSs X st t ∧ SoundS c W t f

section
variable {c : Ct} {W : WX} {x x1 : Sx} {σ : St} {H H1 : Hp} {E : Ends}
theorem okS.step {fl : Fl} {Δ : SD} (k : Kp x H x1 H1) (h : okS c x H E fl Δ) : okS c x1 H1 E fl Δ := by
  cases fl with
  | nx => exact fun σ' x' H' k' => h σ' x' H' (k.trans k')
  | bk => exact fun σ' x' H' k' => h σ' x' H' (k.trans k')
  | ct => exact fun σ' x' H' k' => h σ' x' H' (k.trans k')
  | rt d => exact fun v σ' x' H' k' => h v σ' x' H' (k.trans k')
  | rf d => exact fun a σ' x' H' k' => h a σ' x' H' (k.trans k')
theorem PostS.step {r : Res Fl} (h : PostS c W x H E r) (k : Kp x H x1 H1) : PostS c W x1 H1 E r := by
  cases r with
  | ok fl Δ' => exact okS.step k h
  | ex n d Δ' => exact fun C dx σ' x' H' k' => h C dx σ' x' H' (k.trans k')
  | bad => exact h
/-- an expression ahead -/
theorem PostS.bind {α : Type} {ok : α → SD → Prop} {f : M α} {g : α → M Fl} {Δ : SD} (h : PostS c W x H E (mBind f g Δ)) (k : ∀ a Δ1, PostS c W x H E (g a Δ1) → ok a Δ1) : Post c W x σ H ok (f Δ) := by
  unfold mBind at h
  cases e : f Δ with
  | ok a Δ1 => rw [e] at h; exact k a Δ1 h
  | ex n d Δ1 => rw [e] at h; exact fun C dx x' H' => h C dx σ x' H'
  | bad => rw [e] at h; exact h
end

/-! ### blocks -/
def mNx : M Fl := mPure .nx
def mSeq (f g : M Fl) : M Fl := mBind f fun fl => match fl with
  | .nx => g
  | fl => mPure fl
def mRet (f : M D) : M Fl := mBind f fun d => mPure (.rt d)
def mRetF (f : M D) : M Fl := mBind f fun d => mPure (.rf d)
def mRetN : M Fl := mPure (.rt .non)
def mDrop {α : Type} (f : M α) : M Fl := mBind f fun _ => mPure .nx
def mSet (i : Nat) (f : M D) : M Fl := mBind f fun d Δ => if i < Δ.length then .ok .nx (Δ.set i (.sh d)) else .bad
def mSetO (i : Nat) (f : M D) : M Fl := mBind f fun d Δ => if i < Δ.length then .ok .nx (Δ.set i (.ow d)) else .bad
section
variable {X : Cx} {c : Ct} {W : WX} {st : Stmt} {rest : List Stmt} {f g : M Fl} {e : Expr} {fe : M D} {pos : Pos}
theorem sound_seq {t u : TS} (s : SoundS c W t f) (s' : SoundS c W u g) : SoundS c W (tSeq t u) (mSeq f g) := by
  refine fun x σ H Δ E sr q => s x σ H Δ _ sr ?_
  unfold mSeq mBind at q
  cases ef : f Δ with
  | bad => rw [ef] at q; exact q
  | ex n d Δ' => rw [ef] at q; exact q
  | ok fl Δ1 =>
    rw [ef] at q
    cases fl with
    | nx => exact fun σ' x' H' k sr' => s' x' σ' H' Δ1 E sr' (PostS.step q k)
    | bk => exact q
    | ct => exact q
    | rt d => exact q
    | rf d => exact q
theorem db_nil : DB X c W [] mNx := ⟨tNext, pss_nil, fun x σ H Δ E sr q => q σ x H (Kp.refl _ _) sr⟩
theorem db_one (h : DS X c W st f) : DB X c W [st] f := by
  obtain ⟨t, p, s⟩ := h.out
  exact ⟨t, pss_one p, s⟩
theorem db_cons (h : DS X c W st f) (r : DB X c W rest g) : DB X c W (st :: rest) (mSeq f g) := by
  obtain ⟨t, p, s⟩ := h.out
  obtain ⟨u, p', s'⟩ := r.out
  exact ⟨_, pss_cons p p', sound_seq s s'⟩
theorem ds_pass : DS X c W (.Pass pos) mNx := ⟨tNext, ps_pass, fun x σ H Δ E sr q => q σ x H (Kp.refl _ _) sr⟩
theorem ds_break : DS X c W (.Break pos) (mPure .bk) := ⟨tBreak, ps_break, fun x σ H Δ E sr q => q σ x H (Kp.refl _ _) sr⟩
theorem ds_continue : DS X c W (.Continue pos) (mPure .ct) := ⟨tCont, ps_continue, fun x σ H Δ E sr q => q σ x H (Kp.refl _ _) sr⟩
theorem ds_never : DS X c W st mBad := ⟨tNever, ps_never, fun x σ H Δ E sr q => q.elim⟩
theorem db_never : DB X c W rest mBad := ⟨tNever, pss_never, fun x σ H Δ E sr q => q.elim⟩
theorem ds_ret (h : DE X c W e fe) : DS X c W (.Return (some e) pos) (mRet fe) := by
  obtain ⟨t, p, s⟩ := h.out
  exact ⟨_, ps_ret p, fun x σ H Δ E sr q => s x σ H Δ _ sr (q.bind fun d Δ1 q1 v x' H' k' sr' r => q1 v σ x' H' k' sr' r)⟩
theorem ds_retF (h : DF X c W e fe) : DS X c W (.Return (some e) pos) (mRetF fe) := by
  obtain ⟨t, p, s⟩ := h.out
  exact ⟨_, ps_ret p, fun x σ H Δ E sr q => s x σ H Δ _ sr (q.bind fun d Δ1 q1 a x' H' k' sr' h0 _ nv nr o => q1 a σ x' H' k' sr' h0 nv nr o)⟩
theorem ds_retN : DS X c W (.Return none pos) mRetN := ⟨_, ps_retN, fun x σ H Δ E sr q => q .non σ x H (Kp.refl _ _) sr mk_non⟩
theorem ds_drop (h : DE X c W e fe) (hs : swapsWith e none pos.line X.env = pure false := by rfl) : DS X c W (.Expr e pos) (mDrop fe) := by
  obtain ⟨t, p, s⟩ := h.out
  exact ⟨_, ps_expr p hs, fun x σ H Δ E sr q => s x σ H Δ _ sr (q.bind fun d Δ1 q1 v x' H' k' sr' r => q1 σ x' H' k' sr')⟩
theorem ds_if {ce : Expr} {a b : List Stmt} {fc : M Bool} (hc : DT X c W ce fc) (ha : DB X c W a f) (hb : DB X c W b g) : DS X c W (.If ce a b pos) (mIte fc f g) := by
  obtain ⟨t, p, s⟩ := hc.out
  obtain ⟨ta, pa, sa⟩ := ha.out
  obtain ⟨tb, pb, sb⟩ := hb.out
  refine ⟨_, ps_if p pa pb, fun x σ H Δ E sr q => s x σ H Δ _ sr (q.bind fun k Δ1 q1 x1 H1 k1 sr1 => ?_)⟩
  cases k with
  | true => exact sa x1 σ H1 Δ1 E sr1 (PostS.step q1 k1)
  | false => exact sb x1 σ H1 Δ1 E sr1 (PostS.step q1 k1)
end

/-! ### a slot is stored -/
section
variable {c : Ct} {x : Sx} {σ : St} {H : Hp} {Δ : SD} {i : Nat}
theorem rho_ne {ρ : Nat → Option Addr} {i j : Nat} {o : Option Addr} {b : Addr} (h : (if j = i then o else ρ j) = some b) : (j = i ∧ o = some b) ∨ (j ≠ i ∧ ρ j = some b) := by
  by_cases e : j = i
  · rw [if_pos e] at h; exact .inl ⟨e, h⟩
  · rw [if_neg e] at h; exact .inr ⟨e, h⟩
theorem SR.setSh (s : SR c x σ H Δ) (hio : ∀ p ∈ c.io, p.1 ≠ i) (hi : i < Δ.length) {v : V} {d : D} (r : Rep c.toGc x.Av H d v) :
    Kp x H ⟨x.Av, fun j => if j = i then none else x.ρ j⟩ H ∧ SR c ⟨x.Av, fun j => if j = i then none else x.ρ j⟩ (σ.set i (some v)) H (Δ.set i (.sh d)) := by
  have rho : ∀ {j b}, (if j = i then none else x.ρ j) = some b → j ≠ i ∧ x.ρ j = some b := fun {j b} q => by
    rcases rho_ne q with ⟨_, h⟩ | h
    · cases h
    · exact h
  refine ⟨⟨fun p o h _ _ => h, fun p h => h, fun j p h => .inl ⟨j, (rho h).2⟩, fun p h _ => h, fun p h => .inl h⟩, ?_⟩
  exact {
    len := by rw [List.length_set, List.length_set]; exact s.len
    base := s.base
    tab := s.tab
    trk := s.trk
    fr := s.fr
    av := s.av
    a0 := s.a0
    ow := fun j b q => s.ow j b (rho q).2
    inj := fun j l b q1 q2 => s.inj _ _ _ (rho q1).2 (rho q2).2
    slot := fun j => by
      by_cases e : j = i
      · subst e
        rw [List.getElem?_set_self hi]
        exact ⟨v, List.getElem?_set_self (by rw [s.len]; exact hi), r⟩
      · rw [List.getElem?_set_ne (Ne.symm e)]
        have z := s.slot j
        revert z
        cases Δ[j]? with
        | none => intro _; trivial
        | some w =>
          cases w with
          | un => intro _; trivial
          | sh d' => exact fun ⟨v', z1, z2⟩ => ⟨v', by rw [List.getElem?_set_ne (Ne.symm e)]; exact z1, z2⟩
          | ow d' => exact fun ⟨b, z0, z1, z2⟩ => ⟨b, by show (if j = i then none else x.ρ j) = some b; rw [if_neg e]; exact z0, by rw [List.getElem?_set_ne (Ne.symm e)]; exact z1, z2⟩
    ios := fun p hp => by show (if p.1 = i then none else x.ρ p.1) = some p.2; rw [if_neg (hio p hp)]; exact s.ios p hp }
theorem SR.setOw (s : SR c x σ H Δ) (hio : ∀ p ∈ c.io, p.1 ≠ i) (hi : i < Δ.length) {a : Addr} {d : D} (h0 : c.H0 a = none) (nv : ¬ x.Av a) (nr : ∀ j, x.ρ j ≠ some a) (o : Own c.toGc x.Av H a d) :
    SR c ⟨x.Av, fun j => if j = i then some a else x.ρ j⟩ (σ.set i (some (.ref a))) H (Δ.set i (.ow d)) := by
  have ha : H a ≠ none := by
    intro z
    cases d <;> first
      | exact o.elim
      | (obtain ⟨vs, h1, h2⟩ := o; rw [z] at h1; cases h1)
      | (obtain ⟨C, dx, us, _, h1, h2⟩ := o; rw [z] at h1; cases h1)
  exact {
    len := by rw [List.length_set, List.length_set]; exact s.len
    base := s.base
    tab := s.tab
    trk := s.trk
    fr := s.fr
    av := s.av
    a0 := s.a0
    ow := fun j b q => by
      rcases rho_ne q with ⟨_, h⟩ | ⟨_, h⟩
      · cases h; exact ⟨nv, ha, .inl h0⟩
      · exact s.ow j b h
    inj := fun j l b q1 q2 => by
      rcases rho_ne q1 with ⟨e1, h1⟩ | ⟨e1, h1⟩ <;> rcases rho_ne q2 with ⟨e2, h2⟩ | ⟨e2, h2⟩
      · rw [e1, e2]
      · cases h1; exact absurd h2 (nr l)
      · cases h2; exact absurd h1 (nr j)
      · exact s.inj _ _ _ h1 h2
    slot := fun j => by
      by_cases e : j = i
      · subst e
        rw [List.getElem?_set_self hi]
        exact ⟨a, if_pos rfl, List.getElem?_set_self (by rw [s.len]; exact hi), o⟩
      · rw [List.getElem?_set_ne (Ne.symm e)]
        have z := s.slot j
        revert z
        cases Δ[j]? with
        | none => intro _; trivial
        | some w =>
          cases w with
          | un => intro _; trivial
          | sh d' => exact fun ⟨v', z1, z2⟩ => ⟨v', by rw [List.getElem?_set_ne (Ne.symm e)]; exact z1, z2⟩
          | ow d' => exact fun ⟨b, z0, z1, z2⟩ => ⟨b, by show (if j = i then some a else x.ρ j) = some b; rw [if_neg e]; exact z0, by rw [List.getElem?_set_ne (Ne.symm e)]; exact z1, z2⟩
    ios := fun p hp => by show (if p.1 = i then some a else x.ρ p.1) = some p.2; rw [if_neg (hio p hp)]; exact s.ios p hp }
theorem Kp.setOw {x0 : Sx} {H0 : Hp} {a : Addr} (k : Kp x0 H0 x H) (h : H0 a = none) (i : Nat) : Kp x0 H0 ⟨x.Av, fun j => if j = i then some a else x.ρ j⟩ H :=
  ⟨k.frame, k.trk, fun j p q => by
    rcases rho_ne q with ⟨_, e⟩ | ⟨_, e⟩
    · cases e; exact .inr h
    · exact k.own j p e, k.av, k.avb⟩
end
section
variable {X : Cx} {c : Ct} {W : WX} {e : Expr} {fe : M D} {pos pos' : Pos} {i : Nat} {n : Str}
theorem ds_set (hio : ∀ p ∈ c.io, p.1 ≠ i) (hN : X.N.Nodup) (hi : X.N[i]? = some n) (hx : Loc X.env.scope n) (he : DE X c W e fe) (hs : swapsWith e (some (.Name n pos')) pos.line X.env = pure false := by rfl) (hf : X.fn n = true ∨ X.env.scope.names.lookup n = some .local := by first | exact .inl rfl | exact .inr rfl | assumption) :
    DS X c W (.Assign [.Name n pos'] e pos) (mSet i fe) := by
  obtain ⟨t, p, s⟩ := he.out
  refine ⟨_, ps_set hN hi hx p hs hf, fun x σ H Δ E sr q => s x σ H Δ _ sr (q.bind fun d Δ1 q1 v x1 H1 k1 sr1 r => ?_)⟩
  have q2 : PostS c W x H E (if i < Δ1.length then .ok .nx (Δ1.set i (.sh d)) else .bad) := q1
  split at q2
  · rename_i hl
    obtain ⟨k2, sr2⟩ := sr1.setSh hio hl r
    exact q2 _ _ _ (k1.trans k2) sr2
  · exact q2.elim
theorem ds_setO (hio : ∀ p ∈ c.io, p.1 ≠ i) (hN : X.N.Nodup) (hi : X.N[i]? = some n) (hx : Loc X.env.scope n) (he : DF X c W e fe) (hs : swapsWith e (some (.Name n pos')) pos.line X.env = pure false := by rfl) (hf : X.fn n = true ∨ X.env.scope.names.lookup n = some .local := by first | exact .inl rfl | exact .inr rfl | assumption) :
    DS X c W (.Assign [.Name n pos'] e pos) (mSetO i fe) := by
  obtain ⟨t, p, s⟩ := he.out
  refine ⟨_, ps_set hN hi hx p hs hf, fun x σ H Δ E sr q => s x σ H Δ _ sr (q.bind fun d Δ1 q1 a x1 H1 k1 sr1 h0 h1 nv nr o => ?_)⟩
  have q2 : PostS c W x H E (if i < Δ1.length then .ok .nx (Δ1.set i (.ow d)) else .bad) := q1
  split at q2
  · rename_i hl
    exact q2 _ _ _ (k1.setOw h1 i) (sr1.setOw hio hl h0 nv nr o)
  · exact q2.elim
end

/-! ### targets -/
def mTg1 (i : Nat) (d : D) : M Unit := fun Δ => if i < Δ.length then .ok () (Δ.set i (.sh d)) else .bad
def mTgs : List (D → M Unit) → List D → M Unit
  | [], [] => mPure ()
  | t :: ts, d :: ds => mBind (t d) fun _ => mTgs ts ds
  | _, _ => mBad
def mTgT (ts : List (D → M Unit)) : D → M Unit
  | .tup ds => mTgs ts ds
  | .lst ds => mTgs ts ds
  | _ => mBad
/-- slots outside of js as they were -/
def Off (js : List Nat) (σ σ' : St) : Prop := σ'.length = σ.length ∧ ∀ i, i ∉ js → σ'[i]? = σ[i]?
theorem Off.refl {js : List Nat} {σ : St} : Off js σ σ := ⟨rfl, fun _ _ => rfl⟩
theorem Off.trans {js ks : List Nat} {σ σ1 σ2 : St} (a : Off js σ σ1) (b : Off ks σ1 σ2) : Off (js ++ ks) σ σ2 := ⟨b.1.trans a.1, fun i h => by
  rw [b.2 i fun q => h (List.mem_append_right _ q), a.2 i fun q => h (List.mem_append_left _ q)]⟩
def okG (c : Ct) (x : Sx) (js : List Nat) (σ : St) (H : Hp) (Q : St → Hp → Prop) : Res Unit → Prop
  | .ok _ Δ' => ∀ σ' x', Kp x H x' H → SR c x' σ' H Δ' → Off js σ σ' → Q σ' H
  | _ => False
def SoundG (c : Ct) (t : TG) (js : List Nat) (f : D → M Unit) : Prop := ∀ x σ H Δ v d Q, SR c x σ H Δ → Rep c.toGc x.Av H d v → okG c x js σ H Q (f d Δ) → t v σ H Q
def SoundGs (c : Ct) (t : TGs) (js : List Nat) (f : List D → M Unit) : Prop := ∀ x σ H Δ vs ds Q, SR c x σ H Δ → RepL c.toGc x.Av H ds vs → okG c x js σ H Q (f ds Δ) → t vs σ H Q
structure DG (X : Cx) (c : Ct) (e : Expr) (js : List Nat) (f : D → M Unit) : Prop where
  out : ∃ t, PG X e t ∧ SoundG c t js f
structure DGs (X : Cx) (c : Ct) (es : List Expr) (js : List Nat) (f : List D → M Unit) : Prop where
  out : ∃ t, PGs X es t ∧ SoundGs c t js f
section
variable {X : Cx} {c : Ct} {W : WX} {e : Expr} {es : List Expr} {pos : Pos} {i : Nat} {n : Str} {js ks : List Nat}
theorem PG.or {t t' : TG} (h : PG X e t) (h' : PG X e t') : PG X e (fun v σ H Q => t v σ H Q ∨ t' v σ H Q) :=
  ⟨fun pins s σ H v u Q I r q => q.elim (h.run pins s σ H v u Q I r) (h'.run pins s σ H v u Q I r)⟩
theorem dg_name (hio : ∀ p ∈ c.io, p.1 ≠ i) (hN : X.N.Nodup) (hi : X.N[i]? = some n) (hx : Loc X.env.scope n) (hf : X.fn n = true ∨ X.env.scope.names.lookup n = some .local := by first | exact .inl rfl | exact .inr rfl | assumption) : DG X c (.Name n pos) [i] (mTg1 i) := by
  refine ⟨_, pg_name hN hi hx hf, fun x σ H Δ v d Q sr r q => ?_⟩
  unfold mTg1 at q
  split at q
  · rename_i hl
    obtain ⟨k2, sr2⟩ := sr.setSh hio hl r
    exact q _ _ k2 sr2 ⟨List.length_set, fun j hj => List.getElem?_set_ne (fun z => hj (by rw [z]; exact List.mem_singleton_self _))⟩
  · exact q.elim
theorem dgs_nil : DGs X c [] [] (mTgs []) := by
  refine ⟨_, pgs_nil, fun x σ H Δ vs ds Q sr r q => ?_⟩
  cases ds with
  | nil => unfold RepL at r; exact ⟨r, q σ x (Kp.refl _ _) sr Off.refl⟩
  | cons d ds => exact q.elim
theorem dgs_cons {t : D → M Unit} {ts : List (D → M Unit)} (h : DG X c e js t) (r : DGs X c es ks (mTgs ts)) (hs : (assignEach (e :: es) X.env).map (·.2) = assign e X.env :: (assignEach es X.env).map (·.2) := by rfl) : DGs X c (e :: es) (js ++ ks) (mTgs (t :: ts)) := by
  obtain ⟨tg, p, s⟩ := h.out
  obtain ⟨ug, p', s'⟩ := r.out
  refine ⟨_, pgs_cons p p' hs, fun x σ H Δ vs ds Q sr rl q => ?_⟩
  cases ds with
  | nil => exact q.elim
  | cons d ds =>
    unfold RepL at rl
    obtain ⟨v, r, rfl, h1, h2⟩ := rl
    refine ⟨v, r, rfl, s x σ H Δ v d _ sr h1 ?_⟩
    have q' : okG c x (js ++ ks) σ H Q (mBind (t d) (fun _ => mTgs ts ds) Δ) := q
    unfold mBind at q'
    cases ed : t d Δ with
    | ok a Δ1 =>
      rw [ed] at q'
      refine fun σ1 x1 k1 sr1 o1 => s' x1 σ1 H Δ1 r ds Q sr1 (h2.kp sr k1) ?_
      dsimp only at q'
      revert q'
      cases mTgs ts ds Δ1 with
      | ok b Δ2 => exact fun q' σ2 x2 k2 sr2 o2 => q' σ2 x2 (k1.trans k2) sr2 (o1.trans o2)
      | ex _ _ _ => exact fun q' => q'
      | bad => exact fun q' => q'
    | ex n d Δ1 => rw [ed] at q'; exact q'.elim
    | bad => rw [ed] at q'; exact q'.elim
theorem dg_tup {ts : List (D → M Unit)} {k m : Nat} (hc : X.calm = true) (h : DGs X c es js (mTgs ts)) (hm : ts.length = m := by rfl)
    (hn : (assignEach es X.env).length = m := by rfl) (hst : (assignEach es X.env).findIdx? (·.1) = none := by rfl) : DG X c (.Tuple es k pos) js (mTgT ts) := by
  obtain ⟨tg, p, s⟩ := h.out
  refine ⟨_, PG.or (pg_tup hc p hn hst) (pg_unl hc p hn hst), fun x σ H Δ v d Q sr r q => ?_⟩
  have len : ∀ {ts : List (D → M Unit)} {ds : List D} {Δ : SD}, okG c x js σ H Q (mTgs ts ds Δ) → ds.length = ts.length := by
    intro ts
    induction ts with
    | nil =>
      intro ds Δ q
      cases ds with
      | nil => rfl
      | cons d ds => exact q.elim
    | cons t ts ih =>
      intro ds Δ q
      cases ds with
      | nil => exact q.elim
      | cons d ds =>
        have q' : okG c x js σ H Q (mBind (t d) (fun _ => mTgs ts ds) Δ) := q
        unfold mBind at q'
        cases ed : t d Δ with
        | ok a Δ1 =>
          rw [ed] at q'
          rw [List.length_cons, List.length_cons, ih q']
        | ex n d Δ1 => rw [ed] at q'; exact q'.elim
        | bad => rw [ed] at q'; exact q'.elim
  cases d <;> first
    | exact q.elim
    | skip
  · obtain ⟨a, vs, rfl, hh, rl⟩ := rep_lst (.inl r)
    exact .inr ⟨a, vs, rfl, SqL.of hh, by rw [repL_length rl, ← hm]; exact len q, s x σ H Δ vs _ Q sr rl q⟩
  · obtain ⟨a, vs, rfl, _, hh, rl⟩ := rep_tup (.inl r)
    exact .inl ⟨a, vs, rfl, SqT.of hh, by rw [repL_length rl, ← hm]; exact len q, s x σ H Δ vs _ Q sr rl q⟩
/-- a target takes a value -/
def mTake (t : D → M Unit) (d : D) : M Fl := fun Δ => match t d Δ with
  | .ok _ Δ' => .ok .nx Δ'
  | _ => .bad
theorem PostS.take {x : Sx} {σ : St} {H : Hp} {E : Ends} {t : D → M Unit} {d : D} {Δ : SD} (q : PostS c W x H E (mTake t d Δ)) : okG c x js σ H (fun σ' H' => E.nx σ' H') (t d Δ) := by
  unfold mTake at q
  cases ed : t d Δ with
  | ok a Δ2 => rw [ed] at q; exact fun σ2 x2 k2 sr2 _ => q σ2 x2 H k2 sr2
  | ex n d Δ2 => rw [ed] at q; exact q.elim
  | bad => rw [ed] at q; exact q.elim
def mAsg (t : D → M Unit) (f : M D) : M Fl := mBind f (mTake t)
theorem ds_asg {fe : M D} {t : D → M Unit} {v : Expr} (he : DE X c W v fe) (hg : DG X c e js t) (hs : swapsWithSole [e] v pos.line X.env = pure false := by rfl) (hw : swappedStores [e] v X.env = pure none := by rfl)
    (h1 : (assignEach [e] X.env).map (·.2) = [assign e X.env] := by rfl) : DS X c W (.Assign [e] v pos) (mAsg t fe) := by
  obtain ⟨te, p, s⟩ := he.out
  obtain ⟨tg, pg, sg⟩ := hg.out
  exact ⟨_, ps_asg p pg hs hw h1, fun x σ H Δ E sr q => s x σ H Δ _ sr (q.bind fun d Δ1 q1 v x1 H1 k1 sr1 r =>
    sg x1 σ H1 Δ1 v d _ sr1 r (PostS.take (PostS.step q1 k1)))⟩
end
end DL

namespace DL
open PySem L2

/-- an iterator that yields just these data -/
def ItOk (c : Ct) (x : Sx) (H : Hp) (J : It) (ds : List D) : Prop := ∀ x' σ' H' Δ' i, Kp x H x' H' → SR c x' σ' H' Δ' →
  (ds.length ≤ i → J.stop i H') ∧ ∀ d, ds[i]? = some d → J.go i H' ∧ ∀ v H'', J.yld i H' v H'' → Ex H' H'' ∧ Rep c.toGc x'.Av H'' d v
def okI (c : Ct) (x : Sx) (σ : St) (H : Hp) (R : It → Hp → Prop) (ds : List D) (Δ' : SD) : Prop := ∀ J x' H', Kp x H x' H' → SR c x' σ H' Δ' → ItOk c x' H' J ds → R J H'
def SoundI (c : Ct) (W : WX) (wi : TI) (f : M (List D)) : Prop := ∀ x σ H Δ R, SR c x σ H Δ → Post c W x σ H (okI c x σ H R) (f Δ) → wi σ H R
structure DI (X : Cx) (c : Ct) (W : WX) (tg iter : Expr) (f : M (List D)) : Prop where
  out : ∃ wi, PI X tg iter wi ∧ SoundI c W wi f

def dItems : D → Option (List D)
  | .lst ds => some ds
  | .tup ds => some ds
  | _ => none
def mItems (f : M D) : M (List D) := mBind f fun d => mOpt (dItems d)
def mRng (g : List D → Option (List D)) (f : M (List AK)) : M (List D) := mBind f fun as => mBind (mGets as) fun ds => mOpt (g ds)
def intsFrom (lo : Int) (n : Nat) : List D := (List.range n).map fun i => D.int (lo + (i : Nat))
def big62 : Int := 4611686018427387904
def dRng1 : List D → Option (List D)
  | [.int j] => if -1000000000 < j ∧ j < 1000000000 then some (intsFrom 0 j.toNat) else none
  | _ => none
def dRng2 : List D → Option (List D)
  | [.int i, .int j] => if -1000000000 < i ∧ i < 1000000000 ∧ -1000000000 < j ∧ j < 1000000000 then some (intsFrom i (j - i).toNat) else none
  | _ => none
def enumD : Nat → List D → List D
  | _, [] => []
  | i, d :: ds => .tup [.int (i : Nat), d] :: enumD (i + 1) ds
def dEnum : List D → Option (List D)
  | [.lst ds] => some (enumD 0 ds)
  | _ => none
def zipD : List D → List D → List D
  | d :: ds, e :: es => .tup [d, e] :: zipD ds es
  | _, _ => []
def dZip : List D → Option (List D)
  | [.lst ds, .lst es] => some (zipD ds es)
  | _ => none

section
variable {c : Ct} {W : WX} {x : Sx} {σ : St} {H : Hp} {Δ : SD}
theorem okI.step {x1 : Sx} {H1 : Hp} {R : It → Hp → Prop} {ds : List D} {Δ' : SD} (k : Kp x H x1 H1) (h : okI c x σ H R ds Δ') : okI c x1 σ H1 R ds Δ' := fun J x' H' k' => h J x' H' (k.trans k')
theorem it_list (sr : SR c x σ H Δ) {a : Addr} {vs : List V} {ds : List D} (ha : x.Av a) (hh : H a = some (.lst vs)) (r : RepL c.toGc x.Av H ds vs) : ItOk c x H (Itl c.K a) ds := by
  intro x' σ' H' Δ' i k sr'
  have kp := sr.keep k
  have q : SqL c.K H' a vs := SqL.of (kp.lst a vs ha hh)
  have r' := r.keep kp
  refine ⟨fun hi => ⟨vs, q, by rw [repL_length r]; exact hi⟩, fun d hd => ?_⟩
  obtain ⟨v, hv, rv⟩ := r'.at hd
  refine ⟨⟨vs, v, q, hv⟩, fun u H'' y => ?_⟩
  obtain ⟨e, y⟩ := y
  subst e
  have := y vs q
  rw [hv] at this; cases this
  exact ⟨Ex.refl _, rv⟩
theorem it_tup (sr : SR c x σ H Δ) {a : Addr} {vs : List V} {ds : List D} (ha : x.Av a) (hh : H a = some (.tup vs)) (r : RepL c.toGc x.Av H ds vs) : ItOk c x H (Itt c.K a) ds := by
  intro x' σ' H' Δ' i k sr'
  have kp := sr.keep k
  have q : SqT c.K H' a vs := SqT.of (kp.tup a vs ha hh)
  have r' := r.keep kp
  refine ⟨fun hi => ⟨vs, q, by rw [repL_length r]; exact hi⟩, fun d hd => ?_⟩
  obtain ⟨v, hv, rv⟩ := r'.at hd
  refine ⟨⟨vs, v, q, hv⟩, fun u H'' y => ?_⟩
  obtain ⟨e, y⟩ := y
  subst e
  have := y vs q
  rw [hv] at this; cases this
  exact ⟨Ex.refl _, rv⟩
theorem intsFrom_at (lo : Int) (n i : Nat) : (intsFrom lo n)[i]? = if i < n then some (.int (lo + (i : Nat))) else none := by
  unfold intsFrom
  rw [List.getElem?_map]
  by_cases h : i < n
  · rw [if_pos h, List.getElem?_range h]; rfl
  · rw [if_neg h, List.getElem?_eq_none (by rw [List.length_range]; omega)]; rfl
theorem intsFrom_length (lo : Int) (n : Nat) : (intsFrom lo n).length = n := by simp [intsFrom]
theorem it_range {lo : Int} {n : Nat} : ItOk c x H (Itr lo n) (intsFrom lo n) := by
  intro x' σ' H' Δ' i k sr'
  refine ⟨fun hi => by rw [intsFrom_length] at hi; exact hi, fun d hd => ?_⟩
  rw [intsFrom_at] at hd
  split at hd
  · rename_i h
    cases hd
    refine ⟨h, fun v H'' y => ?_⟩
    obtain ⟨e1, e2⟩ := y
    subst e1 e2
    exact ⟨Ex.refl _, mk_int⟩
  · cases hd
theorem mk_pair {G : Gc} {Av : Addr → Prop} {H : Hp} {T : Addr} {d e : D} {v u : V} (fr : Fresh H Av) (hT : H T = none) (r1 : Rep G Av H d v) (r2 : Rep G Av H e u) : Ex H (upd H T (.tup [v, u])) ∧ Rep G Av (upd H T (.tup [v, u])) (.tup [d, e]) (.ref T) := by
  have ex : Ex H (upd H T (.tup [v, u])) := Ex.new hT
  refine ⟨ex, ?_⟩
  unfold Rep
  refine ⟨T, [v, u], rfl, fr T hT, upd_same, ?_⟩
  unfold RepL
  refine ⟨v, [u], rfl, r1.keep ex.keep, ?_⟩
  unfold RepL
  refine ⟨u, [], rfl, r2.keep ex.keep, ?_⟩
  unfold RepL; rfl
theorem enumD_at : ∀ (ds : List D) (k i : Nat), (enumD k ds)[i]? = (ds[i]?).map fun d => .tup [.int ((k + i : Nat) : Int), d]
  | [], k, i => by simp [enumD]
  | d :: ds, k, 0 => by simp [enumD]
  | d :: ds, k, i + 1 => by
    have := enumD_at ds (k + 1) i
    simp only [enumD, List.getElem?_cons_succ, this]
    have e : k + 1 + i = k + (i + 1) := by omega
    rw [e]
theorem enumD_length : ∀ (ds : List D) (k : Nat), (enumD k ds).length = ds.length
  | [], _ => rfl
  | _ :: ds, k => by simp [enumD, enumD_length ds (k + 1)]
theorem it_enum (sr : SR c x σ H Δ) {a : Addr} {vs : List V} {ds : List D} (ha : x.Av a) (hh : H a = some (.lst vs)) (r : RepL c.toGc x.Av H ds vs) : ItOk c x H (Ite c.K a) (enumD 0 ds) := by
  intro x' σ' H' Δ' i k sr'
  have kp := sr.keep k
  have q : SqL c.K H' a vs := SqL.of (kp.lst a vs ha hh)
  have r' := r.keep kp
  refine ⟨fun hi => ⟨vs, q, by rw [repL_length r, ← enumD_length ds 0]; exact hi⟩, fun d hd => ?_⟩
  rw [enumD_at, Option.map_eq_some_iff] at hd
  obtain ⟨d', hd', rfl⟩ := hd
  obtain ⟨v, hv, rv⟩ := r'.at hd'
  refine ⟨⟨vs, v, q, hv⟩, fun u H'' y => ?_⟩
  obtain ⟨T, w, rfl, hT, rfl, y⟩ := y
  have := y vs q
  rw [hv] at this; cases this
  rw [Nat.zero_add]
  exact mk_pair sr'.fr hT mk_int rv
theorem zipD_at : ∀ (ds es : List D) (i : Nat), (zipD ds es)[i]? = (ds[i]?).bind fun d => (es[i]?).map fun e => .tup [d, e]
  | [], es, i => by simp [zipD]
  | d :: ds, [], i => by simp [zipD]
  | d :: ds, e :: es, 0 => by simp [zipD]
  | d :: ds, e :: es, i + 1 => by simp [zipD, zipD_at ds es i]
theorem zipD_length : ∀ (ds es : List D), (zipD ds es).length = min ds.length es.length
  | [], es => by simp [zipD]
  | d :: ds, [] => by simp [zipD]
  | d :: ds, e :: es => by simp [zipD, zipD_length ds es]
theorem it_zip (sr : SR c x σ H Δ) {a b : Addr} {vs us : List V} {ds es : List D} (ha : x.Av a) (hh : H a = some (.lst vs)) (r : RepL c.toGc x.Av H ds vs) (hb : x.Av b) (hh2 : H b = some (.lst us)) (r2 : RepL c.toGc x.Av H es us) : ItOk c x H (Itz c.K a b) (zipD ds es) := by
  intro x' σ' H' Δ' i k sr'
  have kp := sr.keep k
  have q : SqL c.K H' a vs := SqL.of (kp.lst a vs ha hh)
  have q2 : SqL c.K H' b us := SqL.of (kp.lst b us hb hh2)
  have r' := r.keep kp
  have r2' := r2.keep kp
  refine ⟨fun hi => ⟨vs, us, q, q2, by rw [zipD_length] at hi; rw [repL_length r, repL_length r2]; omega⟩, fun d hd => ?_⟩
  rw [zipD_at, Option.bind_eq_some_iff] at hd
  obtain ⟨d1, hd1, hd⟩ := hd
  rw [Option.map_eq_some_iff] at hd
  obtain ⟨d2, hd2, rfl⟩ := hd
  obtain ⟨v, hv, rv⟩ := r'.at hd1
  obtain ⟨w, hw, rw'⟩ := r2'.at hd2
  refine ⟨⟨vs, us, v, w, q, q2, hv, hw⟩, fun u H'' y => ?_⟩
  obtain ⟨T, v', w', rfl, hT, rfl, y1, y2⟩ := y
  have e1 := y1 vs q
  have e2 := y2 us q2
  rw [hv] at e1; cases e1
  rw [hw] at e2; cases e2
  exact mk_pair sr'.fr hT rv rw'
end
section
variable {X : Cx} {c : Ct} {W : WX} {tg e e2 : Expr} {es : List Expr} {fe : M D} {fs : M (List AK)} {p pos tpos : Pos}
theorem PI.or {w w' : TI} (h : PI X tg e w) (h' : PI X tg e w') : PI X tg e (fun σ H R => w σ H R ∨ w' σ H R) :=
  ⟨fun pins s σ H R I q => q.elim (h.run pins s σ H R I) (h'.run pins s σ H R I)⟩
theorem di_seq (hK : c.K = X.K) (h : DE X c W e fe) : DI X c W tg e (mItems fe) := by
  obtain ⟨t, p, s⟩ := h.out
  refine ⟨_, PI.or (pi_list p) (pi_tup p), fun x σ H Δ R sr q => ?_⟩
  rw [← hK]
  cases ef : fe Δ with
  | bad => unfold mItems mBind at q; rw [ef] at q; exact q.elim
  | ex n d Δ1 =>
    refine .inl (s x σ H Δ _ sr ?_)
    unfold mItems mBind at q; rw [ef] at q; rw [ef]; exact q
  | ok d Δ1 =>
    unfold mItems mBind at q; rw [ef] at q
    dsimp only at q
    cases d <;> first
      | exact q.elim
      | skip
    · refine .inl (s x σ H Δ _ sr ?_)
      rw [ef]
      intro v x1 H1 k1 sr1 r
      unfold Rep at r
      obtain ⟨a, vs, rfl, ha, hh, rl⟩ := r
      exact ⟨a, rfl, ⟨vs, SqL.of hh⟩, q _ x1 H1 k1 sr1 (it_list sr1 ha hh rl)⟩
    · refine .inr (s x σ H Δ _ sr ?_)
      rw [ef]
      intro v x1 H1 k1 sr1 r
      unfold Rep at r
      obtain ⟨a, vs, rfl, ha, hh, rl⟩ := r
      exact ⟨a, rfl, ⟨vs, SqT.of hh⟩, q _ x1 H1 k1 sr1 (it_tup sr1 ha hh rl)⟩
theorem Post.rng {α : Type} {x : Sx} {σ : St} {H : Hp} {Δ : SD} {ok : α → SD → Prop} {o : Option α} (q : Post c W x σ H ok (mOpt o Δ)) : ∃ a, o = some a ∧ ok a Δ := by
  cases o with
  | none => exact q.elim
  | some a => exact ⟨a, rfl, q⟩
theorem di_rng1 (hg : Gl X "range") (hm : X.mg "range" = none) (h : DA X c W [e] fs) (hs : starEach [e] X.env = [(false, eval e X.env)] := by rfl) : DI X c W tg (.Call (.Name "range" p) [e] [] pos) (mRng dRng1 fs) := by
  obtain ⟨t, pa, s⟩ := h.out
  refine ⟨_, pi_range1 hg hm pa hs, fun x σ H Δ R sr q => s x σ H Δ _ sr (q.bind fun as Δ1 q1 vs x1 H1 k1 sr1 h1 => ?_)⟩
  obtain ⟨ds, r, q2⟩ := Post.gets sr1 h1 (q1.step k1 fun a Δ q => okI.step k1 q)
  obtain ⟨ys, ey, q3⟩ := Post.rng q2
  unfold dRng1 at ey
  split at ey
  · split at ey
    · rename_i hz
      cases ey
      obtain ⟨v, rfl, r1⟩ := rl_one r
      rename_i j
      rw [rep_int r1]
      exact ⟨j, rfl, by omega, by omega, q3 _ x1 H1 (Kp.refl _ _) sr1 it_range⟩
    · cases ey
  · cases ey
theorem di_rng2 (hg : Gl X "range") (hm : X.mg "range" = none) (h : DA X c W [e, e2] fs) (hs : starEach [e, e2] X.env = [(false, eval e X.env), (false, eval e2 X.env)] := by rfl) (hs2 : starEach [e2] X.env = [(false, eval e2 X.env)] := by rfl) : DI X c W tg (.Call (.Name "range" p) [e, e2] [] pos) (mRng dRng2 fs) := by
  obtain ⟨t, pa, s⟩ := h.out
  refine ⟨_, pi_range2 hg hm pa hs hs2, fun x σ H Δ R sr q => s x σ H Δ _ sr (q.bind fun as Δ1 q1 vs x1 H1 k1 sr1 h1 => ?_)⟩
  obtain ⟨ds, r, q2⟩ := Post.gets sr1 h1 (q1.step k1 fun a Δ q => okI.step k1 q)
  obtain ⟨ys, ey, q3⟩ := Post.rng q2
  unfold dRng2 at ey
  split at ey
  · split at ey
    · rename_i hz
      cases ey
      obtain ⟨v, u, rfl, r1, r2⟩ := rl_two r
      rw [rep_int r1, rep_int r2]
      exact ⟨_, _, rfl, ⟨by omega, by omega, by omega, by omega⟩, q3 _ x1 H1 (Kp.refl _ _) sr1 it_range⟩
    · cases ey
  · cases ey
theorem lst_sh {G : Gc} {Av : Addr → Prop} {H : Hp} {ds : List D} {v : V} (r : Rep G Av H (.lst ds) v) : ∃ a vs, v = .ref a ∧ Av a ∧ H a = some (.lst vs) ∧ RepL G Av H ds vs := by
  unfold Rep at r; exact r
/-- the list in enumerate(..), the lists in zip(..) are shared -/
def mEnum (f : M D) : M (List D) := mBind f fun d => mOpt (dEnum [d])
def mZip (f g : M D) : M (List D) := mBind f fun d => mBind g fun e => mOpt (dZip [d, e])
theorem di_enum {elts : List Expr} {kk : Nat} (hK : c.K = X.K) (hg : Gl X "enumerate") (hm : X.mg "enumerate" = none) (h : DE X c W e fe) (hs : starEach [e] X.env = [(false, eval e X.env)] := by rfl) : DI X c W (.Tuple elts kk tpos) (.Call (.Name "enumerate" p) [e] [] pos) (mEnum fe) := by
  obtain ⟨t, pe, s⟩ := h.out
  refine ⟨_, pi_enum hg hm (pa_cons pe pa_nil (by rw [hs]; rfl)) hs, fun x σ H Δ R sr q => s x σ H Δ _ sr (q.bind fun d Δ1 q1 v x1 H1 k1 sr1 r => ?_)⟩
  obtain ⟨ys, ey, q3⟩ := Post.rng (q1.step k1 fun a Δ q => okI.step k1 q)
  unfold dEnum at ey
  split at ey
  · rename_i heq
    cases heq
    cases ey
    obtain ⟨a, vs, rfl, ha, hh, rl⟩ := lst_sh r
    rw [← hK]
    exact ⟨a, vs, rfl, SqL.of hh, q3 _ x1 H1 (Kp.refl _ _) sr1 (it_enum sr1 ha hh rl)⟩
  · cases ey
theorem di_zip {elts : List Expr} {kk : Nat} {fe2 : M D} (hK : c.K = X.K) (hg : Gl X "zip") (hm : X.mg "zip" = none) (h : DE X c W e fe) (h2 : DE X c W e2 fe2) (hs : starEach [e, e2] X.env = (false, eval e X.env) :: starEach [e2] X.env := by rfl) (hs2 : starEach [e2] X.env = (false, eval e2 X.env) :: starEach [] X.env := by rfl)
    (hpl : (backTo pos (starEach [e2] X.env)).any (·.1) = false := by rfl) : DI X c W (.Tuple elts kk tpos) (.Call (.Name "zip" p) [e, e2] [] pos) (mZip fe fe2) := by
  obtain ⟨t, pe, s⟩ := h.out
  obtain ⟨t2, pe2, s2⟩ := h2.out
  refine ⟨_, pi_zip hg hm (pa_cons pe (pa_cons pe2 pa_nil hs2) hs) hs hpl, fun x σ H Δ R sr q => s x σ H Δ _ sr (q.bind fun d Δ1 q1 v x1 H1 k1 sr1 r => ?_)⟩
  refine s2 x1 σ H1 Δ1 _ sr1 ((q1.step k1 fun a Δ q => okI.step k1 q).bind fun d2 Δ2 q2 u x2 H2 k2 sr2 r2 => ?_)
  obtain ⟨ys, ey, q3⟩ := Post.rng (q2.step k2 fun a Δ q => okI.step k2 q)
  unfold dZip at ey
  split at ey
  · rename_i heq
    cases heq
    cases ey
    obtain ⟨a, vs, rfl, ha, hh, rl⟩ := lst_sh (r.kp sr1 k2)
    obtain ⟨b, us, rfl, hb, hh2, rl2⟩ := lst_sh r2
    rw [← hK]
    exact ⟨a, b, vs, us, rfl, SqL.of hh, SqL.of hh2, q3 _ x2 H2 (Kp.refl _ _) sr2 (it_zip sr2 ha hh rl hb hh2 rl2)⟩
  · cases ey
end

/-! ### for -/
def mFor (t : D → M Unit) (body : M Fl) : List D → M Fl
  | [] => mNx
  | d :: ds => fun Δ => match t d Δ with
    | .ok _ Δ1 => mBind body (fun fl => match fl with
      | .nx => mFor t body ds
      | .ct => mFor t body ds
      | .bk => mNx
      | fl => mPure fl) Δ1
    | _ => .bad
def mForE (fi : M (List D)) (t : D → M Unit) (body : M Fl) : M Fl := mBind fi (mFor t body)
section
variable {X : Cx} {c : Ct} {W : WX} {tg iter : Expr} {body : List Stmt} {fi : M (List D)} {t : D → M Unit} {fb : M Fl} {pos : Pos}
/-- one turn's body -/
theorem turn_body {tb : TS} {x : Sx} {σ : St} {H : Hp} {Δ : SD} {E : Ends} {N : St → Hp → Prop} {rest : M Fl} (sb : SoundS c W tb fb) (sr : SR c x σ H Δ)
    (q : PostS c W x H E (mBind fb (fun fl => match fl with
      | .nx => rest
      | .ct => rest
      | .bk => mNx
      | fl => mPure fl) Δ))
    (hN : ∀ σ' x' H' Δ', Kp x H x' H' → SR c x' σ' H' Δ' → PostS c W x' H' E (rest Δ') → N σ' H') : tb { E with nx := N, ct := N, bk := E.nx } σ H := by
  refine sb x σ H Δ _ sr ?_
  unfold mBind at q
  cases eb : fb Δ with
  | bad => rw [eb] at q; exact q
  | ex n d Δ' => rw [eb] at q; exact q
  | ok fl Δ1 =>
    rw [eb] at q
    cases fl with
    | nx => exact fun σ' x' H' k sr' => hN σ' x' H' Δ1 k sr' (PostS.step q k)
    | ct => exact fun σ' x' H' k sr' => hN σ' x' H' Δ1 k sr' (PostS.step q k)
    | bk => exact q
    | rt d => exact q
    | rf d => exact q
theorem ds_for (hp : PassesOwn (model X.prog X.w) X.A X.env X.xe) (hc : X.calm = true) (hi : DI X c W tg iter fi) {js : List Nat} (hg : DG X c tg js t) (hb : DB X c W body fb) (hs : ∀ x, foldedSetIterable iter X.env x = pure x := by intro _; rfl) : DS X c W (.For tg iter body [] pos) (mForE fi t fb) := by
  obtain ⟨wi, pi, si⟩ := hi.out
  obtain ⟨g, pg, sg⟩ := hg.out
  obtain ⟨tb, pb, sb⟩ := hb.out
  refine ⟨_, ps_for hp hc pi pg pb hs, fun x σ H Δ E sr q => si x σ H Δ _ sr (q.bind fun ds Δ1 q1 J x1 H1 k1 sr1 it => ?_)⟩
  refine ⟨fun i m σ' H' => m = ds.length - i ∧ i ≤ ds.length ∧ ∃ x' Δ', Kp x1 H1 x' H' ∧ SR c x' σ' H' Δ' ∧ PostS c W x' H' E (mFor t fb (ds.drop i) Δ'), ⟨ds.length, rfl, Nat.zero_le _, x1, Δ1, Kp.refl _ _, sr1, PostS.step q1 k1⟩, ?_⟩
  rintro i m σ' H' ⟨rfl, hi', x', Δ', k', sr', q'⟩
  obtain ⟨stop, go⟩ := it x' σ' H' Δ' i k' sr'
  by_cases hlt : i < ds.length
  · obtain ⟨gi, yi⟩ := go ds[i] (by simp [hlt])
    rw [List.drop_eq_getElem_cons hlt] at q'
    refine .inr ⟨gi, fun σ3 H3 => ∃ x3 Δ3, Kp x1 H1 x3 H3 ∧ SR c x3 σ3 H3 Δ3 ∧ PostS c W x3 H3 E (mFor t fb (ds.drop (i + 1)) Δ3), fun σ3 H3 n3 => ⟨ds.length - (i + 1), by omega, rfl, hlt, n3⟩, fun v H2 hy => ?_⟩
    obtain ⟨ex, r⟩ := yi v H2 hy
    have k2 := Kp.ex ex x'
    have sr2 := sr'.ex ex
    refine sg x' σ' H2 Δ' v _ _ sr2 r ?_
    have q2 : PostS c W x' H2 E (mFor t fb (ds[i] :: ds.drop (i + 1)) Δ') := PostS.step q' k2
    unfold mFor at q2
    cases et : t ds[i] Δ' with
    | bad => rw [et] at q2; exact q2.elim
    | ex _ _ _ => rw [et] at q2; exact q2.elim
    | ok u Δ2 =>
      rw [et] at q2
      exact fun σ2 x2 k3 sr3 _ => turn_body sb sr3 (PostS.step q2 k3) fun σ3 x3 H3 Δ3 k4 sr4 q4 => ⟨x3, Δ3, ((k'.trans k2).trans k3).trans k4, sr4, q4⟩
  · have e : i = ds.length := by omega
    refine .inl ⟨stop (by omega), ?_⟩
    rw [e, List.drop_length] at q'
    exact q' σ' x' H' (Kp.refl _ _) sr'

/-! ### while -/
def mWhile (fc : M Bool) (body : M Fl) : Nat → M Fl
  | 0 => mBad
  | n + 1 => mBind fc fun b => if b = true then mBind body (fun fl => match fl with
      | .nx => mWhile fc body n
      | .ct => mWhile fc body n
      | .bk => mNx
      | fl => mPure fl) else mNx
theorem ds_while {ce : Expr} {fc : M Bool} (n : Nat) (hp : PassesOwn (model X.prog X.w) X.A X.env X.xe) (hc : DT X c W ce fc) (hb : DB X c W body fb) : DS X c W (.While ce body [] pos) (mWhile fc fb n) := by
  obtain ⟨tc, pc, sc⟩ := hc.out
  obtain ⟨tb, pb, sb⟩ := hb.out
  refine ⟨_, ps_while hp pc pb, fun x σ H Δ E sr q => ?_⟩
  refine ⟨fun m σ' H' => ∃ x' Δ', Kp x H x' H' ∧ SR c x' σ' H' Δ' ∧ PostS c W x' H' E (mWhile fc fb m Δ'), ⟨n, x, Δ, Kp.refl _ _, sr, q⟩, ?_⟩
  rintro m σ' H' ⟨x', Δ', k', sr', q'⟩
  cases m with
  | zero => exact q'.elim
  | succ m =>
    refine sc x' σ' H' Δ' _ sr' (PostS.bind q' fun b Δ2 q2 x2 H2 k2 sr2 => ?_)
    cases b with
    | false => exact q2 σ' x2 H2 k2 sr2
    | true => exact ⟨fun σ3 H3 => ∃ x3 Δ3, Kp x H x3 H3 ∧ SR c x3 σ3 H3 Δ3 ∧ PostS c W x3 H3 E (mWhile fc fb m Δ3), fun σ3 H3 n3 => ⟨m, Nat.lt_succ_self m, n3⟩,
        turn_body sb sr2 (PostS.step q2 k2) fun σ3 x3 H3 Δ3 k3 sr3 q3 => ⟨x3, Δ3, (k'.trans k2).trans k3, sr3, q3⟩⟩
end
end DL

namespace DL
open PySem L2

/-- no exception is wished for -/
abbrev noW : WX := fun _ _ _ _ => False
theorem takes_no {X : Cx} : Takes X noW := fun _ _ ⟨_, _, _, _, _, _, _, _, _, _, _, _, _, _, _, _, w⟩ => w.elim

/-! ### readings that are just the mirror -/
def tE (c : Ct) (W : WX) (f : M D) : TE := fun σ H Q => ∃ x Δ, SR c x σ H Δ ∧ Post c W x σ H (okV c x σ H Q) (f Δ)
def tT (c : Ct) (W : WX) (f : M Bool) : TT := fun σ H Q => ∃ x Δ, SR c x σ H Δ ∧ Post c W x σ H (okT c x σ H Q) (f Δ)
def tG (c : Ct) (js : List Nat) (f : D → M Unit) : TG := fun v σ H Q => ∃ x Δ d, SR c x σ H Δ ∧ Rep c.toGc x.Av H d v ∧ okG c x js σ H Q (f d Δ)
section
variable {X : Cx} {c : Ct} {W : WX} {e : Expr}
theorem DE.pe {f : M D} (h : DE X c W e f) : PE X e (tE c W f) := by
  obtain ⟨t, p, s⟩ := h.out
  exact ⟨fun pins st σ H Q I ⟨x, Δ, sr, q⟩ => p.run pins st σ H Q I (s x σ H Δ Q sr q)⟩
theorem DT.pt {f : M Bool} (h : DT X c W e f) : PT X e (tT c W f) := by
  obtain ⟨t, p, s⟩ := h.out
  exact ⟨fun pins st σ H Q I ⟨x, Δ, sr, q⟩ => p.run pins st σ H Q I (s x σ H Δ Q sr q)⟩
theorem DG.pg {js : List Nat} {f : D → M Unit} (h : DG X c e js f) : PG X e (tG c js f) := by
  obtain ⟨t, p, s⟩ := h.out
  exact ⟨fun pins st σ H v u Q I r ⟨x, Δ, d, sr, rd, q⟩ => p.run pins st σ H v u Q I r (s x σ H Δ v d Q sr rd q)⟩
end

/-! ### the block's slots -/
def wipeD (Δ : SD) : List Nat → SD
  | [] => Δ
  | i :: vs => (wipeD Δ vs).set i .un
/-- behind the block: its own slots as they were -/
def backD (Δ : SD) (Δ' : SD) : List Nat → SD
  | [] => Δ'
  | i :: vs => (backD Δ Δ' vs).set i (Δ.getD i .un)
theorem wipe_at (σ : St) : ∀ (vs : List Nat) (i : Nat), (wipe σ vs)[i]? = if i ∈ vs then (σ[i]?).map (fun _ => none) else σ[i]?
  | [], i => rfl
  | j :: vs, i => by
    show ((wipe σ vs).set j none)[i]? = _
    rw [List.getElem?_set]
    have ih := wipe_at σ vs i
    by_cases e : j = i
    · subst e
      simp only [List.mem_cons, true_or, if_true]
      by_cases hl : j < (wipe σ vs).length
      · rw [if_pos hl]
        rw [wipe_length] at hl
        simp [hl]
      · rw [if_neg hl]
        rw [wipe_length] at hl
        simp [hl]
    · rw [if_neg e, ih]
      have : (i ∈ j :: vs) ↔ i ∈ vs := by simp [Ne.symm e]
      simp only [this]
theorem wipeD_length (Δ : SD) : ∀ vs, (wipeD Δ vs).length = Δ.length
  | [] => rfl
  | i :: vs => by simp [wipeD, wipeD_length Δ vs]
theorem backD_length (Δ Δ' : SD) : ∀ vs, (backD Δ Δ' vs).length = Δ'.length
  | [] => rfl
  | i :: vs => by simp [backD, backD_length Δ Δ' vs]
theorem wipeD_at (Δ : SD) : ∀ (vs : List Nat) (i : Nat), (wipeD Δ vs)[i]? = if i ∈ vs then (Δ[i]?).map (fun _ => SC.un) else Δ[i]?
  | [], i => rfl
  | j :: vs, i => by
    show ((wipeD Δ vs).set j .un)[i]? = _
    rw [List.getElem?_set]
    have ih := wipeD_at Δ vs i
    by_cases e : j = i
    · subst e
      simp only [List.mem_cons, true_or, if_true]
      by_cases hl : j < (wipeD Δ vs).length
      · rw [if_pos hl]
        rw [wipeD_length] at hl
        simp [hl]
      · rw [if_neg hl]
        rw [wipeD_length] at hl
        simp [hl]
    · rw [if_neg e, ih]
      have : (i ∈ j :: vs) ↔ i ∈ vs := by simp [Ne.symm e]
      simp only [this]
theorem backD_at (Δ Δ' : SD) (hl : Δ'.length = Δ.length) : ∀ (vs : List Nat) (i : Nat), (backD Δ Δ' vs)[i]? = if i ∈ vs then Δ[i]? else Δ'[i]?
  | [], i => rfl
  | j :: vs, i => by
    show ((backD Δ Δ' vs).set j (Δ.getD j .un))[i]? = _
    rw [List.getElem?_set]
    have ih := backD_at Δ Δ' hl vs i
    by_cases e : j = i
    · subst e
      simp only [List.mem_cons, true_or, if_true]
      rw [backD_length, hl]
      by_cases h : j < Δ.length
      · rw [if_pos h]; simp [h]
      · rw [if_neg h]; simp [h]
    · rw [if_neg e, ih]
      have : (i ∈ j :: vs) ↔ i ∈ vs := by simp [Ne.symm e]
      simp only [this]

section
variable {c : Ct} {x x' : Sx} {σ : St} {H H' : Hp} {Δ Δ' : SD} {vs : List Nat}
def wipeX (x : Sx) (vs : List Nat) : Sx := ⟨x.Av, fun i => if i ∈ vs then none else x.ρ i⟩
theorem wipeX_rho {i : Nat} {a : Addr} (h : (wipeX x vs).ρ i = some a) : i ∉ vs ∧ x.ρ i = some a := by
  have h' : (if i ∈ vs then none else x.ρ i) = some a := h
  by_cases e : i ∈ vs
  · rw [if_pos e] at h'; cases h'
  · rw [if_neg e] at h'; exact ⟨e, h'⟩
theorem SR.wipe (s : SR c x σ H Δ) (hio : ∀ p ∈ c.io, p.1 ∉ vs) : SR c (wipeX x vs) (L2.wipe σ vs) H (wipeD Δ vs) where
  len := by rw [wipe_length, wipeD_length]; exact s.len
  base := s.base
  tab := s.tab
  trk := s.trk
  fr := s.fr
  av := s.av
  a0 := s.a0
  ow := fun i a h => s.ow i a (wipeX_rho h).2
  inj := fun i j a h1 h2 => s.inj i j a (wipeX_rho h1).2 (wipeX_rho h2).2
  slot := fun i => by
    rw [wipeD_at]
    by_cases e : i ∈ vs
    · rw [if_pos e]
      cases Δ[i]? with
      | none => trivial
      | some z => trivial
    · rw [if_neg e]
      have z := s.slot i
      revert z
      cases Δ[i]? with
      | none => intro _; trivial
      | some w =>
        cases w with
        | un => intro _; trivial
        | sh d => exact fun ⟨v, h1, h2⟩ => ⟨v, by rw [wipe_at, if_neg e]; exact h1, h2⟩
        | ow d => exact fun ⟨a, h0, h1, h2⟩ => ⟨a, by show (if i ∈ vs then none else x.ρ i) = some a; rw [if_neg e]; exact h0, by rw [wipe_at, if_neg e]; exact h1, h2⟩
  ios := fun p hp => by show (if p.1 ∈ vs then none else x.ρ p.1) = some p.2; rw [if_neg (hio p hp)]; exact s.ios p hp
/-- wiping once more, in the block -/
theorem SR.rewipe {σ2 : St} (s : SR c x' σ2 H' Δ') (hw : L2.wipe σ2 vs = L2.wipe σ vs) (hio : ∀ p ∈ c.io, p.1 ∉ vs) : SR c (wipeX x' vs) (L2.wipe σ vs) H' (wipeD Δ' vs) := by
  have q := s.wipe (vs := vs) hio
  rw [hw] at q
  exact q
theorem Kp.wipe (x : Sx) (H : Hp) (vs : List Nat) : Kp x H (wipeX x vs) H := ⟨fun _ _ h _ _ => h, fun _ h => h, fun i a h => .inl ⟨i, (wipeX_rho h).2⟩, fun _ h _ => h, fun _ h => .inl h⟩
/-- the owners behind the block -/
def backX (x x' : Sx) (vs : List Nat) : Sx := ⟨x'.Av, fun i => if i ∈ vs then x.ρ i else x'.ρ i⟩
/-- the state behind the block: k from the block's start -/
theorem SR.back (s : SR c x σ H Δ) (k : Kp (wipeX x vs) H x' H') (s' : SR c x' (L2.wipe σ vs) H' Δ') (hio : ∀ p ∈ c.io, p.1 ∉ vs) : Kp x H (backX x x' vs) H' ∧ SR c (backX x x' vs) σ H' (backD Δ Δ' vs) := by
  have hlen : Δ'.length = Δ.length := by rw [← s'.len, wipe_length, s.len]
  have notOwn : ∀ {a : Addr} {j : Nat}, x'.ρ j = some a → ∀ i, i ∈ vs → x.ρ i ≠ some a := fun {a j} h i hi e => by
    rcases k.own j a h with ⟨l, q⟩ | q
    · have ql := wipeX_rho q
      exact ql.1 (s.inj _ _ _ e ql.2 ▸ hi)
    · exact (s.ow i a e).2.1 q
  have keptOwn : ∀ {i : Nat} {a : Addr}, i ∈ vs → x.ρ i = some a → (∀ o, H a = some o → Fx o → H' a = some o) ∧ ¬ x'.Av a := fun {i a} hi e => by
    have no : ∀ l, (wipeX x vs).ρ l ≠ some a := fun l q => by
      have ql := wipeX_rho q
      exact ql.1 (s.inj _ _ _ e ql.2 ▸ hi)
    refine ⟨fun o ho f => k.frame a o ho f no, fun q => ?_⟩
    rcases k.avb a q with h | h | ⟨l, h⟩
    · exact (s.ow i a e).1 h
    · exact (s.ow i a e).2.1 h
    · exact no l h
  have rho : ∀ {i a}, (backX x x' vs).ρ i = some a → (i ∈ vs ∧ x.ρ i = some a) ∨ (i ∉ vs ∧ x'.ρ i = some a) := fun {i a} h => by
    have h' : (if i ∈ vs then x.ρ i else x'.ρ i) = some a := h
    by_cases e : i ∈ vs
    · rw [if_pos e] at h'; exact .inl ⟨e, h'⟩
    · rw [if_neg e] at h'; exact .inr ⟨e, h'⟩
  have kp : Keep c.toGc x.Av x'.Av H H' := by
    have nv : ∀ {a : Addr}, x.Av a → ∀ l, (wipeX x vs).ρ l ≠ some a := fun ha l q => (s.ow l _ (wipeX_rho q).2).1 ha
    exact ⟨fun a u ha f h => by
      rcases h with h | ⟨o, h⟩
      · exact .inl (k.frame a _ h f (nv ha))
      · exact .inr ⟨o, k.frame a _ h fx_frz (nv ha)⟩, fun a v ha h => k.frame a _ h fx_lst (nv ha), fun a v ha h => k.frame a _ h fx_tup (nv ha), fun a C dx us ha h => k.frame a _ h fx_ins (nv ha),
      fun a u ha h => k.av a ha (by rcases h with h | ⟨o, h⟩ <;> (rw [h]; intro q; cases q))⟩
  refine ⟨⟨fun a o h f n => k.frame a o h f fun l q => n l (wipeX_rho q).2, k.trk, fun i a h => ?_, k.av, fun a h => ?_⟩, ?_⟩
  · rcases rho h with ⟨_, h⟩ | ⟨_, h⟩
    · exact .inl ⟨i, h⟩
    · rcases k.own i a h with ⟨l, q⟩ | q
      · exact .inl ⟨l, (wipeX_rho q).2⟩
      · exact .inr q
  · rcases k.avb a h with q | q | ⟨l, q⟩
    · exact .inl q
    · exact .inr (.inl q)
    · exact .inr (.inr ⟨l, (wipeX_rho q).2⟩)
  · exact {
      len := by rw [backD_length, hlen]; exact s.len
      base := s'.base
      tab := s'.tab
      trk := s'.trk
      fr := s'.fr
      av := s'.av
      a0 := s.a0
      ow := fun i a h => by
        rcases rho h with ⟨hi, h⟩ | ⟨_, h⟩
        · exact ⟨(keptOwn hi h).2, fun q => (s.ow i a h).2.1 (k.trk a q), (s.ow i a h).2.2⟩
        · exact s'.ow i a h
      inj := fun i j a h1 h2 => by
        rcases rho h1 with ⟨i1, h1⟩ | ⟨i1, h1⟩ <;> rcases rho h2 with ⟨i2, h2⟩ | ⟨i2, h2⟩
        · exact s.inj i j a h1 h2
        · exact absurd h1 (notOwn h2 i i1)
        · exact absurd h2 (notOwn h1 j i2)
        · exact s'.inj i j a h1 h2
      slot := fun i => by
        rw [backD_at Δ Δ' hlen]
        by_cases e : i ∈ vs
        · rw [if_pos e]
          have z := s.slot i
          revert z
          cases Δ[i]? with
          | none => intro _; trivial
          | some w =>
            cases w with
            | un => intro _; trivial
            | sh d => exact fun ⟨v, h1, h2⟩ => ⟨v, h1, h2.keep kp⟩
            | ow d =>
              rintro ⟨a, h0, h1, h2⟩
              refine ⟨a, by show (if i ∈ vs then x.ρ i else x'.ρ i) = some a; rw [if_pos e]; exact h0, h1, ?_⟩
              have kf := (keptOwn e h0).1
              show Own c.toGc x'.Av H' a d
              cases d <;> first
                | exact h2.elim
                | (obtain ⟨us, q1, q2⟩ := h2; exact ⟨us, kf _ q1 (by first | exact fx_lst | exact fx_dK | exact fx_dT | exact fx_nd), q2.keep kp⟩)
                | (obtain ⟨C, dx, us, q0, q1, q2⟩ := h2; exact ⟨C, dx, us, q0, kf _ q1 fx_ins, q2.keep kp⟩)
        · rw [if_neg e]
          have z := s'.slot i
          revert z
          cases Δ'[i]? with
          | none => intro _; trivial
          | some w =>
            cases w with
            | un => intro _; trivial
            | sh d => exact fun ⟨v, h1, h2⟩ => ⟨v, by rw [wipe_at, if_neg e] at h1; exact h1, h2⟩
            | ow d => exact fun ⟨a, h0, h1, h2⟩ => ⟨a, by show (if i ∈ vs then x.ρ i else x'.ρ i) = some a; rw [if_neg e]; exact h0, by rw [wipe_at, if_neg e] at h1; exact h1, h2⟩
      ios := fun p hp => by show (if p.1 ∈ vs then x.ρ p.1 else x'.ρ p.1) = some p.2; rw [if_neg (hio p hp)]; exact s'.ios p hp }
end

/-! ### [elt for target in iter if test] -/
def mTurns (vs : List Nat) (t : D → M Unit) (ft : M Bool) (fe : M D) : List D → M (List D)
  | [] => fun Δ => .ok [] (wipeD Δ vs)
  | d :: ds => fun Δ => match t d (wipeD Δ vs) with
    | .ok _ Δ1 => mBind ft (fun b => if b = true then mBind fe fun e => mBind (mTurns vs t ft fe ds) fun es => mPure (e :: es) else mTurns vs t ft fe ds) Δ1
    | _ => .bad
def mLc (vs : List Nat) (fi : M (List D)) (t : D → M Unit) (ft : M Bool) (fe : M D) : M D := mBind fi fun ds Δ => match mTurns vs t ft fe ds (wipeD Δ vs) with
  | .ok es Δ2 => if es.length ≤ lim then .ok (.lst es) (backD Δ Δ2 vs) else .bad
  | _ => .bad
theorem bind_ok {α β : Type} {f : M α} {g : α → M β} {Δ Δ' : SD} {b : β} (h : mBind f g Δ = .ok b Δ') : ∃ a Δ1, f Δ = .ok a Δ1 ∧ g a Δ1 = .ok b Δ' := by
  unfold mBind at h
  cases e : f Δ with
  | ok a Δ1 => rw [e] at h; exact ⟨a, Δ1, rfl, h⟩
  | ex _ _ _ => rw [e] at h; cases h
  | bad => rw [e] at h; cases h
theorem wipeD_twice (Δ : SD) (vs : List Nat) : wipeD (wipeD Δ vs) vs = wipeD Δ vs := by
  apply List.ext_getElem?
  intro i
  rw [wipeD_at, wipeD_at]
  by_cases e : i ∈ vs
  · rw [if_pos e, if_pos e]
    cases Δ[i]? <;> rfl
  · rw [if_neg e, if_neg e]
theorem mTurns_wipe (vs : List Nat) (t : D → M Unit) (ft : M Bool) (fe : M D) (ds : List D) (Δ : SD) : mTurns vs t ft fe ds (wipeD Δ vs) = mTurns vs t ft fe ds Δ := by
  cases ds with
  | nil => show Res.ok [] (wipeD (wipeD Δ vs) vs) = Res.ok [] (wipeD Δ vs); rw [wipeD_twice]
  | cons d ds => unfold mTurns; rw [wipeD_twice]
theorem Keep.temp {G : Gc} {Av : Addr → Prop} {H : Hp} {D : Addr} (o : HO) (nv : ¬ Av D) : Keep G Av Av H (upd H D o) := by
  have ne : ∀ {a}, Av a → a ≠ D := fun ha z => nv (z ▸ ha)
  exact ⟨fun a u ha _ h => by
    rcases h with h | ⟨ob, h⟩
    · exact .inl (by rw [upd_ne (ne ha)]; exact h)
    · exact .inr ⟨ob, by rw [upd_ne (ne ha)]; exact h⟩, fun a v ha h => by rw [upd_ne (ne ha)]; exact h, fun a v ha h => by rw [upd_ne (ne ha)]; exact h, fun a C dx us ha h => by rw [upd_ne (ne ha)]; exact h, fun a u ha _ => ha⟩
/-- a thing that no slot holds and no data shows is changed -/
theorem SR.temp {c : Ct} {x : Sx} {σ : St} {H : Hp} {Δ : SD} (s : SR c x σ H Δ) {D : Addr} (o : HO) (hD : ∃ u, H D = some u ∧ Pln u) (nv : ¬ x.Av D) (nr : ∀ j, x.ρ j ≠ some D) (h0 : c.H0 D = none) : SR c x σ (upd H D o) Δ := by
  obtain ⟨u0, hD, hp⟩ := hD
  have kp : Keep c.toGc x.Av x.Av H (upd H D o) := Keep.temp o nv
  have nn : ∀ {a}, upd H D o a = none → H a = none := fun {a} h => by
    by_cases e : a = D
    · rw [e, upd_same] at h; cases h
    · rw [upd_ne e] at h; exact h
  exact {
    len := s.len
    base := fun a u h f n => by
      have e : a ≠ D := fun z => by rw [z, h0] at h; cases h
      rw [upd_ne e]; exact s.base a u h f n
    tab := tabs_upd s.tab hD hp
    trk := fun a h => s.trk a (nn h)
    fr := fun a h => s.fr a (nn h)
    av := s.av
    a0 := s.a0
    ow := fun i a h => ⟨(s.ow i a h).1, fun q => (s.ow i a h).2.1 (nn q), (s.ow i a h).2.2⟩
    inj := s.inj
    slot := fun i => by
      have z := s.slot i
      revert z
      cases Δ[i]? with
      | none => intro _; trivial
      | some w =>
        cases w with
        | un => intro _; trivial
        | sh d => exact fun ⟨v, h1, h2⟩ => ⟨v, h1, h2.keep kp⟩
        | ow d =>
          rintro ⟨a, h0, h1, h2⟩
          have e : a ≠ D := fun z => nr i (z ▸ h0)
          refine ⟨a, h0, h1, ?_⟩
          show Own c.toGc x.Av (upd H D o) a d
          cases d <;> first
            | exact h2.elim
            | (obtain ⟨us, q1, q2⟩ := h2; exact ⟨us, by rw [upd_ne e]; exact q1, q2.keep kp⟩)
            | (obtain ⟨C, dx, us, q0, q1, q2⟩ := h2; exact ⟨C, dx, us, q0, by rw [upd_ne e]; exact q1, q2.keep kp⟩)
    ios := s.ios }
theorem upd_none {H : Hp} {D a : Addr} {o : HO} (h : upd H D o a = none) : a ≠ D ∧ H a = none := by
  by_cases e : a = D
  · rw [e, upd_same] at h; cases h
  · rw [upd_ne e] at h; exact ⟨e, h⟩
/-- a step seen without that thing -/
theorem Kp.hide {x x' : Sx} {H H' : Hp} (k : Kp x H x' H') {D : Addr} (o : HO) (hD : H D ≠ none) : Kp x (upd H D o) x' (upd H' D o) where
  frame := fun a u h f n => by
    by_cases e : a = D
    · rw [e, upd_same] at h ⊢; exact h
    · rw [upd_ne e] at h ⊢; exact k.frame a u h f n
  trk := fun a h => by
    obtain ⟨e, h⟩ := upd_none h
    rw [upd_ne e]; exact k.trk a h
  own := fun i a h => by
    rcases k.own i a h with q | q
    · exact .inl q
    · have e : a ≠ D := fun z => hD (z ▸ q)
      exact .inr (by rw [upd_ne e]; exact q)
  av := fun a h n => by
    by_cases e : a = D
    · exact k.av a h (e ▸ hD)
    · rw [upd_ne e] at n; exact k.av a h n
  avb := fun a h => by
    rcases k.avb a h with q | q | q
    · exact .inl q
    · have e : a ≠ D := fun z => hD (z ▸ q)
      exact .inr (.inl (by rw [upd_ne e]; exact q))
    · exact .inr (.inr q)
/-- from ahead of that thing's making -/
theorem Kp.show_ {x x' : Sx} {H H' : Hp} {D : Addr} {o : HO} (hD : H D = none) (hD' : H' D ≠ none) (k : Kp ⟨fun a => x.Av a ∧ a ≠ D, x.ρ⟩ (upd H D o) x' (upd H' D o)) : Kp x H x' H' where
  frame := fun a u h f n => by
    have e : a ≠ D := fun z => by rw [z, hD] at h; cases h
    have q := k.frame a u (by rw [upd_ne e]; exact h) f n
    rw [upd_ne e] at q; exact q
  trk := fun a h => by
    have e : a ≠ D := fun z => hD' (z ▸ h)
    have q := k.trk a (by rw [upd_ne e]; exact h)
    rw [upd_ne e] at q; exact q
  own := fun i a h => by
    rcases k.own i a h with q | q
    · exact .inl q
    · exact .inr (upd_none q).2
  av := fun a h n => k.av a ⟨h, fun z => n (z ▸ hD)⟩ fun z => n (upd_none z).2
  avb := fun a h => by
    rcases k.avb a h with q | q | q
    · exact .inl q.1
    · exact .inr (.inl (upd_none q).2)
    · exact .inr (.inr q)
theorem wipe_off {σ σ2 : St} {js vs : List Nat} (h : Off js (L2.wipe σ vs) σ2) (hj : ∀ j ∈ js, j ∈ vs) : L2.wipe σ2 vs = L2.wipe σ vs := by
  apply List.ext_getElem?
  intro i
  rw [wipe_at, wipe_at]
  by_cases e : i ∈ vs
  · rw [if_pos e, if_pos e]
    have hl : σ2.length = σ.length := by rw [h.1, wipe_length]
    by_cases hi : i < σ.length
    · rw [List.getElem?_eq_getElem (by omega), List.getElem?_eq_getElem hi]; rfl
    · rw [List.getElem?_eq_none (by omega), List.getElem?_eq_none (by omega)]
  · rw [if_neg e, if_neg e, h.2 i fun q => e (hj i q), wipe_at, if_neg e]
section
variable {X : Cx} {c : Ct} {W : WX} {elt tg iter : Expr} {ifs : List Expr} {scope : Scope} {own : List (Str × Nat)} {pos : Pos} {fi : M (List D)} {t : D → M Unit} {ft : M Bool} {fe : M D} {js : List Nat}
structure DTs (X : Cx) (c : Ct) (W : WX) (ifs : List Expr) (f : M Bool) : Prop where
  pts : PTs X ifs (tT c W f)
theorem dts_nil : DTs X c W [] (mPure true) := ⟨⟨fun pins s σ H Q I h => pts_nil.run pins s σ H Q I (by
  obtain ⟨x, Δ, sr, q⟩ := h
  exact q x H (Kp.refl _ _) sr)⟩⟩
theorem dts_one {e : Expr} (h : DT X c W e ft) : DTs X c W [e] ft := ⟨pts_one h.pt⟩
theorem lc_read {wi : TI} {vs : List Nat} {σ : St} {H : Hp} {Q : VK} {x : Sx} {Δ : SD} (si : SoundI c W wi fi) (hio : ∀ p ∈ c.io, p.1 ∉ vs) (hj : ∀ j ∈ js, j ∈ vs) (sr : SR c x σ H Δ) (q : Post c W x σ H (okF c x σ H Q) (mLc vs fi t ft fe Δ)) :
    tLc wi (tG c js t) (tT c noW ft) (tE c noW fe) vs σ H Q := by
  refine si x σ H Δ _ sr (q.bind fun ds Δ1 q1 J x1 H1 k1 sr1 it => ?_)
  intro D hD
  have q2 : Post c W x σ H (okF c x σ H Q) (match mTurns vs t ft fe ds (wipeD Δ1 vs) with
    | .ok es Δ2 => if es.length ≤ lim then Res.ok (.lst es) (backD Δ1 Δ2 vs) else .bad
    | _ => .bad) := q1
  cases em : mTurns vs t ft fe ds (wipeD Δ1 vs) with
  | bad => rw [em] at q2; exact q2.elim
  | ex _ _ _ => rw [em] at q2; exact q2.elim
  | ok es Δf =>
  rw [em] at q2
  dsimp only at q2
  by_cases hz : es.length ≤ lim
  case neg => rw [if_neg hz] at q2; exact q2.elim
  rw [if_pos hz] at q2
  -- the new list stands outside of all data
  obtain ⟨kD, sD, hD0, nrD⟩ := sr1.alloc hD (Ex.new (o := .lst []) hD)
  have sW := (sD (by rw [upd_same]; intro z; cases z)).wipe (vs := vs) hio
  refine ⟨fun i m H' => m = ds.length - i ∧ i ≤ ds.length ∧ ∃ x' Δ' acc us, Kp ⟨fun a => (wipeX x1 vs).Av a ∧ a ≠ D, (wipeX x1 vs).ρ⟩ (upd H1 D (.lst [])) x' (upd H' D (.lst [])) ∧ SR c x' (L2.wipe σ vs) H' Δ' ∧ H' D = some (.lst us) ∧ ¬ x'.Av D ∧ (∀ j, x'.ρ j ≠ some D) ∧ RepL c.toGc x'.Av H' acc us ∧
    ∃ es', mTurns vs t ft fe (ds.drop i) Δ' = .ok es' Δf ∧ acc ++ es' = es, ?_, ?_⟩
  · refine ⟨ds.length, rfl, Nat.zero_le _, _, _, [], [], ?_, sW, upd_same, fun z => z.2 rfl, fun j h => nrD j (wipeX_rho h).2, by unfold RepL; rfl, es, em, rfl⟩
    rw [upd_upd]
    exact Kp.refl _ _
  · rintro i m H' ⟨rfl, hi', x', Δ', acc, us, k', sr', hDu, nv, nr, ra, es', em', ea⟩
    have kx : Kp (wipeX x1 vs) H1 x' H' := Kp.show_ hD (by rw [hDu]; intro z; cases z) k'
    have kx1 : Kp x1 H1 x' H' := (Kp.wipe x1 H1 vs).trans kx
    obtain ⟨stop, go⟩ := it x' _ H' Δ' i kx1 sr'
    by_cases hlt : i < ds.length
    · obtain ⟨gi, yi⟩ := go ds[i] (by simp [hlt])
      rw [List.drop_eq_getElem_cons hlt] at em'
      refine .inr ⟨gi, fun H3 => ∃ x3 Δ3 acc3 us3, Kp ⟨fun a => (wipeX x1 vs).Av a ∧ a ≠ D, (wipeX x1 vs).ρ⟩ (upd H1 D (.lst [])) x3 (upd H3 D (.lst [])) ∧ SR c x3 (L2.wipe σ vs) H3 Δ3 ∧ H3 D = some (.lst us3) ∧ ¬ x3.Av D ∧ (∀ j, x3.ρ j ≠ some D) ∧ RepL c.toGc x3.Av H3 acc3 us3 ∧
        ∃ es3, mTurns vs t ft fe (ds.drop (i + 1)) Δ3 = .ok es3 Δf ∧ acc3 ++ es3 = es, fun H3 n3 => ⟨ds.length - (i + 1), by omega, rfl, hlt, n3⟩, fun v H2 hy => ?_⟩
      obtain ⟨ex, r⟩ := yi v H2 hy
      have k2 := Kp.ex ex x'
      have srw := (sr'.ex ex).rewipe (vs := vs) (σ := σ) (σ2 := L2.wipe σ vs) (wipe_off (js := []) Off.refl fun _ z => nomatch z) hio
      -- what stays true of the new list over a step
      have stay : ∀ {x4 : Sx} {H4 : Hp}, Kp x' H' x4 H4 → H4 D = some (.lst us) ∧ ¬ x4.Av D ∧ (∀ j, x4.ρ j ≠ some D) ∧ Kp ⟨fun a => (wipeX x1 vs).Av a ∧ a ≠ D, (wipeX x1 vs).ρ⟩ (upd H1 D (.lst [])) x4 (upd H4 D (.lst [])) := fun {x4 H4} k4 => by
        have hDn : H' D ≠ none := by rw [hDu]; intro z; cases z
        refine ⟨k4.frame D _ hDu fx_lst nr, fun z => ?_, fun j z => ?_, k'.trans (k4.hide _ hDn)⟩
        · rcases k4.avb D z with w | w | ⟨l, w⟩
          · exact nv w
          · exact hDn w
          · exact nr l w
        · rcases k4.own j D z with ⟨l, w⟩ | w
          · exact nr l w
          · exact hDn w
      have kw : Kp x' H' (wipeX x' vs) H2 := k2.trans (Kp.wipe x' H2 vs)
      refine ⟨wipeX x' vs, wipeD Δ' vs, ds[i], srw, r, ?_⟩
      have em2 : (match t ds[i] (wipeD Δ' vs) with
        | .ok _ Δ1 => mBind ft (fun b => if b = true then mBind fe fun e => mBind (mTurns vs t ft fe (ds.drop (i + 1))) fun es => mPure (e :: es) else mTurns vs t ft fe (ds.drop (i + 1))) Δ1
        | _ => .bad) = Res.ok es' Δf := em'
      cases et : t ds[i] (wipeD Δ' vs) with
      | bad => rw [et] at em2; cases em2
      | ex _ _ _ => rw [et] at em2; cases em2
      | ok u Δ2 =>
        rw [et] at em2
        dsimp only at em2
        obtain ⟨b, Δ3, eft, em3⟩ := bind_ok em2
        intro σ2 x2 k3 sr2 off
        refine ⟨wipe_off off hj, x2, Δ2, sr2, ?_⟩
        rw [eft]
        intro x3 H3 k4 sr3
        have kk := (kw.trans k3).trans k4
        cases b with
        | false =>
          obtain ⟨d1, d2, d3, d4⟩ := stay (kk.trans (Kp.wipe x3 H3 vs))
          have sr3' := sr3.rewipe (vs := vs) (wipe_off off hj) hio
          refine ⟨wipeX x3 vs, wipeD Δ3 vs, acc, us, d4, sr3', d1, d2, d3, RepL.kp sr' (kk.trans (Kp.wipe x3 H3 vs)) ra, es', ?_, ea⟩
          rw [mTurns_wipe]
          rw [if_neg Bool.false_ne_true] at em3
          exact em3
        | true =>
          rw [if_pos rfl] at em3
          obtain ⟨e, Δ4, efe, em4⟩ := bind_ok em3
          obtain ⟨es3, Δ5, em5, em6⟩ := bind_ok em4
          cases em6
          refine ⟨x3, Δ3, sr3, ?_⟩
          rw [efe]
          intro y x5 H5 k5 sr5 ry
          have kk5 := kk.trans k5
          obtain ⟨d1, d2, d3, d4⟩ := stay (kk5.trans (Kp.wipe x5 H5 vs))
          have ra5 := RepL.kp sr' kk5 ra
          have hlen : us.length = acc.length := repL_length ra
          refine ⟨us, d1, ?_, ?_⟩
          · have : acc.length < es.length := by rw [← ea]; simp
            exact Nat.lt_of_lt_of_le (by omega) (lim_ok hz)
          · have sr5' := (sr5.rewipe (vs := vs) (wipe_off off hj) hio)
            have sr6 := sr5'.temp (D := D) (.lst (us ++ [y])) ⟨_, d1, pln_lst⟩ d2 d3 hD0
            have kpU : Keep c.toGc x5.Av x5.Av H5 (upd H5 D (.lst (us ++ [y]))) := Keep.temp _ d2
            refine ⟨wipeX x5 vs, wipeD Δ4 vs, acc ++ [e], us ++ [y], by rw [upd_upd]; exact d4, sr6, upd_same, d2, d3, ?_, es3, ?_, by rw [List.append_assoc]; exact ea⟩
            · exact (ra5.app (by unfold RepL; exact ⟨y, [], rfl, ry, by unfold RepL; rfl⟩)).keep kpU
            · rw [mTurns_wipe]; exact em5
    · have e : i = ds.length := by omega
      refine .inl ⟨stop (by omega), ?_⟩
      rw [e, List.drop_length] at em'
      have em2 : Res.ok [] (wipeD Δ' vs) = Res.ok es' Δf := em'
      cases em2
      rw [List.append_nil] at ea
      subst ea
      have srw := sr'.rewipe (vs := vs) (σ := σ) (σ2 := L2.wipe σ vs) (wipe_off (js := []) Off.refl fun _ z => nomatch z) hio
      obtain ⟨kb, sb⟩ := sr1.back (kx.trans (Kp.wipe x' H' vs)) srw hio
      refine q2 D _ H' (k1.trans kb) sb hD0 (k1.trk D hD) nv (fun l z => ?_) ⟨us, hDu, ra⟩
      have z' : (if l ∈ vs then x1.ρ l else (wipeX x' vs).ρ l) = some D := z
      by_cases hl : l ∈ vs
      · rw [if_pos hl] at z'; exact nrD l z'
      · rw [if_neg hl] at z'; exact nr l (wipeX_rho z').2
/-- a comprehension -/
theorem df_lc (hc : X.calm = true) (hN : X.N.Nodup) (hio : ∀ p ∈ c.io, p.1 ∉ own.map (·.2)) (hj : ∀ j ∈ js, j ∈ own.map (·.2)) (hi : DI X c W tg iter fi) (ok : BlkOk X.N X.env.scope scope own)
    (hg : ∀ (s : Shared) (H : Hp) (C : Addr) (cl : List (Str × Addr)) (fp : List Addr), DG (X.blk s H scope (compEnvC scope cl C X.env) fp) c tg js t)
    (ht : ∀ (s : Shared) (H : Hp) (C : Addr) (cl : List (Str × Addr)) (fp : List Addr), DTs (X.blk s H scope (compEnvC scope cl C X.env) fp) c noW ifs ft)
    (he : ∀ (s : Shared) (H : Hp) (C : Addr) (cl : List (Str × Addr)) (fp : List Addr), DE (X.blk s H scope (compEnvC scope cl C X.env) fp) c noW elt fe) (hs : ∀ x, foldedSetIterable iter X.env x = pure x := by intro _; rfl) :
    DF X c W (.ListComp elt [⟨tg, iter, ifs, 0⟩] scope pos) (mLc (own.map (·.2)) fi t ft fe) := by
  obtain ⟨wi, pi, si⟩ := hi.out
  exact ⟨_, pe_lc hc hN pi ok (fun s H C cl fp => (hg s H C cl fp).pg) (fun s H C cl fp => (ht s H C cl fp).pts) (fun s H C cl fp => (he s H C cl fp).pe) hs, fun x σ H Δ Q sr q => lc_read si hio hj sr q⟩
/-- name = [..] on one line -/
theorem ds_setLcO {i : Nat} {y : Str} {py spos : Pos} (hioi : ∀ p ∈ c.io, p.1 ≠ i) (hc : X.calm = true) (hN : X.N.Nodup) (hio : ∀ p ∈ c.io, p.1 ∉ own.map (·.2)) (hj : ∀ j ∈ js, j ∈ own.map (·.2)) (hy : X.N[i]? = some y) (hyl : X.env.scope.names.lookup y = some .local)
    (hsw : swapsWith (.ListComp elt [⟨tg, iter, ifs, 0⟩] scope pos) (some (.Name y py)) spos.line X.env = pure true) (hi : DI X c W tg iter fi) (ok : BlkOk X.N X.env.scope scope own)
    (hg : ∀ (s : Shared) (H : Hp) (C : Addr) (cl : List (Str × Addr)) (fp : List Addr), DG (X.blk s H scope (compEnvC scope cl C X.env) fp) c tg js t)
    (ht : ∀ (s : Shared) (H : Hp) (C : Addr) (cl : List (Str × Addr)) (fp : List Addr), DTs (X.blk s H scope (compEnvC scope cl C X.env) fp) c noW ifs ft)
    (he : ∀ (s : Shared) (H : Hp) (C : Addr) (cl : List (Str × Addr)) (fp : List Addr), DE (X.blk s H scope (compEnvC scope cl C X.env) fp) c noW elt fe) (hs : ∀ x, foldedSetIterable iter X.env x = pure x := by intro _; rfl) :
    DS X c W (.Assign [.Name y py] (.ListComp elt [⟨tg, iter, ifs, 0⟩] scope pos) spos) (mSetO i (mLc (own.map (·.2)) fi t ft fe)) := by
  obtain ⟨wi, pi, si⟩ := hi.out
  refine ⟨_, ps_setLc hc hN hy hyl hsw pi ok (fun s H C cl fp => (hg s H C cl fp).pg) (fun s H C cl fp => (ht s H C cl fp).pts) (fun s H C cl fp => (he s H C cl fp).pe) hs, fun x σ H Δ E sr q => ?_⟩
  refine lc_read si hio hj sr (q.bind fun d Δ1 q1 a x1 H1 k1 sr1 h0 h1 nv nr o => ?_)
  have q2 : PostS c W x H E (if i < Δ1.length then .ok .nx (Δ1.set i (.ow d)) else .bad) := q1
  split at q2
  · rename_i hl
    exact q2 _ _ _ (k1.setOw h1 i) (sr1.setOw hioi hl h0 nv nr o)
  · exact q2.elim
theorem ds_setLc {i : Nat} {y : Str} {py spos : Pos} (hioi : ∀ p ∈ c.io, p.1 ≠ i) (hc : X.calm = true) (hN : X.N.Nodup) (hio : ∀ p ∈ c.io, p.1 ∉ own.map (·.2)) (hj : ∀ j ∈ js, j ∈ own.map (·.2)) (hy : X.N[i]? = some y) (hyl : X.env.scope.names.lookup y = some .local)
    (hsw : swapsWith (.ListComp elt [⟨tg, iter, ifs, 0⟩] scope pos) (some (.Name y py)) spos.line X.env = pure true) (hi : DI X c W tg iter fi) (ok : BlkOk X.N X.env.scope scope own)
    (hg : ∀ (s : Shared) (H : Hp) (C : Addr) (cl : List (Str × Addr)) (fp : List Addr), DG (X.blk s H scope (compEnvC scope cl C X.env) fp) c tg js t)
    (ht : ∀ (s : Shared) (H : Hp) (C : Addr) (cl : List (Str × Addr)) (fp : List Addr), DTs (X.blk s H scope (compEnvC scope cl C X.env) fp) c noW ifs ft)
    (he : ∀ (s : Shared) (H : Hp) (C : Addr) (cl : List (Str × Addr)) (fp : List Addr), DE (X.blk s H scope (compEnvC scope cl C X.env) fp) c noW elt fe) (hs : ∀ x, foldedSetIterable iter X.env x = pure x := by intro _; rfl) :
    DS X c W (.Assign [.Name y py] (.ListComp elt [⟨tg, iter, ifs, 0⟩] scope pos) spos) (mSet i (mLc (own.map (·.2)) fi t ft fe)) := by
  obtain ⟨wi, pi, si⟩ := hi.out
  refine ⟨_, ps_setLc hc hN hy hyl hsw pi ok (fun s H C cl fp => (hg s H C cl fp).pg) (fun s H C cl fp => (ht s H C cl fp).pts) (fun s H C cl fp => (he s H C cl fp).pe) hs, fun x σ H Δ E sr q => ?_⟩
  have se : SoundE c W (tLc wi (tG c js t) (tT c noW ft) (tE c noW fe) (own.map (·.2))) (mLc (own.map (·.2)) fi t ft fe) := SoundF.e fun x σ H Δ Q sr q => lc_read si hio hj sr q
  refine se x σ H Δ _ sr (q.bind fun d Δ1 q1 v x1 H1 k1 sr1 r => ?_)
  have q2 : PostS c W x H E (if i < Δ1.length then .ok .nx (Δ1.set i (.sh d)) else .bad) := q1
  split at q2
  · rename_i hl
    obtain ⟨k2, sr2⟩ := sr1.setSh hioi hl r
    exact q2 _ _ _ (k1.trans k2) sr2
  · exact q2.elim
end
end DL

namespace DL
open PySem L2 PySem.Spec PyProof.Rows

/-- what a def's mirror answers: a value (new and held by nobody, where fr), the lent objects' contents -/
inductive RD where
  | ok (d : D) (fr : Bool) (ios : List D)
  | ex (n : Str) (d : Option D) (ios : List D)
  | bad
def startAt (io : List Nat) : Nat → List D → SD
  | _, [] => []
  | i, d :: ds => (if i ∈ io then SC.ow d else SC.sh d) :: startAt io (i + 1) ds
def startD (len : Nat) (io : List Nat) (ds : List D) : SD := startAt io 0 ds ++ List.replicate (len - ds.length) .un
def iosOf (Δ : SD) : List Nat → Option (List D)
  | [] => some []
  | i :: io => match Δ[i]? with
    | some (.ow d) => (iosOf Δ io).map (d :: ·)
    | _ => none
def mDef (len : Nat) (io : List Nat) (body : M Fl) (ds : List D) : RD := match body (startD len io ds) with
  | .ok fl Δ' => (match iosOf Δ' io with
    | some ios => (match fl with
      | .rt d => .ok d false ios
      | .rf d => .ok d true ios
      | .nx => .ok .non false ios
      | _ => .bad)
    | none => .bad)
  | .ex n d Δ' => (match iosOf Δ' io with
    | some ios => .ex n d ios
    | none => .bad)
  | .bad => .bad

/-- behind a call: what is kept, what the lent objects hold -/
structure EndC (G : Gc) (Av : Addr → Prop) (H : Hp) (ios : List (Nat × Addr)) (Av' : Addr → Prop) (H' : Hp) (ds : List D) : Prop where
  keep : ∀ a o, H a = some o → Fx o → (∀ p ∈ ios, p.2 ≠ a) → H' a = some o
  tab : LamX.Tabs G.T H'
  trk : ∀ a, H' a = none → H a = none
  sub : ∀ a, Av' a → Av a
  av : ∀ a, Av a → H a ≠ none → Av' a
  fr : ∀ p, H' p = none → Av' p
  own : Paired (fun (p : Nat × Addr) (d : D) => ¬ Av' p.2 ∧ Own G Av' H' p.2 d) ios ds
def OutD (G : Gc) (Av : Addr → Prop) (H : Hp) (ios : List (Nat × Addr)) (Q : VK) (E : XK) : RD → Prop
  | .ok d fr ds => (fr = false → ∀ v Av' H', EndC G Av H ios Av' H' ds → Rep G Av' H' d v → Q v H') ∧
      (fr = true → ∀ a Av' H', EndC G Av H ios Av' H' ds → H a = none → ¬ Av' a → (∀ p ∈ ios, p.2 ≠ a) → Own G Av' H' a d → Q (.ref a) H')
  | .ex n d ds => ∀ C dx Av' H', EndC G Av H ios Av' H' ds → ExG G Av' H' n d C dx → E (.ref C) dx H'
  | .bad => False
/-- the arguments: a lent object, or shared data -/
def ArgOk (G : Gc) (Av : Addr → Prop) (H : Hp) (ios : List (Nat × Addr)) : Nat → List D → List V → Prop
  | _, [], vs => vs = []
  | i, d :: ds, vs => ∃ v r, vs = v :: r ∧ (if i ∈ ios.map (·.1) then ∃ a, (i, a) ∈ ios ∧ v = .ref a ∧ ¬ Av a ∧ Own G Av H a d else Rep G Av H d v) ∧ ArgOk G Av H ios (i + 1) ds r
def spD (G : Gc) (np : Nat) (io : List Nat) (g : List D → RD) : Sp := fun vs H Q E => ∃ (Av : Addr → Prop) (ds : List D) (ios : List (Nat × Addr)),
  vs.length = np ∧ Fresh H Av ∧ LamX.Tabs G.T H ∧ ios.map (·.1) = io ∧ (ios.map (·.2)).Nodup ∧ io.Nodup ∧ (∀ p ∈ ios, ¬ Av p.2 ∧ H p.2 ≠ none) ∧ (∀ i ∈ io, i < np) ∧ ArgOk G Av H ios 0 ds vs ∧ OutD G Av H ios Q E (g ds)
/-- a def keeps to its mirror -/
structure DFn (P : Program) (w : World) (K : PySem.W.Frag) (mg : Str → Option Value) (base : Heap) (T : List (Addr × Str)) (k : Nat) (f : Addr) (fd : FuncData) (ps : List Str) (io : List Nat) (g : List D → RD) : Prop where
  run : ∀ (A : Around) (outer : List Env) (s : Shared) (H : Hp) (args : Args) (us : List Value) (vs : List V) (Q : VK) (E : XK), Room k A → (20 ≤ k → A.guards = some []) → Env0 P w K mg base A outer s H → BindsTo s fd args (ps.zip us) → Vals vs us →
    spD ⟨K, mg, T⟩ ps.length io g vs H Q E → codeAny (model P w) A (.call (.ref f) args) (CR (L2.CX P w) outer P w H s Q E) s

/-! ### a def's body -/
section
variable {G : Gc} {Av : Addr → Prop} {H : Hp} {ios : List (Nat × Addr)}
theorem argOk_length : ∀ {ds : List D} {vs : List V} {i : Nat}, ArgOk G Av H ios i ds vs → vs.length = ds.length
  | [], vs, i, h => by rw [show vs = [] from h]; rfl
  | d :: ds, vs, i, ⟨v, r, e, _, h⟩ => by rw [e, List.length_cons, List.length_cons, argOk_length h]
theorem startAt_length (io : List Nat) : ∀ (ds : List D) (i : Nat), (startAt io i ds).length = ds.length
  | [], _ => rfl
  | d :: ds, i => by simp [startAt, startAt_length io ds (i + 1)]
theorem start_slot (hio : io' = ios.map (·.1)) : ∀ {ds : List D} {vs : List V} {i j : Nat} {z : SC}, ArgOk G Av H ios i ds vs → (startAt io' i ds)[j]? = some z →
    ∃ v, vs[j]? = some v ∧ ((∃ d, z = .sh d ∧ Rep G Av H d v) ∨ ∃ d a, z = .ow d ∧ (i + j, a) ∈ ios ∧ v = .ref a ∧ ¬ Av a ∧ Own G Av H a d)
  | [], vs, i, j, z, h, e => by simp [startAt] at e
  | d :: ds, vs, i, 0, z, ⟨v, r, ev, h1, h2⟩, e => by
    subst ev
    refine ⟨v, rfl, ?_⟩
    simp only [startAt, List.getElem?_cons_zero, Option.some.injEq] at e
    subst e
    rw [← hio] at h1
    by_cases q : i ∈ io'
    · rw [if_pos q] at h1 ⊢
      obtain ⟨a, h3, h4, h5, h6⟩ := h1
      exact .inr ⟨d, a, rfl, h3, h4, h5, h6⟩
    · rw [if_neg q] at h1 ⊢
      exact .inl ⟨d, rfl, h1⟩
  | d :: ds, vs, i, j + 1, z, ⟨v, r, ev, h1, h2⟩, e => by
    subst ev
    simp only [startAt, List.getElem?_cons_succ] at e
    obtain ⟨u, hu, w⟩ := start_slot hio h2 e
    refine ⟨u, by simpa using hu, ?_⟩
    have ea : i + 1 + j = i + (j + 1) := by omega
    rw [ea] at w
    exact w
end
theorem nodup_fst {α β : Type} {l : List (α × β)} (h : (l.map (·.1)).Nodup) {a : α} {b b' : β} (h1 : (a, b) ∈ l) (h2 : (a, b') ∈ l) : b = b' := by
  induction l with
  | nil => cases h1
  | cons p l ih =>
    rw [List.map_cons, List.nodup_cons] at h
    rcases List.mem_cons.mp h1 with e1 | h1 <;> rcases List.mem_cons.mp h2 with e2 | h2
    · rw [← e1] at e2; cases e2; rfl
    · exact absurd (by rw [← e1]; exact List.mem_map_of_mem (f := (·.1)) h2) h.1
    · exact absurd (by rw [← e2]; exact List.mem_map_of_mem (f := (·.1)) h1) h.1
    · exact ih h.2 h1 h2
theorem nodup_snd {α β : Type} {l : List (α × β)} (h : (l.map (·.2)).Nodup) {a a' : α} {b : β} (h1 : (a, b) ∈ l) (h2 : (a', b) ∈ l) : a = a' := by
  induction l with
  | nil => cases h1
  | cons p l ih =>
    rw [List.map_cons, List.nodup_cons] at h
    rcases List.mem_cons.mp h1 with e1 | h1 <;> rcases List.mem_cons.mp h2 with e2 | h2
    · rw [← e1] at e2; cases e2; rfl
    · exact absurd (by rw [← e1]; exact List.mem_map_of_mem (f := (·.2)) h2) h.1
    · exact absurd (by rw [← e2]; exact List.mem_map_of_mem (f := (·.2)) h1) h.1
    · exact ih h.2 h1 h2
/-- the owners at a def's entry -/
def rhoOf (ios : List (Nat × Addr)) (i : Nat) : Option Addr := ios.lookup i
theorem rhoOf_some {ios : List (Nat × Addr)} {i : Nat} {a : Addr} (h : rhoOf ios i = some a) : (i, a) ∈ ios := by
  unfold rhoOf at h
  induction ios with
  | nil => cases h
  | cons p l ih =>
    obtain ⟨j, b⟩ := p
    rw [List.lookup_cons] at h
    by_cases e : i = j
    · subst e; simp at h; subst h; exact List.mem_cons_self ..
    · rw [show (i == j) = false from by simpa using e] at h
      exact List.mem_cons_of_mem _ (ih h)
theorem rhoOf_mem {ios : List (Nat × Addr)} (hn : (ios.map (·.1)).Nodup) {i : Nat} {a : Addr} (h : (i, a) ∈ ios) : rhoOf ios i = some a := by
  cases q : rhoOf ios i with
  | some b => rw [nodup_fst hn (rhoOf_some q) h]
  | none =>
    exfalso
    unfold rhoOf at q
    induction ios with
    | nil => cases h
    | cons p l ih =>
      obtain ⟨j, b⟩ := p
      rw [List.lookup_cons] at q
      by_cases e : i = j
      · subst e; simp at q
      · rw [show (i == j) = false from by simpa using e] at q
        rcases List.mem_cons.mp h with w | w
        · cases w; exact e rfl
        · exact ih (by rw [List.map_cons, List.nodup_cons] at hn; exact hn.2) w q
section
variable {K : PySem.W.Frag} {mg : Str → Option Value} {T : List (Addr × Str)} {Av : Addr → Prop} {H : Hp} {ios : List (Nat × Addr)} {N ps : List Str} {ds : List D} {vs : List V} {io : List Nat}
theorem SR.start (hN : ps.length ≤ N.length) (hv : vs.length = ps.length) (fr : Fresh H Av) (htab : LamX.Tabs T H) (hio : ios.map (·.1) = io) (n2 : (ios.map (·.2)).Nodup) (n1 : io.Nodup) (hav : ∀ p ∈ ios, ¬ Av p.2 ∧ H p.2 ≠ none) (ha : ArgOk ⟨K, mg, T⟩ Av H ios 0 ds vs) :
    SR ⟨⟨K, mg, T⟩, H, Av, ios⟩ ⟨Av, rhoOf ios⟩ (L2.start N vs) H (startD N.length io ds) := by
  have hl := argOk_length ha
  have n1' : (ios.map (·.1)).Nodup := by rw [hio]; exact n1
  exact {
    len := by
      unfold L2.start startD
      simp only [List.length_append, List.length_map, List.length_replicate, startAt_length]
      omega
    base := fun a o h _ _ => h
    tab := htab
    trk := fun a h => h
    fr := fr
    av := fun a h => h
    a0 := fr
    ow := fun i a h => by
      have m := rhoOf_some h
      exact ⟨(hav _ m).1, (hav _ m).2, .inr ⟨_, m, rfl⟩⟩
    inj := fun i j a h1 h2 => nodup_snd n2 (rhoOf_some h1) (rhoOf_some h2)
    slot := fun i => by
      unfold startD
      by_cases hi : i < ds.length
      · rw [List.getElem?_append_left (by rw [startAt_length]; exact hi)]
        cases e : (startAt io 0 ds)[i]? with
        | none => trivial
        | some z =>
          obtain ⟨v, hv', w⟩ := start_slot (io' := io) hio.symm ha e
          have hs : (L2.start N vs)[i]? = some (some v) := by
            unfold L2.start
            rw [List.getElem?_append_left (by rw [List.length_map]; omega), List.getElem?_map, hv']; rfl
          rcases w with ⟨d, rfl, r⟩ | ⟨d, a, rfl, hm, rfl, nv, o⟩
          · exact ⟨v, hs, r⟩
          · rw [Nat.zero_add] at hm
            exact ⟨a, rhoOf_mem n1' hm, hs, o⟩
      · rw [List.getElem?_append_right (by rw [startAt_length]; omega)]
        cases e : (List.replicate (N.length - ds.length) SC.un)[i - (startAt io 0 ds).length]? with
        | none => trivial
        | some z =>
          rw [List.getElem?_replicate] at e
          split at e
          · cases e; trivial
          · cases e
    ios := fun p hp => rhoOf_mem n1' hp }
/-- the lent objects at the end -/
theorem ios_end {c : Ct} {x : Sx} {σ : L2.St} {H' : Hp} {Δ : SD} (sr : SR c x σ H' Δ) : ∀ {l : List (Nat × Addr)} {ds' : List D}, (∀ p ∈ l, p ∈ c.io) → iosOf Δ (l.map (·.1)) = some ds' → Paired (fun (p : Nat × Addr) (d : D) => ¬ x.Av p.2 ∧ Own c.toGc x.Av H' p.2 d) l ds'
  | [], ds', _, e => by cases e; exact .nil
  | p :: l, ds', hm, e => by
    rw [List.map_cons] at e
    unfold iosOf at e
    have sl := sr.slot p.1
    revert e sl
    cases Δ[p.1]? with
    | none => intro e; cases e
    | some z =>
      cases z with
      | un => intro e; cases e
      | sh d => intro e; cases e
      | ow d =>
        rintro e ⟨a, h0, _, o⟩
        dsimp only at e
        rw [Option.map_eq_some_iff] at e
        obtain ⟨es, e1, rfl⟩ := e
        have hp := sr.ios p (hm p (List.mem_cons_self ..))
        rw [hp] at h0
        cases h0
        exact .cons ⟨(sr.ow _ _ hp).1, o⟩ (ios_end sr (fun q hq => hm q (List.mem_cons_of_mem _ hq)) e1)
end
/-- where a def's body stands -/
abbrev cxD (P : Program) (w : World) (K : PySem.W.Frag) (mg : Str → Option Value) (base : Heap) (N : List Str) (qual : Str) (scope : Scope) (f : Addr) (cd : Value) (A : Around) (outer : List Env) (s : Shared) (H : Hp) (E : XK) : Cx := cxOf (L2.CX P w) P w K mg base N qual scope f cd A outer s H E
/-- a def by its body's mirror -/
theorem dfn_of {P : Program} {w : World} {K : PySem.W.Frag} {mg : Str → Option Value} {base : Heap} {T : List (Addr × Str)} {nm qual : Str} {st : Stmt} {f : Addr} {fd : FuncData} {N ps : List Str} {io : List Nat} {k : Nat} {fb : M Fl} (F : Fun K nm qual st f fd) (S : FnScope N ps (defScope st))
    (hb : ∀ (cd : Value) (A : Around) (outer : List Env) (s : Shared) (H : Hp) (E : XK) (c : Ct) (W : WX), Ok (cxD P w K mg base N qual (defScope st) f cd A outer s H E) c W k → c.T = T → c.io.map (·.1) = io → fd.code = cd → DB (cxD P w K mg base N qual (defScope st) f cd A outer s H E) c W (defBody st) fb) :
    DFn P w K mg base T (k + 1) f fd ps io (mDef N.length io fb) := by
  obtain ⟨oc, od, kV, doc, pm, an, cdv, ct, osl, rfl, lk, hcd⟩ := F.ex
  constructor
  intro A outer s H args us vs Q E room guards env0 hbind hvals ⟨Av, ds, ios, hvl, fresh, htab, hio, n2, n1, hav, hlt, harg, hout⟩
  have KX : K.In s.heap := env0.mod.kin.keeps fun b o e => (env0.bs b o e).1
  have nolim : s.heap.NoLimit := env0.mod.nolimit.keeps fun b o e => (env0.bs b o e).1
  have hkinds : ∀ y ∈ ps.zip us, (defScope st).names.lookup y.1 = some .local ∨ ((defScope st).names.lookup y.1 = some .cell ∧ ((cellsFrom (s.heap.objs.size + 1) (defScope st).names []).lookup y.1).isSome = true) := by
    rintro ⟨a, b⟩ hy
    exact (S.par a (List.of_mem_zip hy).1).imp id fun q => ⟨q, PySem.W.cellsFrom_some _ _ _ (.inl q)⟩
  have hNp : ps.length ≤ N.length := by
    have z := congrArg List.length S.pre
    rw [List.length_take] at z
    omega
  refine codeAny_call_function room.depth (KX _ _ lk) rfl S.co S.gen rfl (PySem.W.codeRec_of KX hcd) (hbind _ _ _ _ ?_)
  refine wpAny_newFunctionEnv_cells S.kind hkinds fun env henv s1 inc => ?_
  subst henv
  refine ⟨nolim.keeps inc.toInCall.keep, codeAny_func ?_⟩
  have I : Inv (cxD P w K mg base N qual (defScope st) f cdv A outer s H E) [] (L2.start N vs) H s1 := inv_start S room.hd env0 hvl hvals inc
  have ok : Ok (cxD P w K mg base N qual (defScope st) f cdv A outer s H E) ⟨⟨K, mg, T⟩, H, Av, ios⟩ (fun cls d _ H => E cls d H) k := ⟨rfl, rfl, rfl, room.deeper _, fun h => guards (Nat.le_succ_of_le h), takes_of rfl rfl rfl rfl, passes_of rfl, S.nd⟩
  obtain ⟨t, pt, snd⟩ := (hb cdv A outer s H E ⟨⟨K, mg, T⟩, H, Av, ios⟩ _ ok rfl hio rfl).out
  have sr : SR ⟨⟨K, mg, T⟩, H, Av, ios⟩ ⟨Av, rhoOf ios⟩ (L2.start N vs) H (startD N.length io ds) := SR.start hNp hvl fresh htab hio n2 n1 hav harg
  -- what a mirror's end means to the caller
  have endc : ∀ {σ' x' H' Δ' ds'}, Kp ⟨Av, rhoOf ios⟩ H x' H' → SR ⟨⟨K, mg, T⟩, H, Av, ios⟩ x' σ' H' Δ' → iosOf Δ' io = some ds' → EndC ⟨K, mg, T⟩ Av H ios x'.Av H' ds' := fun {σ' x' H' Δ' ds'} kp sr' e =>
    ⟨sr'.base, sr'.tab, sr'.trk, sr'.av, kp.av, sr'.fr, ios_end (c := ⟨⟨K, mg, T⟩, H, Av, ios⟩) sr' (fun _ h => h) (by rw [hio]; exact e)⟩
  have goal : t { nx := fun _ H' => Q .non H', rt := Q } (L2.start N vs) H := by
    refine snd _ _ _ _ _ sr ?_
    unfold mDef at hout
    cases eb : fb (startD N.length io ds) with
    | bad => rw [eb] at hout; exact hout
    | ex n d Δ' =>
      rw [eb] at hout
      dsimp only at hout
      cases ei : iosOf Δ' io with
      | none => rw [ei] at hout; exact hout.elim
      | some ds' =>
        rw [ei] at hout
        exact fun C dx σ' x' H' kp sr' xr => hout C dx x'.Av H' (endc kp sr' ei) xr
    | ok fl Δ' =>
      rw [eb] at hout
      dsimp only at hout
      cases ei : iosOf Δ' io with
      | none => rw [ei] at hout; exact hout.elim
      | some ds' =>
        rw [ei] at hout
        cases fl with
        | nx => exact fun σ' x' H' kp sr' => hout.1 rfl .non x'.Av H' (endc kp sr' ei) mk_non
        | bk => exact hout.elim
        | ct => exact hout.elim
        | rt d => exact fun v σ' x' H' kp sr' r => hout.1 rfl v x'.Av H' (endc kp sr' ei) r
        | rf d => exact fun a σ' x' H' kp sr' h0 nv nr o => hout.2 rfl a x'.Av H' (endc kp sr' ei) h0 nv (fun p hp z => nr p.1 (by rw [← z]; exact sr'.ios p hp)) o
  refine wpAny_mono (pt.run [] s1 (L2.start N vs) H _ I goal) (fun fl s' hs => ?_) fun e s' hs => hs
  have fin : ∀ {σ' : L2.St} {H' : Hp} {v : V} {u : Value}, Inv (cxD P w K mg base N qual (defScope st) f cdv A outer s H E) [] σ' H' s' → RelV v u → Q v H' → CE outer P w H s Q u s' := fun {σ' H' v u} J r q => ⟨v, H', J.os, J.bare, J.base, J.hok, r, q⟩
  cases fl with
  | ret u =>
    obtain ⟨v, σ', H', J, r, q⟩ := hs
    exact fin J r q
  | next =>
    obtain ⟨σ', H', J, q⟩ := hs
    exact fin (v := .non) (u := .none) J rfl q
  | brk => exact hs.elim fun _ z => z.elim fun _ z => z.2.elim
  | cont => exact hs.elim fun _ z => z.elim fun _ z => z.2.elim
end DL

namespace DL
open PySem L2 PySem.Spec PyProof.Rows

/-- the data of a call's arguments, the lent slots with their places -/
def callArgs (io : List Nat) (Δ : SD) : Nat → List AK → Option (List D × List (Nat × Nat))
  | _, [] => some ([], [])
  | j, a :: as => (callArgs io Δ (j + 1) as).bind fun r =>
    if j ∈ io then (match a with
      | .s i => (match Δ[i]? with
        | some (.ow d) => if i ∈ r.2.map (·.2) then none else some (d :: r.1, (j, i) :: r.2)
        | _ => none)
      | .v _ => none)
    else (match a with
      | .v d => some (d :: r.1, r.2)
      | .s i => (match Δ[i]? with
        | some (.sh d) => some (d :: r.1, r.2)
        | _ => none))
def setOws : SD → List Nat → List D → Option SD
  | Δ, [], [] => some Δ
  | Δ, i :: is, d :: ds => setOws (Δ.set i (.ow d)) is ds
  | _, _, _ => none
/-- what a call answers: the value, whether it is new, the state -/
def callRes (np : Nat) (io : List Nat) (g : List D → RD) (as : List AK) : M (D × Bool) := fun Δ => if as.length = np then (match callArgs io Δ 0 as with
  | some r => if r.2.map (·.1) = io then (match g r.1 with
    | .ok d fr es => (match setOws Δ (r.2.map (·.2)) es with
      | some Δ' => .ok (d, fr) Δ'
      | none => .bad)
    | .ex n d es => (match setOws Δ (r.2.map (·.2)) es with
      | some Δ' => .ex n d Δ'
      | none => .bad)
    | .bad => .bad) else .bad
  | none => .bad) else .bad
def mCall (np : Nat) (io : List Nat) (g : List D → RD) (f : M (List AK)) : M D := mBind f fun as => mBind (callRes np io g as) fun r => mPure r.1
def mCallN (np : Nat) (io : List Nat) (g : List D → RD) (f : M (List AK)) : M D := mBind f fun as => mBind (callRes np io g as) fun r => if r.2 = true then mPure r.1 else mBad

theorem setOws_at : ∀ {is : List Nat} {es : List D} {Δ Δ2 : SD}, setOws Δ is es = some Δ2 → is.Nodup → Δ2.length = Δ.length ∧ (∀ i, i ∉ is → Δ2[i]? = Δ[i]?) ∧ ∀ i e, (i, e) ∈ is.zip es → i < Δ.length → Δ2[i]? = some (.ow e)
  | [], [], Δ, Δ2, h, _ => by cases h; exact ⟨rfl, fun _ _ => rfl, fun _ _ h => (nomatch h)⟩
  | [], _ :: _, Δ, Δ2, h, _ => by cases h
  | _ :: _, [], Δ, Δ2, h, _ => by cases h
  | i :: is, d :: ds, Δ, Δ2, h, nd => by
    rw [List.nodup_cons] at nd
    obtain ⟨h1, h2, h3⟩ := setOws_at (show setOws (Δ.set i (.ow d)) is ds = some Δ2 from h) nd.2
    rw [List.length_set] at h1
    refine ⟨h1, fun j hj => ?_, fun j e hm hl => ?_⟩
    · rw [h2 j fun q => hj (List.mem_cons_of_mem _ q), List.getElem?_set_ne (fun z => hj (by rw [z]; exact List.mem_cons_self ..))]
    · rw [List.zip_cons_cons] at hm
      rcases List.mem_cons.mp hm with z | z
      · cases z
        rw [h2 i nd.1, List.getElem?_set_self hl]
      · exact h3 j e z (by rw [List.length_set]; exact hl)
theorem setOws_len : ∀ {is : List Nat} {es : List D} {Δ Δ2 : SD}, setOws Δ is es = some Δ2 → es.length = is.length
  | [], [], _, _, _ => rfl
  | [], _ :: _, _, _, h => by cases h
  | _ :: _, [], _, _, h => by cases h
  | i :: is, d :: ds, Δ, Δ2, h => by rw [List.length_cons, List.length_cons, setOws_len (show setOws (Δ.set i (.ow d)) is ds = some Δ2 from h)]

section
variable {c : Ct} {x : Sx} {σ : L2.St} {H H' : Hp} {Δ Δ2 : SD} {io : List Nat}
/-- the address that a slot owns -/
def adr (x : Sx) (i : Nat) : Addr := (x.ρ i).getD 0
def iosL (x : Sx) (ls : List (Nat × Nat)) : List (Nat × Addr) := ls.map fun p => (p.1, adr x p.2)
theorem iosL_fst (x : Sx) (ls : List (Nat × Nat)) : (iosL x ls).map (·.1) = ls.map (·.1) := by simp [iosL, List.map_map, Function.comp_def]
theorem args_own (s : SR c x σ H Δ) : ∀ {as : List AK} {j : Nat} {ds : List D} {ls : List (Nat × Nat)}, callArgs io Δ j as = some (ds, ls) → (∀ p ∈ ls, ∃ d, Δ[p.2]? = some (.ow d) ∧ x.ρ p.2 = some (adr x p.2)) ∧ (ls.map (·.2)).Nodup
  | [], j, ds, ls, h => by cases h; exact ⟨fun _ h => (nomatch h), List.nodup_nil⟩
  | a :: as, j, ds, ls, h => by
    unfold callArgs at h
    rw [Option.bind_eq_some_iff] at h
    obtain ⟨⟨ds', ls'⟩, h1, h2⟩ := h
    obtain ⟨q1, q2⟩ := args_own s h1
    split at h2
    · cases a with
      | v d => cases h2
      | s i =>
        dsimp only at h2
        have sl := s.slot i
        revert h2 sl
        cases e : Δ[i]? with
        | none => intro h2; cases h2
        | some z =>
          cases z with
          | un => intro h2; cases h2
          | sh d => intro h2; cases h2
          | ow d =>
            rintro h2 ⟨b, h0, _, _⟩
            dsimp only at h2
            split at h2
            · cases h2
            · rename_i hni
              cases h2
              refine ⟨fun p hp => ?_, ?_⟩
              · rcases List.mem_cons.mp hp with z | z
                · cases z
                  exact ⟨d, e, by unfold adr; rw [h0]; rfl⟩
                · exact q1 p z
              · rw [List.map_cons, List.nodup_cons]
                exact ⟨hni, q2⟩
    · cases a with
      | v d => cases h2; exact ⟨q1, q2⟩
      | s i =>
        dsimp only at h2
        split at h2
        · cases h2; exact ⟨q1, q2⟩
        · cases h2
theorem args_ok (s : SR c x σ H Δ) {L : List (Nat × Nat)} (hL : L.map (·.1) = io) : ∀ {as : List AK} {vs : List V} {j : Nat} {ds : List D} {ls : List (Nat × Nat)}, callArgs io Δ j as = some (ds, ls) → (∀ p ∈ ls, p ∈ L) → AKsOk c x σ H as vs → ArgOk c.toGc x.Av H (iosL x L) j ds vs
  | [], vs, j, ds, ls, h, _, ha => by cases h; exact ha
  | a :: as, vs, j, ds, ls, h, hs, ⟨v, r, ev, h1, h2⟩ => by
    unfold callArgs at h
    rw [Option.bind_eq_some_iff] at h
    obtain ⟨⟨ds', ls'⟩, h3, h4⟩ := h
    have fst : (iosL x L).map (·.1) = io := by rw [iosL_fst, hL]
    split at h4
    · rename_i hj
      cases a with
      | v d => cases h4
      | s i =>
        dsimp only at h4
        have sl := s.slot i
        revert h4 sl
        cases e : Δ[i]? with
        | none => intro h4; cases h4
        | some z =>
          cases z with
          | un => intro h4; cases h4
          | sh d => intro h4; cases h4
          | ow d =>
            rintro h4 ⟨b, h0, hb, o⟩
            dsimp only at h4
            split at h4
            · cases h4
            · cases h4
              have hv : σ[i]? = some (some v) := h1
              rw [hb] at hv; cases hv
              refine ⟨.ref b, r, ev, ?_, args_ok s hL h3 (fun p hp => hs p (List.mem_cons_of_mem _ hp)) h2⟩
              rw [if_pos (by rw [fst]; exact hj)]
              refine ⟨b, ?_, rfl, (s.ow i b h0).1, o⟩
              have hm := hs (j, i) (List.mem_cons_self ..)
              have hm2 : (j, adr x i) ∈ iosL x L := List.mem_map_of_mem (f := fun p : Nat × Nat => (p.1, adr x p.2)) hm
              have ea : adr x i = b := by unfold adr; rw [h0]; rfl
              rw [ea] at hm2
              exact hm2
    · rename_i hj
      cases a with
      | v d =>
        cases h4
        refine ⟨v, r, ev, ?_, args_ok s hL h3 hs h2⟩
        rw [if_neg (by rw [fst]; exact hj)]
        exact h1
      | s i =>
        dsimp only at h4
        have sl := s.slot i
        revert h4 sl
        cases e : Δ[i]? with
        | none => intro h4; cases h4
        | some z =>
          cases z with
          | un => intro h4; cases h4
          | ow d => intro h4; cases h4
          | sh d =>
            rintro h4 ⟨v', hb, rr⟩
            cases h4
            have hv : σ[i]? = some (some v) := h1
            rw [hb] at hv; cases hv
            refine ⟨v, r, ev, ?_, args_ok s hL h3 hs h2⟩
            rw [if_neg (by rw [fst]; exact hj)]
            exact rr
theorem args_lt : ∀ {as : List AK} {j : Nat} {ds : List D} {ls : List (Nat × Nat)}, callArgs io Δ j as = some (ds, ls) → (∀ p ∈ ls, p.1 < j + as.length) ∧ (ls.map (·.1)).Nodup ∧ ∀ p ∈ ls, j ≤ p.1
  | [], j, ds, ls, h => by cases h; exact ⟨fun _ h => (nomatch h), List.nodup_nil, fun _ h => (nomatch h)⟩
  | a :: as, j, ds, ls, h => by
    unfold callArgs at h
    rw [Option.bind_eq_some_iff] at h
    obtain ⟨⟨ds', ls'⟩, h1, h2⟩ := h
    obtain ⟨q1, q2, q3⟩ := args_lt h1
    have same : ls = ls' → (∀ p ∈ ls, p.1 < j + (a :: as).length) ∧ (ls.map (·.1)).Nodup ∧ ∀ p ∈ ls, j ≤ p.1 := fun e => by
      subst e
      exact ⟨fun p hp => by have := q1 p hp; rw [List.length_cons]; omega, q2, fun p hp => by have := q3 p hp; omega⟩
    split at h2
    · cases a with
      | v d => cases h2
      | s i =>
        dsimp only at h2
        split at h2
        · split at h2
          · cases h2
          · cases h2
            refine ⟨fun p hp => ?_, ?_, fun p hp => ?_⟩
            · rcases List.mem_cons.mp hp with z | z
              · cases z; rw [List.length_cons]; dsimp only; omega
              · have := q1 p z; rw [List.length_cons]; omega
            · rw [List.map_cons, List.nodup_cons]
              refine ⟨fun z => ?_, q2⟩
              obtain ⟨p, hp, e⟩ := List.mem_map.mp z
              have := q3 p hp
              rw [e] at this
              dsimp only at this
              omega
            · rcases List.mem_cons.mp hp with z | z
              · cases z; exact Nat.le_refl _
              · have := q3 p z; omega
        · cases h2
    · cases a with
      | v d => cases h2; exact same rfl
      | s i =>
        dsimp only at h2
        split at h2
        · cases h2; exact same rfl
        · cases h2
theorem nodup_map_inj {α β : Type} {f : α → β} : ∀ {l : List α}, (∀ a ∈ l, ∀ b ∈ l, f a = f b → a = b) → l.Nodup → (l.map f).Nodup
  | [], _, _ => List.nodup_nil
  | a :: l, h, n => by
    rw [List.nodup_cons] at n
    rw [List.map_cons, List.nodup_cons]
    refine ⟨fun z => ?_, nodup_map_inj (fun b hb d hd => h b (List.mem_cons_of_mem _ hb) d (List.mem_cons_of_mem _ hd)) n.2⟩
    obtain ⟨b, hb, e⟩ := List.mem_map.mp z
    exact n.1 (h b (List.mem_cons_of_mem _ hb) a (List.mem_cons_self ..) e ▸ hb)
theorem nodup_of_map {α β : Type} {f : α → β} : ∀ {l : List α}, (l.map f).Nodup → l.Nodup
  | [], _ => List.nodup_nil
  | a :: l, n => by
    rw [List.map_cons, List.nodup_cons] at n
    rw [List.nodup_cons]
    exact ⟨fun z => n.1 (List.mem_map_of_mem (f := f) z), nodup_of_map n.2⟩
/-- the state behind a call -/
theorem SR.called (s : SR c x σ H Δ) {ls : List (Nat × Nat)} (hown : ∀ p ∈ ls, ∃ d, Δ[p.2]? = some (.ow d) ∧ x.ρ p.2 = some (adr x p.2)) (nd : (ls.map (·.2)).Nodup) {Av' : Addr → Prop} {es : List D} (e : EndC c.toGc x.Av H (iosL x ls) Av' H' es) (hs : setOws Δ (ls.map (·.2)) es = some Δ2) :
    Kp x H ⟨Av', x.ρ⟩ H' ∧ SR c ⟨Av', x.ρ⟩ σ H' Δ2 := by
  obtain ⟨l1, l2, l3⟩ := setOws_at hs nd
  have mem : ∀ {p}, p ∈ iosL x ls → ∃ i, i ∈ ls.map (·.2) ∧ x.ρ i = some p.2 := fun {p} hp => by
    obtain ⟨q, hq, rfl⟩ := List.mem_map.mp hp
    obtain ⟨d, _, h⟩ := hown q hq
    exact ⟨q.2, List.mem_map_of_mem (f := (·.2)) hq, h⟩
  have notIo : ∀ {a}, (∀ i, x.ρ i ≠ some a) → ∀ p ∈ iosL x ls, p.2 ≠ a := fun {a} n p hp z => by
    obtain ⟨i, _, h⟩ := mem hp
    exact n i (by rw [h, z])
  have kp : Keep c.toGc x.Av Av' H H' := by
    have nv : ∀ {a}, x.Av a → ∀ p ∈ iosL x ls, p.2 ≠ a := fun ha => notIo (s.notOwned ha)
    exact ⟨fun a u ha f h => by
      rcases h with h | ⟨o, h⟩
      · exact .inl (e.keep a _ h f (nv ha))
      · exact .inr ⟨o, e.keep a _ h fx_frz (nv ha)⟩, fun a v ha h => e.keep a _ h fx_lst (nv ha), fun a v ha h => e.keep a _ h fx_tup (nv ha), fun a C dx us ha h => e.keep a _ h fx_ins (nv ha),
      fun a u ha h => e.av a ha (by rcases h with h | ⟨o, h⟩ <;> (rw [h]; intro q; cases q))⟩
  refine ⟨⟨fun a o h f n => e.keep a o h f (notIo n), e.trk, fun i a h => .inl ⟨i, h⟩, e.av, fun a h => .inl (e.sub a h)⟩, ?_⟩
  exact {
    len := by rw [l1]; exact s.len
    tab := e.tab
    base := fun a o h f n => e.keep a o (s.base a o h f n) f fun p hp z => by
      obtain ⟨i, _, hi⟩ := mem hp
      rw [z] at hi
      rcases (s.ow i a hi).2.2 with q | ⟨p', hp', q⟩
      · rw [q] at h; cases h
      · exact n p' hp' q
    trk := fun a h => s.trk a (e.trk a h)
    fr := e.fr
    av := fun a h => s.av a (e.sub a h)
    a0 := s.a0
    ow := fun i a h => ⟨fun q => (s.ow i a h).1 (e.sub a q), fun q => (s.ow i a h).2.1 (e.trk a q), (s.ow i a h).2.2⟩
    inj := s.inj
    slot := fun i => by
      by_cases hi : i ∈ ls.map (·.2)
      · obtain ⟨p, hp, rfl⟩ := List.mem_map.mp hi
        obtain ⟨d, hd, hr⟩ := hown p hp
        have sl := s.slot p.2
        rw [hd] at sl
        obtain ⟨a, h0, h1, h2⟩ := sl
        rw [hr] at h0; cases h0
        -- its new content
        have key : ∀ {ls : List (Nat × Nat)} {es : List D}, Paired (fun (p : Nat × Addr) (d : D) => ¬ Av' p.2 ∧ Own c.toGc Av' H' p.2 d) (iosL x ls) es → p ∈ ls → ∃ e', (p.2, e') ∈ (ls.map (·.2)).zip es ∧ Own c.toGc Av' H' (adr x p.2) e' := by
          intro ls
          induction ls with
          | nil => intro es _ hp; cases hp
          | cons q ls ih =>
            intro es pr hp
            cases pr with
            | cons h1 h2 =>
              rcases List.mem_cons.mp hp with z | z
              · subst z
                exact ⟨_, List.mem_cons_self .., h1.2⟩
              · obtain ⟨e', m, o⟩ := ih h2 z
                exact ⟨e', List.mem_cons_of_mem _ m, o⟩
        obtain ⟨e', m, o⟩ := key e.own hp
        rw [l3 p.2 e' m (List.getElem?_eq_some_iff.mp hd).1]
        exact ⟨adr x p.2, hr, h1, o⟩
      · rw [l2 i hi]
        have sl := s.slot i
        revert sl
        cases Δ[i]? with
        | none => intro _; trivial
        | some z =>
          cases z with
          | un => intro _; trivial
          | sh d => exact fun ⟨v, h1, h2⟩ => ⟨v, h1, h2.keep kp⟩
          | ow d =>
            rintro ⟨a, h0, h1, h2⟩
            refine ⟨a, h0, h1, ?_⟩
            have na : ∀ p ∈ iosL x ls, p.2 ≠ a := fun p hp z => by
              obtain ⟨j, hj, hr⟩ := mem hp
              rw [z] at hr
              exact hi (s.inj _ _ _ h0 hr ▸ hj)
            show Own c.toGc Av' H' a d
            cases d <;> first
              | exact h2.elim
              | (obtain ⟨us, q1, q2⟩ := h2; exact ⟨us, e.keep _ _ q1 (by first | exact fx_lst | exact fx_dK | exact fx_dT | exact fx_nd) na, q2.keep kp⟩)
              | (obtain ⟨C, dx, us, q0, q1, q2⟩ := h2; exact ⟨C, dx, us, q0, e.keep _ _ q1 fx_ins na, q2.keep kp⟩)
    ios := s.ios }
end

/-! ### the rules -/
def tF (c : Ct) (W : WX) (f : M D) : TE := fun σ H Q => ∃ x Δ, SR c x σ H Δ ∧ Post c W x σ H (okF c x σ H Q) (f Δ)
theorem DF.pe {X : Cx} {c : Ct} {W : WX} {e : Expr} {f : M D} (h : DF X c W e f) : PE X e (tF c W f) := by
  obtain ⟨t, p, s⟩ := h.out
  exact ⟨fun pins st σ H Q I ⟨x, Δ, sr, q⟩ => p.run pins st σ H Q I (s x σ H Δ Q sr q)⟩
theorem DE.of {X : Cx} {c : Ct} {W : WX} {e : Expr} {f : M D} (h : PE X e (tE c W f)) : DE X c W e f := ⟨_, h, fun x _ _ Δ _ sr q => ⟨x, Δ, sr, q⟩⟩
theorem DF.of {X : Cx} {c : Ct} {W : WX} {e : Expr} {f : M D} (h : PE X e (tF c W f)) : DF X c W e f := ⟨_, h, fun x _ _ Δ _ sr q => ⟨x, Δ, sr, q⟩⟩
section
variable {X : Cx} {c : Ct} {W : WX} {k kf : Nat} {f : Addr} {fd : FuncData} {ps : List Str} {io : List Nat} {g : List D → RD}
/-- the callee runs -/
theorem run_dfn {pins : List (Addr × Obj)} {σ : L2.St} {H : Hp} {s : Shared} {Q : VK} {us : List Value} {vs : List V} (F : DFn X.prog X.w X.K X.mg X.base c.T kf f fd ps io g) (o : Ok X c W k) (hk : kf ≤ k) (hb : Binds X.K fd ps []) (I : Inv X pins σ H s) (r : Vals vs us)
    (h : spD ⟨X.K, X.mg, c.T⟩ ps.length io g vs H Q (fun cls d H' => W cls d σ H')) : wpAny (model X.prog X.w) X.A (call (.ref f) us) (EP X pins σ Q) X.xe s := by
  have hl : us.length = ps.length := by
    obtain ⟨_, _, _, e, _⟩ := h
    rw [← r.length, e]
  have hbind := hb s us I.kIn (by rw [List.append_nil]; exact hl)
  rw [List.append_nil] at hbind
  refine wpAny_call (codeAny_mono (F.run X.A X.stack s H ⟨us, []⟩ us vs Q _ (o.room.mono hk) (fun h => o.gd (by omega)) I.env0 hbind r h) fun res s' hq => ?_)
  cases res with
  | error e => exact o.tk _ _ (XE.of_call I (fun _ _ _ z => z) hq)
  | ok fl =>
    cases fl with
    | ret u => exact I.after hq
    | next => exact hq.elim
    | brk => exact hq.elim
    | cont => exact hq.elim
theorem aks_len {x : Sx} {σ : L2.St} {H : Hp} : ∀ {as : List AK} {vs : List V}, AKsOk c x σ H as vs → vs.length = as.length
  | [], vs, h => by rw [show vs = [] from h]; rfl
  | a :: as, vs, ⟨v, r, e, _, h⟩ => by rw [e, List.length_cons, List.length_cons, aks_len h]
/-- what a call asks of the callee, at the state behind the arguments -/
theorem call_sp {x : Sx} {σ : L2.St} {H : Hp} {Δ : SD} {Q : VK} {ok : D × Bool → SD → Prop} {as : List AK} {vs : List V} (hG : c.toGc = ⟨X.K, X.mg, c.T⟩) (sr : SR c x σ H Δ) (ha : AKsOk c x σ H as vs)
    (q : Post c W x σ H ok (callRes ps.length io g as Δ))
    (hV : ∀ d Δ2, ok (d, false) Δ2 → okV c x σ H Q d Δ2) (hF : ∀ d Δ2, ok (d, true) Δ2 → okF c x σ H Q d Δ2) : spD ⟨X.K, X.mg, c.T⟩ ps.length io g vs H Q (fun cls d H' => W cls d σ H') := by
  rw [← hG]
  unfold callRes at q
  by_cases hn : as.length = ps.length
  case neg => rw [if_neg hn] at q; exact q.elim
  rw [if_pos hn] at q
  cases ec : callArgs io Δ 0 as with
  | none => rw [ec] at q; exact q.elim
  | some r =>
    obtain ⟨ds, ls⟩ := r
    rw [ec] at q
    dsimp only at q
    by_cases hio : ls.map (·.1) = io
    case neg => rw [if_neg hio] at q; exact q.elim
    rw [if_pos hio] at q
    obtain ⟨own, nd⟩ := args_own sr ec
    obtain ⟨lt, nd1, _⟩ := args_lt ec
    have alen := aks_len ha
    refine ⟨x.Av, ds, iosL x ls, by rw [alen, hn], sr.fr, sr.tab, by rw [iosL_fst, hio], ?_, by rw [← hio]; exact nd1, fun p hp => ?_, fun i hi => ?_, args_ok sr hio ec (fun _ h => h) ha, ?_⟩
    · have e : (iosL x ls).map (·.2) = (ls.map (·.2)).map (adr x) := by simp [iosL, List.map_map, Function.comp_def]
      rw [e]
      refine nodup_map_inj (fun i hi j hj e => ?_) nd
      obtain ⟨p, hp, rfl⟩ := List.mem_map.mp hi
      obtain ⟨p', hp', rfl⟩ := List.mem_map.mp hj
      obtain ⟨_, _, h1⟩ := own p hp
      obtain ⟨_, _, h2⟩ := own p' hp'
      rw [← e] at h2
      exact sr.inj _ _ _ h1 h2
    · obtain ⟨p', hp', rfl⟩ := List.mem_map.mp hp
      obtain ⟨_, _, h1⟩ := own p' hp'
      exact ⟨(sr.ow _ _ h1).1, (sr.ow _ _ h1).2.1⟩
    · rw [← hio] at hi
      obtain ⟨p, hp, rfl⟩ := List.mem_map.mp hi
      have := lt p hp
      omega
    · cases eg : g ds with
      | bad => rw [eg] at q; exact q.elim
      | ex n d es =>
        rw [eg] at q
        dsimp only at q
        cases es' : setOws Δ (ls.map (·.2)) es with
        | none => rw [es'] at q; exact q.elim
        | some Δ2 =>
          rw [es'] at q
          intro C dx Av' H' e xr
          obtain ⟨k, s2⟩ := sr.called own nd e es'
          exact q C dx _ H' k s2 xr
      | ok d fr es =>
        rw [eg] at q
        dsimp only at q
        cases es' : setOws Δ (ls.map (·.2)) es with
        | none => rw [es'] at q; exact q.elim
        | some Δ2 =>
          rw [es'] at q
          refine ⟨fun hfr v Av' H' e r => ?_, fun hfr a Av' H' e h0 nv na o => ?_⟩
          · obtain ⟨k, s2⟩ := sr.called own nd e es'
            subst hfr
            exact hV d Δ2 q v _ H' k s2 r
          · obtain ⟨k, s2⟩ := sr.called own nd e es'
            subst hfr
            exact hF d Δ2 q a _ H' k s2 (sr.trk a h0) h0 nv (fun i z => (sr.ow i a z).2.1 h0) o
theorem okF.okV {x : Sx} {σ : L2.St} {H : Hp} {Q : VK} {d : D} {Δ : SD} (h : okV c x σ H Q d Δ) : okF c x σ H Q d Δ := fun a x' H' k s h0 h1 nv nr o =>
  h (.ref a) ⟨fun b => x'.Av b ∨ b = a, x'.ρ⟩ H' ⟨k.frame, k.trk, k.own, fun b hb n => .inl (k.av b hb n), fun b hb => hb.elim (k.avb b) fun e => .inr (.inl (e ▸ h1))⟩ (s.share nr (s.a0 a h0)) o.rep
variable {nm : Str} {p pos : Pos} {e : Expr} {es : List Expr} {fs : M (List AK)}
/-- the arguments, then the callee -/
theorem pe_dcall {t : TA} {T : TE} (F : DFn X.prog X.w X.K X.mg X.base c.T kf f fd ps io g) (o : Ok X c W k) (hk : kf ≤ k) (hg : Gl X nm) (hm : X.mg nm = some (.ref f)) (hkp : PySem.W.keepIn X.K (.ref f) = true) (hb : Binds X.K fd ps []) (pa : PA X (e :: es) t)
    (hT : ∀ σ H Q, T σ H Q → t σ H fun vs H1 => spD ⟨X.K, X.mg, c.T⟩ ps.length io g vs H1 Q fun cls d H' => W cls d σ H')
    (hdb : (nm == ("__debug__" : Str)) = false := by decide) (he : starEach (e :: es) X.env = (false, eval e X.env) :: starEach es X.env := by rfl) (hpl : (backTo pos (starEach es X.env)).any (·.1) = false := by rfl) : PE X (.Call (.Name nm p) (e :: es) [] pos) T := by
  constructor
  intro pins s σ H Q I h
  refine wpAny_Call_Name_kw (ld_glob I hg hm ?_ hdb)
  have args := thn (pa.run pos pins s σ H _ I (hT σ H Q h)) fun us s1 ⟨vs, H1, I1, r, q⟩ =>
    (⟨I1.kIn, run_dfn F o hk hb I1 r q⟩ : X.K.In s1.heap ∧ wpAny (model X.prog X.w) X.A (call (.ref f) ([] ++ us)) (EP X pins σ Q) X.xe s1)
  exact PySem.W.callWith_K (h₀ := X.base) I.ok.mod.kin hkp args he hpl
theorem pe_dcall0 {T : TE} (F : DFn X.prog X.w X.K X.mg X.base c.T kf f fd ps io g) (o : Ok X c W k) (hk : kf ≤ k) (hg : Gl X nm) (hm : X.mg nm = some (.ref f)) (hkp : PySem.W.keepIn X.K (.ref f) = true) (hb : Binds X.K fd ps [])
    (hT : ∀ σ H Q, T σ H Q → spD ⟨X.K, X.mg, c.T⟩ ps.length io g [] H Q fun cls d H' => W cls d σ H')
    (hdb : (nm == ("__debug__" : Str)) = false := by decide) : PE X (.Call (.Name nm p) [] [] pos) T := by
  constructor
  intro pins s σ H Q I h
  refine wpAny_Call_Name_kw (ld_glob I hg hm ?_ hdb)
  exact PySem.W.callWith_K0 I.kIn hkp (run_dfn (us := []) F o hk hb I .nil (hT σ H Q h))
theorem post_call {α : Type} {x : Sx} {σ : L2.St} {H : Hp} {Δ : SD} {okr : α → SD → Prop} {m : M (D × Bool)} {kk : D × Bool → M α} (q : Post c W x σ H okr (mBind m kk Δ)) : Post c W x σ H (fun r Δ2 => Post c W x σ H okr (kk r Δ2)) (m Δ) := q.bind fun _ _ z => z
section
variable (F : DFn X.prog X.w X.K X.mg X.base c.T kf f fd ps io g) (o : Ok X c W k) (hk : kf ≤ k) (hg : Gl X nm) (hm : X.mg nm = some (.ref f)) (hkp : PySem.W.keepIn X.K (.ref f) = true) (hb : Binds X.K fd ps [])
theorem gc_eq (o : Ok X c W k) : c.toGc = ⟨X.K, X.mg, c.T⟩ := by
  obtain ⟨⟨K, mg, T⟩, _, _, _⟩ := c
  have h1 : K = X.K := o.hK
  have h2 : mg = X.mg := o.hmg
  rw [h1, h2]
include F o hk hg hm hkp hb
theorem de_call (ha : DA X c W (e :: es) fs) (hdb : (nm == ("__debug__" : Str)) = false := by decide) (he : starEach (e :: es) X.env = (false, eval e X.env) :: starEach es X.env := by rfl) (hpl : (backTo pos (starEach es X.env)).any (·.1) = false := by rfl) :
    DE X c W (.Call (.Name nm p) (e :: es) [] pos) (mCall ps.length io g fs) := by
  obtain ⟨t, pa, sa⟩ := ha.out
  refine DE.of (pe_dcall F o hk hg hm hkp hb pa (fun σ H Q ⟨x, Δ, sr, q⟩ => ?_) hdb he hpl)
  refine sa x σ H Δ _ sr (Post.bind q fun as Δ1 q1 vs x1 H1 k1 sr1 h1 => ?_)
  have q2 := post_call (q1.step k1 fun a Δ q => okV.step k1 q)
  exact call_sp (gc_eq o) sr1 h1 q2 (fun d Δ2 z => z) (fun d Δ2 z => okF.okV z)
theorem df_call (ha : DA X c W (e :: es) fs) (hdb : (nm == ("__debug__" : Str)) = false := by decide) (he : starEach (e :: es) X.env = (false, eval e X.env) :: starEach es X.env := by rfl) (hpl : (backTo pos (starEach es X.env)).any (·.1) = false := by rfl) :
    DF X c W (.Call (.Name nm p) (e :: es) [] pos) (mCallN ps.length io g fs) := by
  obtain ⟨t, pa, sa⟩ := ha.out
  refine DF.of (pe_dcall F o hk hg hm hkp hb pa (fun σ H Q ⟨x, Δ, sr, q⟩ => ?_) hdb he hpl)
  refine sa x σ H Δ _ sr (Post.bind q fun as Δ1 q1 vs x1 H1 k1 sr1 h1 => ?_)
  have q2 := post_call (q1.step k1 fun a Δ q => okF.step k1 q)
  exact call_sp (gc_eq o) sr1 h1 q2 (fun d Δ2 z => z.elim) (fun d Δ2 z => z)
theorem de_call0 (hdb : (nm == ("__debug__" : Str)) = false := by decide) : DE X c W (.Call (.Name nm p) [] [] pos) (mCall ps.length io g mNil) := by
  refine DE.of (pe_dcall0 F o hk hg hm hkp hb (fun σ H Q ⟨x, Δ, sr, q⟩ => ?_) hdb)
  exact call_sp (as := []) (gc_eq o) sr rfl (post_call q) (fun d Δ2 z => z) (fun d Δ2 z => okF.okV z)
theorem df_call0 (hdb : (nm == ("__debug__" : Str)) = false := by decide) : DF X c W (.Call (.Name nm p) [] [] pos) (mCallN ps.length io g mNil) := by
  refine DF.of (pe_dcall0 F o hk hg hm hkp hb (fun σ H Q ⟨x, Δ, sr, q⟩ => ?_) hdb)
  exact call_sp (as := []) (gc_eq o) sr rfl (post_call q) (fun d Δ2 z => z.elim) (fun d Δ2 z => z)
end
end
end DL

namespace DL
open PySem L2 PySem.Spec PyProof.Rows

section
variable {P : Program} {w : World} {K : PySem.W.Frag} {mg mb : Str → Option Value} {k : Nat} {fa a : Addr} {fd : FuncData} {x : Str} {g : List D → RD} {s₁ : Shared} {vs : List Value} {ns : List Int}
/-- what a law's call leaves -/
abbrev LawEnd (s₁ : Shared) (r : Result) (s' : Shared) : Prop := r = .ok (.ret (.bool true)) ∧ OldK s₁.heap s'.heap ∧ s'.os = s₁.os ∧ AllBare s'.gens
theorem law_core {T : List (Addr × Str)} {cs : List (Addr × Addr)} (KX : K.In s₁.heap) (hns : s₁.heap.Ns mainGlobals mg) (hb : s₁.heap.Ns builtinsNs mb) (hbb : ∀ x : Str, x ≠ "__name__" → mb x = bootBuiltins x) (hlim : s₁.heap.NoLimit) (hg : s₁.gens = #[])
    (hT : ∀ p ∈ cs, s₁.heap.get? p.2 = some { cls := .none, data := .fields #[] }) (nT : ∀ p ∈ cs, K.lookup p.2 = none) (C : ∀ p ∈ cs, PySem.W.CodeHd s₁.heap p.1 p.2)
    (hbm : ∃ (bm : Addr) (ob : Obj), mg "__builtins__" = some (.ref bm) ∧ bm ≠ builtinsNs ∧ s₁.heap.get? bm = some ob ∧ ob.cls = .type "module" ∧ ob.dict = some builtinsNs ∧ ob.data = .plain) (hTc : ∀ t ∈ T, ∃ p ∈ cs, p.2 = t.1)
    (ha : s₁.heap.get? a = some { cls := .type "list", data := .seq vs.toArray }) (hr : Room k callerA)
    (F : ∀ base : Heap, K.In base → base.Ns mainGlobals mg → (∀ p ∈ cs, LamX.TabB base mg p.1 p.2) → DFn P w K mg base T k fa fd [x] [] g) (hbind : ∀ (s : Shared) (u : Value), BindsTo s fd ⟨[u], []⟩ [(x, u)])
    (hmir : ∃ fr, g [.scr ns] = .ok (.bl true) fr [])
    (H : Hp) (hH : ∀ p ∈ cs, H p.2 = some (.tbl #[])) (hO : ∀ b, H b = none ∨ b ∈ cs.map (·.2) ∨ ∃ o xs, H b = some (.frz o (.lst xs))) (hS : (Rd H a (.lst (ns.map V.int))) ∨ ∀ H', SqL K H' a (ns.map V.int)) (hok : HOk P w H s₁.heap) (hA : ∀ b, H b ≠ none → b = a ∨ b ∈ cs.map (·.2)) (hK : H a ≠ none → K.lookup a = none) :
    codeAny (model P w) callerA (.call (.ref fa) ⟨[.ref a], []⟩) (LawEnd s₁) s₁ := by
  have isT : ∀ b : Addr, b ∈ cs.map (·.2) → s₁.heap.get? b = some { cls := .none, data := .fields #[] } := fun b hb => by
    obtain ⟨p, hp, e⟩ := List.mem_map.mp hb
    rw [← e]
    exact hT p hp
  -- what is neither the script nor a table is not tracked
  have free : ∀ {b : Addr} {o : Obj}, s₁.heap.get? b = some o → (∀ vs n, o.data ≠ .seq vs n) → o.data ≠ .fields #[] → H b = none := fun {b o} e h1 h2 => by
    cases q : H b with
    | none => rfl
    | some u =>
      rcases hA b (by rw [q]; intro z; cases z) with e' | e'
      · rw [e', ha] at e
        cases e
        exact (h1 _ _ rfl).elim
      · rw [isT b e'] at e
        cases e
        exact (h2 rfl).elim
  have dictFree : ∀ {b : Addr} {m : Str → Option Value}, s₁.heap.Ns b m → (hidT s₁.heap H).Ns b m := fun {b m} ⟨o, es, ep, e, d, r⟩ =>
    ⟨o, es, ep, hidT_get e (free e (fun _ _ z => by rw [d] at z; cases z) fun z => by rw [d] at z; cases z), d, r⟩
  have kin : K.In (hidT s₁.heap H) := fun b o e => hidT_get (KX b o e) (by
    cases q : H b with
    | none => rfl
    | some u =>
      rcases hA b (by rw [q]; intro z; cases z) with z | z
      · subst z
        rw [hK (by rw [q]; intro z; cases z)] at e
        cases e
      · obtain ⟨p, hp, ep⟩ := List.mem_map.mp z
        rw [← ep, nT p hp] at e
        cases e)
  have md : Mod K mg (hidT s₁.heap H) := ⟨kin, dictFree hns, ⟨mb, dictFree hb, hbb⟩, hlim.elim fun mc z => ⟨mc, dictFree z.1, z.2⟩⟩
  have TB : ∀ p ∈ cs, LamX.TabB (hidT s₁.heap H) mg p.1 p.2 := fun p hp => by
    have hTp := hT p hp
    refine ⟨?_, ?_, fun z => ?_⟩
    · obtain ⟨o, us, file, tf, flags, tg, inF, text, tt, e1, r1, r2, r3, r4, r5, r6, r7, r8, hne⟩ := C p hp
      refine ⟨o, us, file, tf, flags, tg, inF, text, tt, hidT_get e1 (free e1 (fun vs n z => by rw [r2] at z; cases z) fun z => ?_), r1, r2, r3, r4, r5, r6, r7, r8, hne⟩
      rw [r2] at z
      cases z
      simp at r3
    · obtain ⟨bm, ob, b1, b2, b3, b4, b5, b6⟩ := hbm
      have nG : bm ≠ mainGlobals := fun q => by
        obtain ⟨o, es, ep, e, hd, _⟩ := hns
        rw [q, e] at b3
        cases b3
        rw [hd] at b6
        cases b6
      have nP : bm ≠ p.2 := fun q => by
        rw [q, hTp] at b3
        cases b3
        cases b6
      exact ⟨bm, ob, b1, b2, nG, nP, hidT_get b3 (free b3 (fun _ _ z => by rw [b6] at z; cases z) fun z => by rw [b6] at z; cases z), b4, b5, b6⟩
    · obtain ⟨o, es, ep, e, hd, _⟩ := hns
      rw [z, hTp] at e
      cases e
      cases hd
  have env0 : Env0 P w K mg (hidT s₁.heap H) callerA [] s₁ H := ⟨rfl, md, fun b o e => of_hidT e, Nat.le_of_eq (hidT_size _ _), trivial, fun b z => (nomatch z), hok, .of_eq hg⟩
  obtain ⟨fr, hm⟩ := hmir
  have tabs : LamX.Tabs T H := fun t ht => by
    obtain ⟨p, hp, e⟩ := hTc t ht
    exact LamX.TabS.nil (by rw [← e]; exact hH p hp)
  have sp : spD ⟨K, mg, T⟩ [x].length [] g [.ref a] H (fun v _ => v = .bl true) (fun _ _ _ => False) := by
    refine ⟨fun _ => True, [.scr ns], [], rfl, fun _ _ => trivial, tabs, rfl, List.nodup_nil, List.nodup_nil, fun _ h => (nomatch h), fun _ h => (nomatch h), ⟨_, [], rfl, ?_, rfl⟩, ?_⟩
    · rw [if_neg (by simp)]
      unfold Rep
      exact ⟨a, rfl, hS.imp (fun z => ⟨trivial, z⟩) id⟩
    · rw [hm]
      exact ⟨fun _ v Av' H' _ r => rep_bl (.inl r), fun _ b Av' H' _ _ _ _ o => o.elim⟩
  refine codeAny_mono ((F _ kin (dictFree hns) TB).run callerA [] s₁ H ⟨[.ref a], []⟩ [.ref a] [.ref a] _ _ hr (fun _ => rfl) env0 (hbind s₁ (.ref a)) (.cons rfl .nil) sp) fun r s' h => ?_
  cases r with
  | error e =>
    obtain ⟨_, _, _, _, _, _, _, _, _, _, _, _, z⟩ := h
    exact z.elim
  | ok fl =>
    cases fl with
    | next => exact h.elim
    | brk => exact h.elim
    | cont => exact h.elim
    | ret u =>
      obtain ⟨v, H', os, bare, un, hok', r, q⟩ := h
      have q' : v = .bl true := q
      subst q'
      cases (show u = Value.bool true from r)
      have key : ∀ b o, b ∉ cs.map (·.2) → s₁.heap.get? b = some o → s'.heap.get? b = some o := fun b o nb e => by
        cases q : H b with
        | none => exact un.keep b o e q (fun z => nomatch z) (fun z => nomatch z)
        | some u =>
          rcases hO b with z | z | ⟨ob, xs, z⟩
          · rw [q] at z; cases z
          · exact absurd z nb
          · have e1 := (hok b _ z).1
            have e2 := (hok' b _ (un.frzs b ob _ z)).1
            rw [e] at e1; cases e1
            exact e2
      have grown : ∀ p ∈ cs, ∃ more : Array Value, s'.heap.get? p.2 = some { cls := .none, data := .fields more } := fun p hp => by
        obtain ⟨more, z⟩ := un.tbls p.2 #[] (hH p hp)
        exact ⟨_, hok' p.2 _ z⟩
      refine ⟨rfl, ⟨fun b o e => ?_, fun b o e => ?_⟩, os, bare⟩
      · by_cases hb : b ∈ cs.map (·.2)
        · obtain ⟨p, hp, ep⟩ := List.mem_map.mp hb
          obtain ⟨more, hm⟩ := grown p hp
          rw [← ep] at e ⊢
          rw [hT p hp] at e
          cases e
          exact .inr (.inl ⟨((C p hp).tab (hT p hp)).isCodeTable, rfl, #[], more, rfl, by rw [Array.empty_append]; exact hm⟩)
        · exact .inl (key b o hb e)
      · by_cases hb : b ∈ cs.map (·.2)
        · obtain ⟨p, hp, ep⟩ := List.mem_map.mp hb
          obtain ⟨more, hm⟩ := grown p hp
          rw [← ep]
          exact ⟨_, hm⟩
        · exact ⟨o, key b o hb e⟩
theorem law_run {T : List (Addr × Str)} {cs : List (Addr × Addr)} (KX : K.In s₁.heap) (hns : s₁.heap.Ns mainGlobals mg) (hb : s₁.heap.Ns builtinsNs mb) (hbb : ∀ x : Str, x ≠ "__name__" → mb x = bootBuiltins x) (hlim : s₁.heap.NoLimit) (hg : s₁.gens = #[])
    (hT : ∀ p ∈ cs, s₁.heap.get? p.2 = some { cls := .none, data := .fields #[] }) (nT : ∀ p ∈ cs, K.lookup p.2 = none) (C : ∀ p ∈ cs, PySem.W.CodeHd s₁.heap p.1 p.2)
    (hbm : ∃ (bm : Addr) (ob : Obj), mg "__builtins__" = some (.ref bm) ∧ bm ≠ builtinsNs ∧ s₁.heap.get? bm = some ob ∧ ob.cls = .type "module" ∧ ob.dict = some builtinsNs ∧ ob.data = .plain) (hTc : ∀ t ∈ T, ∃ p ∈ cs, p.2 = t.1)
    (ha : s₁.heap.get? a = some { cls := .type "list", data := .seq vs.toArray }) (hi : IntsAre vs ns) (hl : ns.length ≤ sizeLine) (hr : Room k callerA)
    (F : ∀ base : Heap, K.In base → base.Ns mainGlobals mg → (∀ p ∈ cs, LamX.TabB base mg p.1 p.2) → DFn P w K mg base T k fa fd [x] [] g) (hbind : ∀ (s : Shared) (u : Value), BindsTo s fd ⟨[u], []⟩ [(x, u)])
    (hmir : ∃ fr, g [.scr ns] = .ok (.bl true) fr []) : codeAny (model P w) callerA (.call (.ref fa) ⟨[.ref a], []⟩) (LawEnd s₁) s₁ := by
  have rv := vals_ints hi
  have lenV := hi.length
  have memT : ∀ p ∈ cs, p.2 ∈ cs.map (·.2) := fun p hp => List.mem_map.mpr ⟨p, hp, rfl⟩
  have isT : ∀ b : Addr, b ∈ cs.map (·.2) → s₁.heap.get? b = some { cls := .none, data := .fields #[] } := fun b hb => by
    obtain ⟨p, hp, e⟩ := List.mem_map.mp hb
    rw [← e]
    exact hT p hp
  have aT : a ∉ cs.map (·.2) := fun z => by
    have q := isT a z
    rw [ha] at q
    exact nomatch (congrArg Obj.data (Option.some.inj q) : Data.seq vs.toArray _ = Data.fields #[])
  cases hk : K.lookup a with
  | some o =>
    have e := KX a o hk
    rw [ha] at e
    cases e
    have sq : ∀ H', SqL K H' a (ns.map V.int) := fun H' => .inr ⟨_, vs.toArray, _, hk, rfl, rfl, rfl, by rw [List.size_toArray, lenV]; exact hl, by simpa using rv⟩
    refine law_core KX hns hb hbb hlim hg hT nT C hbm hTc ha hr F hbind hmir (fun b => if b ∈ cs.map (·.2) then some (.tbl #[]) else none) (fun p hp => if_pos (memT p hp)) (fun b => ?_) (.inr sq) (fun b u z => ?_) (fun b z => ?_) fun z => absurd (show (if a ∈ cs.map (·.2) then some (HO.tbl #[]) else none) = none from if_neg aT) z
    · by_cases hb : b ∈ cs.map (·.2)
      · exact .inr (.inl hb)
      · exact .inl (if_neg hb)
    · by_cases hb : b ∈ cs.map (·.2)
      · cases (if_pos hb).symm.trans z
        exact isT b hb
      · cases (if_neg hb).symm.trans z
    · by_cases hb : b ∈ cs.map (·.2)
      · exact .inr hb
      · exact absurd (if_neg hb) z
  | none =>
    refine law_core KX hns hb hbb hlim hg hT nT C hbm hTc ha hr F hbind hmir (fun b => if b = a then some (.frz { cls := .type "list", data := .seq vs.toArray } (.lst (ns.map V.int))) else if b ∈ cs.map (·.2) then some (.tbl #[]) else none) (fun p hp => (if_neg (show ¬ p.2 = a from fun z => aT (by rw [← z]; exact memT p hp))).trans (if_pos (memT p hp))) (fun b => ?_)
      (.inl (.inr ⟨{ cls := .type "list", data := .seq vs.toArray }, if_pos rfl⟩)) (fun b u z => ?_) (fun b z => ?_) fun _ => hk
    · by_cases hb : b = a
      · exact .inr (.inr ⟨_, _, if_pos hb⟩)
      · by_cases hb2 : b ∈ cs.map (·.2)
        · exact .inr (.inl hb2)
        · exact .inl ((if_neg hb).trans (if_neg hb2))
    · by_cases hb : b = a
      · cases (if_pos hb).symm.trans z
        rw [hb]
        exact ⟨ha, by rw [List.length_map]; exact hl, vs, _, rv, ha⟩
      · have z1 := (if_neg hb).symm.trans z
        by_cases hb2 : b ∈ cs.map (·.2)
        · cases (if_pos hb2).symm.trans z1
          exact isT b hb2
        · cases (if_neg hb2).symm.trans z1
    · by_cases hb : b = a
      · exact .inl hb
      · by_cases hb2 : b ∈ cs.map (·.2)
        · exact .inr hb2
        · exact absurd ((if_neg hb).trans (if_neg hb2)) z
end
/-- the goal behind the head, from the law's mirror -/
theorem law_walk {l : PySem.W.OpenLaw} {n k : Nat} {q : Program} {loose : List Str} {XP : (Str → Option Value) → Heap → Prop} {YP : World → Heap → Prop} {d : DefRec} {K : Params → PySem.W.Frag} {x : Str} {g : List D → RD}
    (hn : l.most = some n) (hn2 : n ≤ 1000) (hdf : d.params.defaults = []) (hr : Room k callerA) (hY : ∀ (w : World) (h : Heap), YP w h → (K w.params).In h)
    (F : ∀ (w : World) (mg : Str → Option Value) (fa : Addr) (h : Heap), YP w h → (K w.params).In h → h.Ns mainGlobals mg → mg d.name = some (.ref fa) →
      ∃ (fd : FuncData) (cs : List (Addr × Addr)) (T : List (Addr × Str)), (∀ p ∈ cs, h.get? p.2 = some { cls := .none, data := .fields #[] }) ∧ (∀ p ∈ cs, (K w.params).lookup p.2 = none) ∧ (∀ p ∈ cs, PySem.W.CodeHd h p.1 p.2) ∧ (∀ t ∈ T, ∃ p ∈ cs, p.2 = t.1) ∧
        (∀ (s : Shared) (u : Value), BindsTo s fd ⟨[u], []⟩ [(x, u)]) ∧ ∀ base : Heap, (K w.params).In base → base.Ns mainGlobals mg → (∀ p ∈ cs, LamX.TabB base mg p.1 p.2) → DFn l.prog w (K w.params) mg base T k fa fd [x] [] g)
    (hmir : ∀ ns : List Int, ns.length ≤ n → ∃ fr, g [.scr ns] = .ok (.bl true) fr []) :
    PySem.W.WalkO q loose XP YP l.row.toRowW d [] (fun f vs => PySem.call f vs) := by
  refine Att.attach_call hn hdf fun w s₀ s₁ mg mb fa o pm cd doc a vs ns G Y ho hd hcd hmg hobj hints hlen hg => ?_
  obtain ⟨fd, cs, T, hT, nT, C, hTc, hb, hF⟩ := F w mg fa _ Y (hY w _ Y) G.T.g hmg
  exact law_run (hY w _ Y) G.T.g G.T.b G.T.builtins G.T.nolimit hg hT nT C G.T.bmain hTc hobj hints (Nat.le_trans hlen (Nat.le_trans hn2 (by rw [PySem.sizeLine_eq]; decide))) hr hF hb (hmir ns hlen)
end DL

namespace DL
open PySem L2

section
variable {c : Ct} {W : WX} {x : Sx} {σ : St} {H : Hp} {Δ : SD}
/-- the content of a slot's own object is changed -/
theorem SR.ownUpd (s : SR c x σ H Δ) {i : Nat} {a : Addr} {d d' : D} {o' : HO} (hd : Δ[i]? = some (.ow d)) (ha : x.ρ i = some a) (ho : Own c.toGc x.Av (upd H a o') a d') :
    Kp x H x (upd H a o') ∧ SR c x σ (upd H a o') (Δ.set i (.ow d')) := by
  obtain ⟨nav, nn, hor⟩ := s.ow i a ha
  have ne : ∀ {b : Addr}, x.Av b → b ≠ a := fun hb z => nav (z ▸ hb)
  have kn : ∀ {b : Addr}, upd H a o' b = none → H b = none := fun h => (upd_none h).2
  have kp : Keep c.toGc x.Av x.Av H (upd H a o') := Keep.temp o' nav
  refine ⟨⟨fun b o h _ n => ?_, fun b h => kn h, fun j b h => .inl ⟨j, h⟩, fun b h _ => h, fun b h => .inl h⟩, ?_⟩
  · have e : b ≠ a := fun z => n i (z ▸ ha)
    rw [upd_ne e]; exact h
  exact {
    len := by rw [List.length_set]; exact s.len
    tab := by
      obtain ⟨_, _, _, o0⟩ := (show SlotOk c x σ H i (some (.ow d)) from by rw [← hd]; exact s.slot i)
      rename_i a0 e0 _
      rw [ha] at e0
      cases e0
      obtain ⟨u, hu, hp, _⟩ := o0.pln
      exact tabs_upd s.tab hu hp
    base := fun b o h f n => by
      have e : b ≠ a := fun z => by
        subst z
        rcases hor with q | ⟨p, hp, e⟩
        · rw [h] at q; cases q
        · exact n p hp e
      rw [upd_ne e]; exact s.base b o h f n
    trk := fun b h => s.trk b (kn h)
    fr := fun b h => s.fr b (kn h)
    av := s.av
    a0 := s.a0
    ow := fun j b h => ⟨(s.ow j b h).1, fun q => (s.ow j b h).2.1 (kn q), (s.ow j b h).2.2⟩
    inj := s.inj
    slot := fun j => by
      have z := s.slot j
      by_cases e : j = i
      · subst e
        have hl : j < Δ.length := (List.getElem?_eq_some_iff.mp hd).1
        rw [List.getElem?_set_self hl]
        rw [hd] at z
        obtain ⟨b, h0, h1, _⟩ := z
        rw [ha] at h0; cases h0
        exact ⟨a, ha, h1, ho⟩
      · rw [List.getElem?_set_ne (Ne.symm e)]
        revert z
        cases Δ[j]? with
        | none => intro _; trivial
        | some w =>
          cases w with
          | un => intro _; trivial
          | sh d => exact fun ⟨v, h1, h2⟩ => ⟨v, h1, h2.keep kp⟩
          | ow d =>
            rintro ⟨b, h0, h1, h2⟩
            have eb : b ≠ a := fun z => e (s.inj _ _ _ (z ▸ h0) ha)
            refine ⟨b, h0, h1, ?_⟩
            show Own c.toGc x.Av (upd H a o') b d
            cases d <;> first
              | exact h2.elim
              | (obtain ⟨us, q1, q2⟩ := h2; exact ⟨us, by rw [upd_ne eb]; exact q1, q2.keep kp⟩)
              | (obtain ⟨C, dx, us, q0, q1, q2⟩ := h2; exact ⟨C, dx, us, q0, by rw [upd_ne eb]; exact q1, q2.keep kp⟩)
    ios := s.ios }
theorem SR.owAt (s : SR c x σ H Δ) {i : Nat} {d : D} (hd : Δ[i]? = some (.ow d)) : ∃ a, x.ρ i = some a ∧ σ[i]? = some (some (.ref a)) ∧ Own c.toGc x.Av H a d ∧ ¬ x.Av a := by
  have z := s.slot i
  rw [hd] at z
  obtain ⟨a, h0, h1, h2⟩ := z
  exact ⟨a, h0, h1, h2, (s.ow i a h0).1⟩
end

/-- a slot holds an object of its own -/
def mHold (p : D → Bool) (i : Nat) : M Unit := fun Δ => match Δ[i]? with
  | some (.ow d) => if p d = true then .ok () Δ else .bad
  | _ => .bad
/-- its content is changed -/
def mUpd {α : Type} (i : Nat) (g : D → Option (α × D)) : M α := fun Δ => match Δ[i]? with
  | some (.ow d) => (match g d with
    | some (a, d') => .ok a (Δ.set i (.ow d'))
    | none => .bad)
  | _ => .bad
def isLst : D → Bool
  | .lst _ => true
  | _ => false
section
variable {c : Ct} {W : WX} {x : Sx} {σ : St} {H : Hp} {Δ : SD}
theorem Post.hold {α : Type} {ok : α → SD → Prop} {p : D → Bool} {i : Nat} {g : Unit → M α} (h : Post c W x σ H ok (mBind (mHold p i) g Δ)) : ∃ d, Δ[i]? = some (.ow d) ∧ p d = true ∧ Post c W x σ H ok (g () Δ) := by
  unfold mBind mHold at h
  cases e : Δ[i]? with
  | none => rw [e] at h; exact h.elim
  | some z =>
    rw [e] at h
    cases z with
    | un => exact h.elim
    | sh d => exact h.elim
    | ow d =>
      dsimp only at h
      by_cases hp : p d = true
      · rw [if_pos hp] at h; exact ⟨d, rfl, hp, h⟩
      · rw [if_neg hp] at h; exact h.elim
theorem Post.upd {α β : Type} {ok : α → SD → Prop} {i : Nat} {u : D → Option (β × D)} {g : β → M α} (h : Post c W x σ H ok (mBind (mUpd i u) g Δ)) : ∃ d b d', Δ[i]? = some (.ow d) ∧ u d = some (b, d') ∧ Post c W x σ H ok (g b (Δ.set i (.ow d'))) := by
  unfold mBind mUpd at h
  cases e : Δ[i]? with
  | none => rw [e] at h; exact h.elim
  | some z =>
    rw [e] at h
    cases z with
    | un => exact h.elim
    | sh d => exact h.elim
    | ow d =>
      dsimp only at h
      cases eu : u d with
      | none => rw [eu] at h; exact h.elim
      | some r => rw [eu] at h; exact ⟨d, r.1, r.2, rfl, eu, h⟩
theorem PostS.post {α : Type} {f : M α} {g : α → M Fl} {E : Ends} (h : PostS c W x H E (mBind f g Δ)) : Post c W x σ H (fun a Δ1 => PostS c W x H E (g a Δ1)) (f Δ) := h.bind fun _ _ z => z
end

/-! ### x.append(e) -/
def gApp (d : D) : D → Option (Unit × D)
  | .lst ds => if ds.length < lim then some ((), .lst (ds ++ [d])) else none
  | _ => none
def mApp (i : Nat) (f : M D) : M D := mBind (mHold isLst i) fun _ => mBind f fun d => mBind (mUpd i (gApp d)) fun _ => mPure .non
section
variable {X : Cx} {c : Ct} {W : WX} {e : Expr} {fe : M D} {pos p1 p2 p3 : Pos} {i : Nat} {n : Str}
theorem isLst_some {d : D} (h : isLst d = true) : ∃ ds, d = .lst ds := by
  cases d with
  | lst ds => exact ⟨ds, rfl⟩
  | _ => cases h
theorem gApp_some {d x x' : D} {u : Unit} (h : gApp d x = some (u, x')) : ∃ ds, x = .lst ds ∧ ds.length < lim ∧ x' = .lst (ds ++ [d]) := by
  cases x with
  | lst ds =>
    have h' : (if ds.length < lim then some ((), D.lst (ds ++ [d])) else none) = some (u, x') := h
    by_cases z : ds.length < lim
    · rw [if_pos z] at h'; cases h'; exact ⟨ds, rfl, z, rfl⟩
    · rw [if_neg z] at h'; cases h'
  | _ => cases h
theorem lim_lt {n : Nat} (h : n < lim) : n < sizeLine := Nat.lt_of_lt_of_le h (by rw [PySem.sizeLine_eq]; decide)
theorem de_append (hK : c.K = X.K) (hN : X.N[i]? = some n) (hv : Vis X.env.scope n) (h : DE X c W e fe)
    (hd : (n == ("__debug__" : Str)) = false := by decide) (hcd : (n == ("__classdict__" : Str)) = false := by decide)
    (hbase : attributeBase (.Name n p1) "append" X.env (eval (.Name n p1) X.env) = eval (.Name n p1) X.env := by rfl)
    (hfew : ((backTo pos (starEach [e] X.env)).all (fun x => !x.1) && (backToKw pos (keywordEach [] X.env)).all (fun x => x.1.isSome)
      && decide ([e].length + ([] : List Keyword).length + (if ([] : List Keyword).isEmpty then 0 else 1) < 30)) = true := by rfl)
    (hline : (p2.endLine == pos.line) = true := by rfl) (hs : starEach [e] X.env = (false, eval e X.env) :: starEach [] X.env := by rfl) (hplain : (backTo pos (starEach [] X.env)).any (·.1) = false := by rfl) :
    DE X c W (.Call (.Attribute (.Name n p1) "append" p2) [e] [] pos) (mApp i fe) := by
  obtain ⟨t, p, s⟩ := h.out
  refine ⟨_, pe_bm PySem.F.plainAttrs_list PySem.F.slot_list_append PySem.F.type_list_append mt_append (pe_var hN hv hd hcd) (pa_cons p pa_nil hs) hbase hfew hline hs hplain, fun x σ H Δ Q sr q => ?_⟩
  obtain ⟨d0, e0, hp0, q1⟩ := Post.hold q
  obtain ⟨a, ha, hσ, ho, _⟩ := sr.owAt e0
  obtain ⟨ds0, rfl⟩ := isLst_some hp0
  obtain ⟨vs0, hH0, _⟩ := ho
  refine ⟨.ref a, hσ, .inl ⟨rfl, vs0, SqL.of hH0⟩, s x σ H Δ _ sr (q1.bind fun d Δ1 q2 v x1 H1 k1 sr1 r1 => ?_)⟩
  obtain ⟨dl, b, d', e1, eu, q3⟩ := Post.upd (q2.step k1 fun a Δ q => okV.step k1 q)
  obtain ⟨a', ha', hσ', ho', nav⟩ := sr1.owAt e1
  rw [hσ] at hσ'; cases hσ'
  obtain ⟨ds, rfl, hl, rfl⟩ := gApp_some eu
  obtain ⟨vs, hH, rl⟩ := ho'
  refine ⟨a, vs, v, rfl, rfl, hH, by rw [repL_length rl]; exact lim_lt hl, ?_⟩
  have kp : Keep c.toGc x1.Av x1.Av H1 (L2.upd H1 a (.lst (vs ++ [v]))) := Keep.temp _ nav
  obtain ⟨k2, sr2⟩ := sr1.ownUpd (o' := .lst (vs ++ [v])) (d' := .lst (ds ++ [d])) e1 ha' ⟨_, upd_same, (rl.keep kp).app (by unfold RepL; exact ⟨v, [], rfl, r1.keep kp, by unfold RepL; rfl⟩)⟩
  exact q3 .non x1 _ k2 sr2 mk_non
end
end DL

namespace DL
open PySem L2

section
variable {c : Ct} {W : WX} {x : Sx} {σ : St} {H : Hp} {Δ : SD} {E : Ends}
theorem PostS.toPost {r : Res Fl} (h : PostS c W x H E r) : Post c W x σ H (okS c x H E) r := by
  cases r with
  | ok fl Δ' => exact h
  | ex n d Δ' => exact fun C dx x' H' => h C dx σ x' H'
  | bad => exact h
theorem Post.stepS {x1 : Sx} {H1 : Hp} {r : Res Fl} (h : Post c W x σ H (okS c x H E) r) (k : Kp x H x1 H1) : Post c W x1 σ H1 (okS c x1 H1 E) r := h.step k fun _ _ q => okS.step k q
theorem RepL.set {G : Gc} {Av : Addr → Prop} {d : D} {v : V} (r : Rep G Av H d v) : ∀ {ds : List D} {vs : List V} (j : Nat), RepL G Av H ds vs → RepL G Av H (ds.set j d) (vs.set j v)
  | [], vs, j, h => by unfold RepL at h; rw [h]; exact (by unfold RepL; rfl : RepL G Av H [] [])
  | d' :: ds, vs, 0, h => by
    unfold RepL at h
    obtain ⟨v', u, e, h1, h2⟩ := h
    rw [e]
    show RepL G Av H (d :: ds) (v :: u)
    unfold RepL
    exact ⟨v, u, rfl, r, h2⟩
  | d' :: ds, vs, j + 1, h => by
    unfold RepL at h
    obtain ⟨v', u, e, h1, h2⟩ := h
    rw [e]
    show RepL G Av H (d' :: ds.set j d) (v' :: u.set j v)
    unfold RepL
    exact ⟨v', _, rfl, h1, RepL.set r j h2⟩
end

/-- bind from a later state, the rest seen from the first -/
theorem Post.bind2 {α β : Type} {c : Ct} {W : WX} {x x1 : Sx} {σ : St} {H H1 : Hp} {ok : α → SD → Prop} {ok' : β → SD → Prop} {f : M α} {g : α → M β} {Δ : SD} (h : Post c W x σ H ok' (mBind f g Δ)) (k : Kp x H x1 H1) (m : ∀ a Δ1, Post c W x σ H ok' (g a Δ1) → ok a Δ1) : Post c W x1 σ H1 ok (f Δ) := by
  unfold mBind at h
  cases e : f Δ with
  | ok a Δ1 => rw [e] at h; exact m a Δ1 h
  | ex n d Δ1 => rw [e] at h; exact fun C dx x' H' k' => h C dx x' H' (k.trans k')
  | bad => rw [e] at h; exact h

/-! ### o[k] = v -/
def SetD (G : Gc) (t : TSet) (g : D → D → D → Option D) : Prop := ∀ (Av : Addr → Prop) (H : Hp) (a : Addr) (d dk dv d' : D) (k v : V) (Q : Hp → Prop), ¬ Av a → Own G Av H a d → Rep1 G Av H dk k → Rep G Av H dv v → g d dk dv = some d' →
  (∀ o', Own G Av (upd H a o') a d' → Q (upd H a o')) → t (.ref a) k v H Q
def mSetIx (i : Nat) (g : D → D → D → Option D) (fe : M D) (fk : M AK) : M Fl := mBind fe fun v => mBind (mHold (fun _ => true) i) fun _ => mBind fk fun a => mBind (mGet a) fun k => mBind (mUpd i fun d => (g d k v).map fun d' => ((), d')) fun _ => mPure .nx
def gSetL : D → D → D → Option D
  | .lst ds, .int k, v => (ixN ds.length k).map fun j => .lst (ds.set j v)
  | _, _, _ => none
theorem set_listD {G : Gc} : SetD G rSetL gSetL := by
  intro Av H a d dk dv d' k v Q nav ho rk rv e q
  unfold gSetL at e
  split at e
  · rename_i ds i
    obtain ⟨vs, hH, rl⟩ := ho
    rw [Option.map_eq_some_iff] at e
    obtain ⟨j, ej, rfl⟩ := e
    have kp : Keep G Av Av H (upd H a (.lst (vs.set j v))) := Keep.temp _ nav
    rw [rep_int rk]
    exact ⟨a, vs, i, j, rfl, rfl, hH, by rw [repL_length rl]; exact ej, q _ ⟨_, upd_same, RepL.set (rv.keep kp) j (rl.keep kp)⟩⟩
  · cases e
section
variable {X : Cx} {c : Ct} {W : WX} {e ei : Expr} {fe : M D} {fk : M AK} {pos p1 p2 p3 : Pos} {i : Nat} {n : Str} {t : TSet} {g : D → D → D → Option D}
theorem ds_setIx (hs : PSet X t) (hd : SetD c.toGc t g) (hN : X.N[i]? = some n) (hv : Vis X.env.scope n) (he : DE X c W e fe) (hk : DO X c W ei fk)
    (hdb : (n == ("__debug__" : Str)) = false := by decide) (hcd : (n == ("__classdict__" : Str)) = false := by decide)
    (ha : ∀ v, assign (.Subscript (.Name n p1) ei p2) X.env v = (do
      let ov ← holding [v] (eval (.Name n p1) X.env)
      let iv ← holding [v, ov] (eval ei X.env)
      standAt p2
      holding [v, ov, iv] (setItem ov iv v)
      release [v, ov, iv] []) := by intro _; rfl)
    (hsw : swapsWithSole [.Subscript (.Name n p1) ei p2] e pos.line X.env = pure false := by rfl) (hw : swappedStores [.Subscript (.Name n p1) ei p2] e X.env = pure none := by rfl)
    (h1 : (assignEach [.Subscript (.Name n p1) ei p2] X.env).map (·.2) = [assign (.Subscript (.Name n p1) ei p2) X.env] := by rfl) :
    DS X c W (.Assign [.Subscript (.Name n p1) ei p2] e pos) (mSetIx i g fe fk) := by
  obtain ⟨te, pe, se⟩ := he.out
  obtain ⟨tk, pk, sk⟩ := hk.out
  refine ⟨_, ps_asg pe (pg_sub (pe_var hN hv hdb hcd) pk hs ha) hsw hw h1, fun x σ H Δ E sr q => ?_⟩
  refine se x σ H Δ _ sr (Post.bind (q.toPost (σ := σ)) fun v Δ1 q1 u x1 H1 k1 sr1 r1 => ?_)
  obtain ⟨d0, e0, _, q2⟩ := Post.hold (q1.stepS k1)
  obtain ⟨a, ha0, hσ, _, _⟩ := sr1.owAt e0
  refine ⟨.ref a, hσ, sk x1 σ H1 Δ1 _ sr1 (Post.bind q2 fun ak Δ2 q3 w x2 H2 k2 sr2 h2 => ?_)⟩
  obtain ⟨dk, rk, q4⟩ := Post.get sr2 h2 (q3.stepS k2)
  obtain ⟨d, b, d', e2, eu, q5⟩ := Post.upd q4
  obtain ⟨a', ha', hσ', ho', nav⟩ := sr2.owAt e2
  rw [hσ] at hσ'; cases hσ'
  rw [Option.map_eq_some_iff] at eu
  obtain ⟨d'', eg, eq⟩ := eu
  cases eq
  refine hd x2.Av H2 a d dk v d' w u _ nav ho' rk (r1.kp sr1 k2) eg fun o' ho2 => ?_
  obtain ⟨k3, sr3⟩ := sr2.ownUpd e2 ha' ho2
  exact q5 σ x2 _ k3 sr3
end

/-! ### name op= e -/
def mAug (g : D → D → Option D) (i : Nat) (fb : M AK) : M Fl := fun Δ => match Δ[i]? with
  | some (.sh dx) => mBind fb (fun b => mBind (mGet b) fun dy => mBind (mOpt (g dx dy)) fun z Δ' => if i < Δ'.length then .ok .nx (Δ'.set i (.sh z)) else .bad) Δ
  | _ => .bad
/-- xs += ys, the slot's own list -/
def gExt : D → D → Option (Unit × D)
  | .lst bs, .lst ds => if ds.length + bs.length ≤ lim then some ((), .lst (ds ++ bs)) else none
  | _, _ => none
def mExt (i : Nat) (fb : M AK) : M Fl := mBind (mHold isLst i) fun _ => mBind fb fun b => mBind (mGet b) fun y => mBind (mUpd i (gExt y)) fun _ => mPure .nx
theorem gExt_some {y d d' : D} {u : Unit} (h : gExt y d = some (u, d')) : ∃ ds bs, y = .lst bs ∧ d = .lst ds ∧ ds.length + bs.length ≤ lim ∧ d' = .lst (ds ++ bs) := by
  unfold gExt at h
  split at h
  · rename_i bs ds
    have h' : (if ds.length + bs.length ≤ lim then some ((), D.lst (ds ++ bs)) else none) = some (u, d') := h
    by_cases z : ds.length + bs.length ≤ lim
    · rw [if_pos z] at h'; cases h'; exact ⟨ds, bs, rfl, rfl, z, rfl⟩
    · rw [if_neg z] at h'; cases h'
  · cases h
section
variable {X : Cx} {c : Ct} {W : WX} {e : Expr} {fb : M AK} {pos p1 : Pos} {i : Nat} {n : Str} {op : Operator} {t : TIp} {g : D → D → Option D}
theorem ds_aug (hio : ∀ p ∈ c.io, p.1 ≠ i) (ho : PIp X op t) (hd : OpD c.toGc t g) (hN : X.N.Nodup) (hi : X.N[i]? = some n) (hx : Loc X.env.scope n) (he : DO X c W e fb) (hf : X.fn n = true ∨ X.env.scope.names.lookup n = some .local := by first | exact .inl rfl | exact .inr rfl | assumption) :
    DS X c W (.AugAssign (.Name n p1) op e pos) (mAug g i fb) := by
  obtain ⟨te, pe, se⟩ := he.out
  refine ⟨_, ps_aug hN hi hx pe ho hf, fun x σ H Δ E sr q => ?_⟩
  have sl := sr.slot i
  unfold mAug at q
  cases ei : Δ[i]? with
  | none => rw [ei] at q; exact q.elim
  | some z =>
    rw [ei] at q sl
    cases z with
    | un => exact q.elim
    | ow d => exact q.elim
    | sh dx =>
      obtain ⟨v, hσ, r⟩ := sl
      refine ⟨v, hσ, se x σ H Δ _ sr (Post.bind (q.toPost (σ := σ)) fun b Δ1 q1 u x1 H1 k1 sr1 h1 => ?_)⟩
      obtain ⟨dy, ry, q2⟩ := Post.get sr1 h1 (q1.stepS k1)
      refine hd x1.Av H1 dx dy v u _ sr1.fr (.inl (r.kp sr k1)) ry ?_
      cases eg : g dx dy with
      | none => rw [eg] at q2; exact q2.elim
      | some z =>
        rw [eg] at q2
        intro w H2 ex rw2
        have q3 : Post c W x1 σ H1 (okS c x1 H1 E) (if i < Δ1.length then .ok .nx (Δ1.set i (.sh z)) else .bad) := q2
        split at q3
        · rename_i hl
          obtain ⟨k2, sr2⟩ := (sr1.ex ex).setSh hio hl rw2
          exact q3 _ _ _ ((Kp.ex ex x1).trans k2) sr2
        · exact q3.elim
theorem ds_ext (hN : X.N.Nodup) (hi : X.N[i]? = some n) (hx : Loc X.env.scope n) (he : DO X c W e fb) (hf : X.fn n = true ∨ X.env.scope.names.lookup n = some .local := by first | exact .inl rfl | exact .inr rfl | assumption) :
    DS X c W (.AugAssign (.Name n p1) .Add e pos) (mExt i fb) := by
  obtain ⟨te, pe, se⟩ := he.out
  refine ⟨_, ps_aug hN hi hx pe (show PIp X .Add rExt2 from iop_ext) hf, fun x σ H Δ E sr q => ?_⟩
  obtain ⟨d0, e0, hp0, q1⟩ := Post.hold (q.toPost (σ := σ))
  obtain ⟨a, ha, hσ, ho, _⟩ := sr.owAt e0
  refine ⟨.ref a, hσ, se x σ H Δ _ sr (Post.bind q1 fun b Δ1 q2 u x1 H1 k1 sr1 h1 => ?_)⟩
  obtain ⟨dy, ry, q3⟩ := Post.get sr1 h1 (q2.stepS k1)
  obtain ⟨d, b', d', e2, eu, q4⟩ := Post.upd q3
  obtain ⟨ds, bs, rfl, rfl, hl, rfl⟩ := gExt_some eu
  obtain ⟨a', ha', hσ', ho', nav⟩ := sr1.owAt e2
  rw [hσ] at hσ'; cases hσ'
  obtain ⟨vs, hH, rl⟩ := ho'
  obtain ⟨p, us, rfl, hH2, rl2⟩ := rep_lst ry
  have kp : Keep c.toGc x1.Av x1.Av H1 (L2.upd H1 a (.lst (vs ++ us))) := Keep.temp _ nav
  refine ⟨a, p, vs, us, rfl, rfl, hH, hH2, by rw [repL_length rl, repL_length rl2]; exact lim_ok hl, ?_⟩
  obtain ⟨k2, sr2⟩ := sr1.ownUpd (o' := .lst (vs ++ us)) (d' := .lst (ds ++ bs)) e2 ha' ⟨_, upd_same, (rl.keep kp).app (rl2.keep kp)⟩
  have es : σ.set i (some (.ref a)) = σ := by
    apply List.ext_getElem?
    intro j
    rw [List.getElem?_set]
    by_cases ej : i = j
    · subst ej
      rw [if_pos rfl, hσ]
      split
      · rfl
      · rename_i hl'
        rw [List.getElem?_eq_none (by omega)] at hσ
        cases hσ
    · rw [if_neg ej]
  show E.nx (σ.set i (some (.ref a))) _
  rw [es]
  exact q4 σ x1 _ k2 sr2
end

/-! ### values, shared or new -/
def okQ (fr : Bool) (c : Ct) (x : Sx) (σ : St) (H : Hp) (Q : VK) (d : D) (Δ' : SD) : Prop := match fr with
  | true => okF c x σ H Q d Δ'
  | false => okV c x σ H Q d Δ'
structure DQ (X : Cx) (c : Ct) (W : WX) (fr : Bool) (e : Expr) (f : M D) : Prop where
  out : ∃ t, PE X e t ∧ ∀ x σ H Δ Q, SR c x σ H Δ → Post c W x σ H (okQ fr c x σ H Q) (f Δ) → t σ H Q
theorem DE.q {X : Cx} {c : Ct} {W : WX} {e : Expr} {f : M D} (h : DE X c W e f) : DQ X c W false e f := ⟨h.out⟩
theorem DF.q {X : Cx} {c : Ct} {W : WX} {e : Expr} {f : M D} (h : DF X c W e f) : DQ X c W true e f := ⟨h.out⟩
theorem okQ.step {fr : Bool} {c : Ct} {x x1 : Sx} {σ : St} {H H1 : Hp} {Q : VK} {d : D} {Δ : SD} (k : Kp x H x1 H1) (h : okQ fr c x σ H Q d Δ) : okQ fr c x1 σ H1 Q d Δ := by
  cases fr with
  | true => exact okF.step k h
  | false => exact okV.step k h
/-- a value that waits: how it stands later -/
def WaitOk (fr : Bool) (c : Ct) (x : Sx) (H : Hp) (d : D) (v : V) : Prop := match fr with
  | true => ∃ a, v = .ref a ∧ c.H0 a = none ∧ H a ≠ none ∧ ¬ x.Av a ∧ (∀ i, x.ρ i ≠ some a) ∧ Own c.toGc x.Av H a d
  | false => Rep c.toGc x.Av H d v
section
variable {c : Ct} {x x' : Sx} {σ : St} {H H' : Hp} {Δ : SD}
theorem own_some {G : Gc} {Av : Addr → Prop} {a : Addr} {d : D} (h : Own G Av H a d) : H a ≠ none := by
  intro z
  cases d <;> first
    | exact h.elim
    | (obtain ⟨vs, h1, h2⟩ := h; rw [z] at h1; cases h1)
    | (obtain ⟨C, dx, us, _, h1, h2⟩ := h; rw [z] at h1; cases h1)
theorem own_keepAt {G : Gc} {Av Av' : Addr → Prop} {a : Addr} {d : D} (kp : Keep G Av Av' H H') (ha : ∀ o, H a = some o → Fx o → H' a = some o) (h : Own G Av H a d) : Own G Av' H' a d := by
  cases d <;> first
    | exact h.elim
    | (obtain ⟨vs, h1, h2⟩ := h; exact ⟨vs, ha _ h1 (by first | exact fx_lst | exact fx_dK | exact fx_dT | exact fx_nd), h2.keep kp⟩)
    | (obtain ⟨C, dx, us, h0, h1, h2⟩ := h; exact ⟨C, dx, us, h0, ha _ h1 fx_ins, h2.keep kp⟩)
theorem WaitOk.kp {fr : Bool} {d : D} {v : V} (s : SR c x σ H Δ) (k : Kp x H x' H') (h : WaitOk fr c x H d v) : WaitOk fr c x' H' d v := by
  cases fr with
  | false => exact Rep.kp s k h
  | true =>
    obtain ⟨a, rfl, h0, hn, nav, nr, o⟩ := h
    have fa : ∀ o, H a = some o → Fx o → H' a = some o := fun o e f => k.frame a o e f nr
    refine ⟨a, rfl, h0, fun z => hn (k.trk a z), fun z => ?_, fun i z => ?_, own_keepAt (s.keep k) fa o⟩
    · rcases k.avb a z with q | q | ⟨j, q⟩
      · exact nav q
      · exact hn q
      · exact nr j q
    · rcases k.own i a z with ⟨j, q⟩ | q
      · exact nr j q
      · exact hn q
theorem okQ.wait {fr : Bool} {Q : VK} {d : D} {Δ' : SD} (h : ∀ v x' H', Kp x H x' H' → SR c x' σ H' Δ' → WaitOk fr c x' H' d v → (∀ a, v = .ref a → fr = true → H a = none) → Q v H') : okQ fr c x σ H Q d Δ' := by
  cases fr with
  | false => exact fun v x' H' k s r => h v x' H' k s r fun _ _ z => nomatch z
  | true => exact fun a x' H' k s h0 h1 nv nr o => h (.ref a) x' H' k s ⟨a, rfl, h0, own_some o, nv, nr, o⟩ fun b e _ => by cases e; exact h1
def putQ (fr : Bool) (d : D) : SC := match fr with
  | true => .ow d
  | false => .sh d
/-- a waiting value is stored; seen from any earlier heap -/
theorem SR.setQ {fr : Bool} {i : Nat} {d : D} {v : V} {x0 : Sx} {H0 : Hp} (s : SR c x σ H Δ) (k : Kp x0 H0 x H) (hio : ∀ p ∈ c.io, p.1 ≠ i) (hi : i < Δ.length) (w : WaitOk fr c x H d v) (hf : ∀ a, v = .ref a → fr = true → H0 a = none) :
    ∃ x', Kp x0 H0 x' H ∧ SR c x' (σ.set i (some v)) H (Δ.set i (putQ fr d)) ∧ ∀ (g : Bool) (e : D) (u : V), (∀ a b, v = .ref a → u = .ref b → fr = true → g = true → a ≠ b) → WaitOk g c x H e u → WaitOk g c x' H e u := by
  cases fr with
  | false =>
    obtain ⟨k2, s2⟩ := s.setSh hio hi w
    exact ⟨_, k.trans k2, s2, fun g e u _ h => h.kp s k2⟩
  | true =>
    obtain ⟨a, rfl, h0, hn, nav, nr, o⟩ := w
    have s2 := s.setOw hio hi h0 nav nr o
    refine ⟨_, k.setOw (hf a rfl rfl) i, s2, fun g e u ne h => ?_⟩
    cases g with
    | false => exact h
    | true =>
      obtain ⟨b, rfl, z0, zn, zav, zr, zo⟩ := h
      refine ⟨b, rfl, z0, zn, zav, fun j z => ?_, zo⟩
      rcases rho_ne z with ⟨_, q⟩ | ⟨_, q⟩
      · cases q; exact ne _ _ rfl rfl rfl rfl rfl
      · exact zr j q
end
theorem wait_ne {c : Ct} {x : Sx} {H : Hp} {f g : Bool} {d : D} {v u : V} (w : WaitOk f c x H d v) (h : ∀ a, u = .ref a → g = true → H a = none) : ∀ a b, v = .ref a → u = .ref b → f = true → g = true → a ≠ b := fun a b e1 e2 g1 g2 z => by
  subst z
  have hb := h a e2 g2
  subst g1
  obtain ⟨a', e', _, hn, _⟩ := w
  rw [e1] at e'; cases e'
  exact hn hb
def mPut2 (i j : Nat) (f1 f2 : Bool) (fa fb : M D) : M Fl := mBind fa fun a => mBind fb fun b Δ => if i < Δ.length ∧ j < Δ.length then .ok .nx ((Δ.set i (putQ f1 a)).set j (putQ f2 b)) else .bad
def mPut3 (i j l : Nat) (f1 f2 f3 : Bool) (fa fb fc : M D) : M Fl := mBind fa fun a => mBind fb fun b => mBind fc fun c Δ => if i < Δ.length ∧ j < Δ.length ∧ l < Δ.length then .ok .nx (((Δ.set i (putQ f1 a)).set j (putQ f2 b)).set l (putQ f3 c)) else .bad
section
variable {X : Cx} {c : Ct} {W : WX} {a b e : Expr} {fa fb fe : M D} {pos px py pz pt pt2 : Pos} {kt k2 i j l : Nat} {x y z : Str} {f1 f2 f3 : Bool}
theorem ds_par (hio : ∀ p ∈ c.io, p.1 ≠ i) (hio2 : ∀ p ∈ c.io, p.1 ≠ j) (hc : X.calm = true) (hN : X.N.Nodup) (hi : X.N[i]? = some x) (hj : X.N[j]? = some y) (hij : i ≠ j) (hx : X.env.scope.names.lookup x = some .local) (hy : X.env.scope.names.lookup y = some .local)
    (ha : DQ X c W f1 a fa) (hb : DQ X c W f2 b fb)
    (hw : swappedStores [.Tuple [.Name x px, .Name y py] kt pt] (.Tuple [a, b] k2 pt2) X.env = pure (some [x, y]))
    (hs : swapsWithSole [.Tuple [.Name x px, .Name y py] kt pt] (.Tuple [a, b] k2 pt2) pos.line X.env = pure false := by rfl)
    (h1 : starEach [a, b] X.env = (false, eval a X.env) :: starEach [b] X.env := by rfl) (h2 : starEach [b] X.env = (false, eval b X.env) :: starEach [] X.env := by rfl) :
    DS X c W (.Assign [.Tuple [.Name x px, .Name y py] kt pt] (.Tuple [a, b] k2 pt2) pos) (mPut2 i j f1 f2 fa fb) := by
  obtain ⟨ta, pa, sa⟩ := ha.out
  obtain ⟨tb, pb, sb⟩ := hb.out
  refine ⟨_, ps_par hc hN hi hj hij hx hy (pa_cons pa (pa_cons pb pa_nil h2) h1) hw hs, fun x σ H Δ E sr q => ?_⟩
  refine sa x σ H Δ _ sr (Post.bind (q.toPost (σ := σ)) fun d1 Δ1 q1 => okQ.wait fun v x1 H1 k1 sr1 w1 fr1 => ?_)
  refine sb x1 σ H1 Δ1 _ sr1 (Post.bind2 q1 k1 fun d2 Δ2 q2 => okQ.wait fun u x2 H2 k2 sr2 w2 fr2 => ?_)
  refine ⟨v, u, rfl, ?_⟩
  have q3 : Post c W x σ H (okS c x H E) (if i < Δ2.length ∧ j < Δ2.length then .ok .nx ((Δ2.set i (putQ f1 d1)).set j (putQ f2 d2)) else .bad) := q2
  split at q3
  · rename_i hl
    obtain ⟨x3, k3, s3, keep⟩ := sr2.setQ (i := i) (x0 := x) (H0 := H) (k1.trans k2) hio hl.1 (w1.kp sr1 k2) fr1
    have w2' := keep f2 d2 u (wait_ne w1 fr2) w2
    obtain ⟨x4, k4, s4, _⟩ := s3.setQ (i := j) k3 hio2 (by rw [List.length_set]; exact hl.2) w2' fun a e g => k1.trk a (fr2 a e g)
    have q4 : okS c x H E .nx ((Δ2.set i (putQ f1 d1)).set j (putQ f2 d2)) := q3
    exact q4 _ x4 H2 k4 s4
  · exact q3.elim
theorem ds_par3 (hio : ∀ p ∈ c.io, p.1 ≠ i) (hio2 : ∀ p ∈ c.io, p.1 ≠ j) (hio3 : ∀ p ∈ c.io, p.1 ≠ l) (hc : X.calm = true) (hN : X.N.Nodup) (hi : X.N[i]? = some x) (hj : X.N[j]? = some y) (hl : X.N[l]? = some z) (hij : i ≠ j) (hil : i ≠ l) (hjl : j ≠ l)
    (hx : X.env.scope.names.lookup x = some .local) (hy : X.env.scope.names.lookup y = some .local) (hz : X.env.scope.names.lookup z = some .local)
    (ha : DQ X c W f1 a fa) (hb : DQ X c W f2 b fb) (he : DQ X c W f3 e fe)
    (hw : swappedStores [.Tuple [.Name x px, .Name y py, .Name z pz] kt pt] (.Tuple [a, b, e] k2 pt2) X.env = pure (some [x, y, z]))
    (hs : swapsWithSole [.Tuple [.Name x px, .Name y py, .Name z pz] kt pt] (.Tuple [a, b, e] k2 pt2) pos.line X.env = pure false := by rfl)
    (h1 : starEach [a, b, e] X.env = (false, eval a X.env) :: starEach [b, e] X.env := by rfl) (h2 : starEach [b, e] X.env = (false, eval b X.env) :: starEach [e] X.env := by rfl) (h3 : starEach [e] X.env = (false, eval e X.env) :: starEach [] X.env := by rfl) :
    DS X c W (.Assign [.Tuple [.Name x px, .Name y py, .Name z pz] kt pt] (.Tuple [a, b, e] k2 pt2) pos) (mPut3 i j l f1 f2 f3 fa fb fe) := by
  obtain ⟨ta, pa, sa⟩ := ha.out
  obtain ⟨tb, pb, sb⟩ := hb.out
  obtain ⟨te, pe, se⟩ := he.out
  refine ⟨_, ps_par3 hc hN hi hj hl hij hil hjl hx hy hz (pa_cons pa (pa_cons pb (pa_cons pe pa_nil h3) h2) h1) hw hs, fun x σ H Δ E sr q => ?_⟩
  refine sa x σ H Δ _ sr (Post.bind (q.toPost (σ := σ)) fun d1 Δ1 q1 => okQ.wait fun v x1 H1 k1 sr1 w1 fr1 => ?_)
  refine sb x1 σ H1 Δ1 _ sr1 (Post.bind2 q1 k1 fun d2 Δ2 q2 => okQ.wait fun u x2 H2 k2 sr2 w2 fr2 => ?_)
  refine se x2 σ H2 Δ2 _ sr2 (Post.bind2 q2 (k1.trans k2) fun d3 Δ3 q3 => okQ.wait fun w x3 H3 k3 sr3 w3 fr3 => ?_)
  refine ⟨v, u, w, rfl, ?_⟩
  have q4 : Post c W x σ H (okS c x H E) (if i < Δ3.length ∧ j < Δ3.length ∧ l < Δ3.length then .ok .nx (((Δ3.set i (putQ f1 d1)).set j (putQ f2 d2)).set l (putQ f3 d3)) else .bad) := q3
  split at q4
  · rename_i hl
    obtain ⟨x4, k4, s4, keep⟩ := sr3.setQ (i := i) (x0 := x) (H0 := H) ((k1.trans k2).trans k3) hio hl.1 ((w1.kp sr1 k2).kp sr2 k3) fr1
    have w2' := keep f2 d2 u (wait_ne w1 fr2) (w2.kp sr2 k3)
    have w3' := keep f3 d3 w (wait_ne (w1.kp sr1 k2) fr3) w3
    obtain ⟨x5, k5, s5, keep2⟩ := s4.setQ (i := j) k4 hio2 (by rw [List.length_set]; exact hl.2.1) w2' fun a e g => k1.trk a (fr2 a e g)
    have w3'' := keep2 f3 d3 w (wait_ne w2 fr3) w3'
    obtain ⟨x6, k6, s6, _⟩ := s5.setQ (i := l) k5 hio3 (by rw [List.length_set, List.length_set]; exact hl.2.2) w3'' fun a e g => (k1.trans k2).trk a (fr3 a e g)
    have q5 : okS c x H E .nx (((Δ3.set i (putQ f1 d1)).set j (putQ f2 d2)).set l (putQ f3 d3)) := q4
    exact q5 _ x6 H3 k6 s6
  · exact q4.elim
end
end DL

namespace DL
open PySem L2

def reprOk (p : PyData) : Bool := p.showable && decide (p.shown.length ≤ lim) && decide (p.depth < 60)
def dRepr : List D → Option D
  | [d] => (toPy d).bind fun p => if reprOk p = true then some (.str p.shown) else none
  | _ => none
def rReprD (K : PySem.W.Frag) : List V → Hp → VK → Prop := fun xs H Q => ∃ v p, xs = [v] ∧ Dp K H v p ∧ p.canLay0 = true ∧ reprOk p = true ∧ Q (.str p.shown) H
theorem call_reprD {X : Cx} (hg : X.A.guards = some []) (hu : X.A.units + 64 < cLine) : CallR X (.builtin "repr") (rReprD X.K) := by
  intro pins s σ H xs us Q I r h
  obtain ⟨v, p, rfl, hd, hl, ok, q⟩ := h
  obtain ⟨u, rfl, rv⟩ := vals1 r
  unfold reprOk at ok
  simp only [Bool.and_eq_true, decide_eq_true_eq] at ok
  obtain ⟨⟨hs, hz⟩, hdp⟩ := ok
  have hz := lim_ok hz
  cases hd with
  | non => cases rv; exact P.repr_of_none ⟨.str _, H, I.tok _, ⟨_, rfl⟩, by simpa only [PyData.shown] using q⟩
  | bl b => cases rv; exact P.repr_of_bool ⟨.str _, H, I.tok _, ⟨_, rfl⟩, by simpa only [PyData.shown] using q⟩
  | int i =>
    obtain ⟨t, rfl⟩ := rv
    exact P.repr_of_int (by simpa [PyData.showable] using hs) ⟨.str _, H, I.tok _, ⟨_, rfl⟩, by simpa only [PyData.shown] using q⟩
  | str x =>
    obtain ⟨t, rfl⟩ := rv
    exact P.repr_of_str ⟨.str _, H, I.tok _, ⟨_, rfl⟩, by simpa only [PyData.shown] using q⟩ (by simpa only [PyData.shown] using hz)
  | lst h1 h2 =>
    cases rv
    obtain ⟨as, rd⟩ := Dp.reads I _ _ _ (.lst h1 h2) rfl
    exact repr_of_reads' rd hs (PyData.noDict_hsm (PyData.hasDict_of_canLay _ hl)) hg (by omega) (fun _ _ e => e) (fun h' u tk hk => ⟨.str _, H, I.kept hk, ⟨_, rfl⟩, q⟩) hz
  | tup h1 h2 =>
    cases rv
    obtain ⟨as, rd⟩ := Dp.reads I _ _ _ (.tup h1 h2) rfl
    exact repr_of_reads' rd hs (PyData.noDict_hsm (PyData.hasDict_of_canLay _ hl)) hg (by omega) (fun _ _ e => e) (fun h' u tk hk => ⟨.str _, H, I.kept hk, ⟨_, rfl⟩, q⟩) hz
theorem d_repr {G : Gc} : CaD G (rReprD G.K) dRepr := by
  intro Av H ds vs Q fr r q
  cases ds with
  | nil => exact q.elim
  | cons d ds =>
    cases ds with
    | cons _ _ => exact q.elim
    | nil =>
      obtain ⟨v, rfl, r1⟩ := rl_one r
      have q0 : outV G Av H Q ((toPy d).bind fun p => if reprOk p = true then some (.str p.shown) else none) := q
      cases e : toPy d with
      | none => rw [e] at q0; exact q0.elim
      | some p =>
        rw [e] at q0
        have q' : outV G Av H Q (if reprOk p = true then some (.str p.shown) else none) := q0
        by_cases ok : reprOk p = true
        · rw [if_pos ok] at q'
          exact ⟨v, p, rfl, r1.dp e, canLay_of e, ok, outV.now (G := G) (Av := Av) q' mk_str⟩
        · rw [if_neg ok] at q'; exact q'.elim
end DL

namespace DL
open PySem L2 PySem.Spec PyProof.Rows

/-- the built-ins' names are not taken by the text -/
structure Bn (mg : Str → Option Value) : Prop where
  isinstance : mg "isinstance" = none
  len : mg "len" = none
  all : mg "all" = none
  any : mg "any" = none
  max : mg "max" = none
  min : mg "min" = none
  sum : mg "sum" = none
  abs : mg "abs" = none
  range : mg "range" = none
  enumerate : mg "enumerate" = none
  zip : mg "zip" = none
  repr : mg "repr" = none
  sorted : mg "sorted" = none
  int : mg "int" = none
  bool : mg "bool" = none
  str : mg "str" = none
  list : mg "list" = none
  tuple : mg "tuple" = none
  dict : mg "dict" = none
  set : mg "set" = none
/-- a def of the text -/
structure FnAt (K : PySem.W.Frag) (mg : Str → Option Value) (nm qual : Str) (st : Stmt) (ps : List Str) : Prop where
  out : ∃ (f : Addr) (fd : FuncData), mg nm = some (.ref f) ∧ Fun K nm qual st f fd ∧ Binds K fd ps []
/-- .. with its mirror -/
structure CallD (P : Program) (w : World) (K : PySem.W.Frag) (mg : Str → Option Value) (base : Heap) (T : List (Addr × Str)) (nm : Str) (k : Nat) (ps : List Str) (io : List Nat) (g : List D → RD) : Prop where
  out : ∃ (f : Addr) (fd : FuncData), mg nm = some (.ref f) ∧ PySem.W.keepIn K (.ref f) = true ∧ Binds K fd ps [] ∧ DFn P w K mg base T k f fd ps io g
section
variable {P : Program} {w : World} {K : PySem.W.Frag} {mg : Str → Option Value} {base : Heap} {T : List (Addr × Str)} {nm qual : Str} {st : Stmt} {N ps : List Str} {io : List Nat} {k : Nat} {fb : M Fl}
theorem dfn_mk (F : FnAt K mg nm qual st ps) (S : FnScope N ps (defScope st))
    (hb : ∀ (f : Addr) (cd : Value) (A : Around) (outer : List Env) (s : Shared) (H : Hp) (E : XK) (H0 : Hp) (A0 : Addr → Prop) (ios : List (Nat × Addr)) (W : WX), Ok (cxD P w K mg base N qual (defScope st) f cd A outer s H E) ⟨⟨K, mg, T⟩, H0, A0, ios⟩ W k → ios.map (·.1) = io →
      DB (cxD P w K mg base N qual (defScope st) f cd A outer s H E) ⟨⟨K, mg, T⟩, H0, A0, ios⟩ W (defBody st) fb) : CallD P w K mg base T nm (k + 1) ps io (mDef N.length io fb) := by
  obtain ⟨f, fd, hm, F, hbd⟩ := F.out
  refine ⟨f, fd, hm, F.kp, hbd, dfn_of F S fun cd A outer s H E c W o hT hio _ => ?_⟩
  obtain ⟨⟨K', mg', T'⟩, H0, A0, ios⟩ := c
  have e1 : K' = K := o.hK
  have e2 : mg' = mg := o.hmg
  have e3 : T' = T := hT
  subst e1 e2 e3
  exact hb f cd A outer s H E H0 A0 ios W o hio
end
theorem nio {ios : List (Nat × Addr)} {io : List Nat} {i : Nat} (h : ios.map (·.1) = io) (hi : i ∉ io) : ∀ p ∈ ios, p.1 ≠ i := fun p hp e => hi (by rw [← h, ← e]; exact List.mem_map_of_mem (f := (·.1)) hp)
theorem nios {ios : List (Nat × Addr)} {io l : List Nat} (h : ios.map (·.1) = io) (hi : ∀ i ∈ io, i ∉ l) : ∀ p ∈ ios, p.1 ∉ l := fun p hp => hi p.1 (by rw [← h]; exact List.mem_map_of_mem (f := (·.1)) hp)
section
variable {X : Cx} {c : Ct} {W : WX} {k : Nat}
theorem Ok.blk (o : Ok X c W k) (s : Shared) (H : Hp) (scope : Scope) (cenv : Env) (fp : List Addr) : Ok (X.blk s H scope cenv fp) c noW k :=
  ⟨o.hK, o.hmg, o.calm, o.room, o.gd, takes_no, PassesOwn.never, o.nd⟩
theorem Ok.units (o : Ok X c W k) : X.A.units + 64 < cLine := by have := o.room.un; omega
variable {nm : Str} {kf : Nat} {ps : List Str} {io : List Nat} {g : List D → RD} {p pos : Pos} {e : Expr} {es : List Expr} {fs : M (List AK)}
theorem de_own (F : CallD X.prog X.w X.K X.mg X.base c.T nm kf ps io g) (o : Ok X c W k) (hk : kf ≤ k) (hg : Gl X nm) (ha : DA X c W (e :: es) fs) (hdb : (nm == ("__debug__" : Str)) = false := by decide) (he : starEach (e :: es) X.env = (false, eval e X.env) :: starEach es X.env := by rfl) (hpl : (backTo pos (starEach es X.env)).any (·.1) = false := by rfl) :
    DE X c W (.Call (.Name nm p) (e :: es) [] pos) (mCall ps.length io g fs) := by
  obtain ⟨f, fd, hm, hkp, hb, F⟩ := F.out
  exact de_call F o hk hg hm hkp hb ha hdb he hpl
theorem df_own (F : CallD X.prog X.w X.K X.mg X.base c.T nm kf ps io g) (o : Ok X c W k) (hk : kf ≤ k) (hg : Gl X nm) (ha : DA X c W (e :: es) fs) (hdb : (nm == ("__debug__" : Str)) = false := by decide) (he : starEach (e :: es) X.env = (false, eval e X.env) :: starEach es X.env := by rfl) (hpl : (backTo pos (starEach es X.env)).any (·.1) = false := by rfl) :
    DF X c W (.Call (.Name nm p) (e :: es) [] pos) (mCallN ps.length io g fs) := by
  obtain ⟨f, fd, hm, hkp, hb, F⟩ := F.out
  exact df_call F o hk hg hm hkp hb ha hdb he hpl
theorem de_own0 (F : CallD X.prog X.w X.K X.mg X.base c.T nm kf ps io g) (o : Ok X c W k) (hk : kf ≤ k) (hg : Gl X nm) (hdb : (nm == ("__debug__" : Str)) = false := by decide) :
    DE X c W (.Call (.Name nm p) [] [] pos) (mCall ps.length io g mNil) := by
  obtain ⟨f, fd, hm, hkp, hb, F⟩ := F.out
  exact de_call0 F o hk hg hm hkp hb hdb
theorem df_own0 (F : CallD X.prog X.w X.K X.mg X.base c.T nm kf ps io g) (o : Ok X c W k) (hk : kf ≤ k) (hg : Gl X nm) (hdb : (nm == ("__debug__" : Str)) = false := by decide) :
    DF X c W (.Call (.Name nm p) [] [] pos) (mCallN ps.length io g mNil) := by
  obtain ⟨f, fd, hm, hkp, hb, F⟩ := F.out
  exact df_call0 F o hk hg hm hkp hb hdb
/-! ### names of types, of classes -/
theorem de_ty {x : Str} {T : String} (hg : Gl X x) (hm : X.mg x = none) (hv : bootBuiltins x = some (.type T)) (hn : x ≠ "__name__" := by decide) (hd : (x == ("__debug__" : Str)) = false := by decide) : DE X c W (.Name x pos) (mPure (.ty T)) :=
  de_c (pe_bltn hg hm hv (show RelV (.ty T) (.type T) from rfl) hn hd) fun _ _ => by unfold Rep; rfl
theorem de_cls {x : Str} (o : Ok X c W k) (hg : Gl X x) (hm : ∃ C, X.mg x = some (.ref C)) (hd : (x == ("__debug__" : Str)) = false := by decide) : DE X c W (.Name x pos) (mPure (.cls x)) := by
  obtain ⟨C, hm⟩ := hm
  refine de_c (pe_glob hg hm (show RelV (.ref C) (.ref C) from rfl) hd) fun _ _ => ?_
  unfold Rep
  exact ⟨C, by rw [o.hmg]; exact hm, rfl⟩
/-! ### {} -/
theorem df_dct0 : DF X c W (.Dict [] [] pos) (mPure (.dct [])) := by
  refine ⟨_, pe_dnewK, fun x σ H Δ Q sr q p hp => ?_⟩
  obtain ⟨k, sr2, h0, nr⟩ := sr.alloc hp (Ex.new (o := .dK []) hp)
  exact q p _ _ k (sr2 (by rw [upd_same]; intro z; cases z)) h0 hp (fun z => z.2 rfl) nr ⟨[], upd_same, by unfold RepK; rfl⟩
theorem df_dcT0 : DF X c W (.Dict [] [] pos) (mPure (.dcT [])) := by
  refine ⟨_, pe_dnewT, fun x σ H Δ Q sr q p hp => ?_⟩
  obtain ⟨k, sr2, h0, nr⟩ := sr.alloc hp (Ex.new (o := .dT []) hp)
  exact q p _ _ k (sr2 (by rw [upd_same]; intro z; cases z)) h0 hp (fun z => z.2 rfl) nr ⟨[], upd_same, by unfold RepT; rfl⟩
end

/-! ### return of a name: an own object goes out with it -/
def mRetVar (i : Nat) : M Fl := fun Δ => match Δ[i]? with
  | some (.ow d) => .ok (.rf d) (Δ.set i .un)
  | some (.sh d) => .ok (.rt d) Δ
  | _ => .bad
section
variable {c : Ct} {x : Sx} {σ : L2.St} {H : Hp} {Δ : SD}
theorem SR.take (s : SR c x σ H Δ) {i : Nat} {a : Addr} {d : D} (hd : Δ[i]? = some (.ow d)) (ha : x.ρ i = some a) (hio : ∀ p ∈ c.io, p.1 ≠ i) :
    Kp x H ⟨x.Av, fun j => if j = i then none else x.ρ j⟩ H ∧ SR c ⟨x.Av, fun j => if j = i then none else x.ρ j⟩ σ H (Δ.set i .un) ∧ c.H0 a = none ∧ ¬ x.Av a ∧ (∀ j, (if j = i then none else x.ρ j) ≠ some a) ∧ Own c.toGc x.Av H a d := by
  obtain ⟨nav, nn, hor⟩ := s.ow i a ha
  have rho : ∀ {j b}, (if j = i then none else x.ρ j) = some b → j ≠ i ∧ x.ρ j = some b := fun {j b} q => by
    rcases rho_ne q with ⟨_, h⟩ | h
    · cases h
    · exact h
  have h0 : c.H0 a = none := by
    rcases hor with q | ⟨p, hp, e⟩
    · exact q
    · exact absurd (s.inj _ _ _ (by rw [← e]; exact s.ios p hp) ha) (hio p hp)
  have z := s.slot i
  rw [hd] at z
  obtain ⟨b, hb, _, ho⟩ := z
  rw [ha] at hb; cases hb
  refine ⟨⟨fun p o h _ _ => h, fun p h => h, fun j p h => .inl ⟨j, (rho h).2⟩, fun p h _ => h, fun p h => .inl h⟩, ?_, h0, nav, fun j q => (rho q).1 (s.inj _ _ _ (rho q).2 ha), ho⟩
  exact {
    len := by rw [List.length_set]; exact s.len
    base := s.base
    tab := s.tab
    trk := s.trk
    fr := s.fr
    av := s.av
    a0 := s.a0
    ow := fun j b q => s.ow j b (rho q).2
    inj := fun j l b q1 q2 => s.inj _ _ _ (rho q1).2 (rho q2).2
    slot := fun j => by
      by_cases e : j = i
      · subst e
        cases q : (Δ.set j SC.un)[j]? with
        | none => trivial
        | some w =>
          rw [List.getElem?_set_self (List.getElem?_eq_some_iff.mp hd).1] at q
          cases q; trivial
      · rw [List.getElem?_set_ne (Ne.symm e)]
        have z := s.slot j
        revert z
        cases Δ[j]? with
        | none => intro _; trivial
        | some w =>
          cases w with
          | un => intro _; trivial
          | sh d' => exact fun z => z
          | ow d' => exact fun ⟨b, z0, z1, z2⟩ => ⟨b, by show (if j = i then none else x.ρ j) = some b; rw [if_neg e]; exact z0, z1, z2⟩
    ios := fun p hp => by show (if p.1 = i then none else x.ρ p.1) = some p.2; rw [if_neg (hio p hp)]; exact s.ios p hp }
end
section
variable {X : Cx} {c : Ct} {W : WX} {i : Nat} {n : Str} {pos p1 : Pos}
theorem ds_retVar (hio : ∀ p ∈ c.io, p.1 ≠ i) (hN : X.N[i]? = some n) (hv : Vis X.env.scope n) (hd : (n == ("__debug__" : Str)) = false := by decide) (hcd : (n == ("__classdict__" : Str)) = false := by decide) :
    DS X c W (.Return (some (.Name n p1)) pos) (mRetVar i) := by
  refine ⟨_, ps_ret (pe_var hN hv hd hcd), fun x σ H Δ E sr q => ?_⟩
  have sl := sr.slot i
  unfold mRetVar at q
  cases e : Δ[i]? with
  | none => rw [e] at q; exact q.elim
  | some z =>
    rw [e] at q sl
    cases z with
    | un => exact q.elim
    | sh d =>
      obtain ⟨v, h1, h2⟩ := sl
      exact ⟨v, h1, q v σ x H (Kp.refl _ _) sr h2⟩
    | ow d =>
      obtain ⟨a, h0, h1, h2⟩ := sl
      obtain ⟨k, s2, z0, nav, nr, o⟩ := sr.take e h0 hio
      exact ⟨.ref a, h1, q a σ _ H k s2 z0 nav nr o⟩
end
end DL

namespace DL
open PySem L2
theorem bt_isinstance : bootBuiltins "isinstance" = some (.builtin "isinstance") := by decide +kernel
theorem bt_len : bootBuiltins "len" = some (.builtin "len") := by decide +kernel
theorem bt_all : bootBuiltins "all" = some (.builtin "all") := by decide +kernel
theorem bt_any : bootBuiltins "any" = some (.builtin "any") := by decide +kernel
theorem bt_max : bootBuiltins "max" = some (.builtin "max") := by decide +kernel
theorem bt_min : bootBuiltins "min" = some (.builtin "min") := by decide +kernel
theorem bt_sum : bootBuiltins "sum" = some (.builtin "sum") := by decide +kernel
theorem bt_abs : bootBuiltins "abs" = some (.builtin "abs") := by decide +kernel
theorem bt_repr : bootBuiltins "repr" = some (.builtin "repr") := by decide +kernel
theorem bt_int : bootBuiltins "int" = some (.type "int") := by decide +kernel
theorem bt_bool : bootBuiltins "bool" = some (.type "bool") := by decide +kernel
theorem bt_str : bootBuiltins "str" = some (.type "str") := by decide +kernel
theorem bt_list : bootBuiltins "list" = some (.type "list") := by decide +kernel
theorem bt_dict : bootBuiltins "dict" = some (.type "dict") := by decide +kernel
theorem bt_tuple : bootBuiltins "tuple" = some (.type "tuple") := by decide +kernel
section
variable {X : Cx} {c : Ct} {W : WX} {k : Nat} {e : Expr} {es : List Expr} {fs : M (List AK)} {p pos : Pos}
/-- a cut of a list, a tuple, a text -/
theorem sl_all {X : Cx} : SlR X (rSlD X.K) := (sl_list.or (sl_tup.or sl_str))
end
end DL

namespace DL
open PySem L2 PySem.Spec PyProof.Rows
section
variable {K : PySem.W.Frag} {h : Heap} {mg : Str → Option Value}
theorem fnat_mk {nm qual : Str} {st : Stmt} {ps : List Str} {f : Addr} {oc : Value} {od an : Option Addr} {osl : Array (Option Value)} {kV doc pm cdv ct : Value} (X : K.In h) (G : h.Ns mainGlobals mg)
    (a : PySem.W.nsIn K mainGlobals nm = some (some (.ref f))) (l : K.lookup f = some ⟨oc, od, .func (PySem.W.fnOf nm qual (defArgs st) (defBody st) (defScope st) .none kV doc pm an cdv ct), osl⟩) (c : PySem.W.codeIn K cdv qual = true) (k : PySem.W.keepIn K (.ref f) = true)
    (hb : ∀ (kV doc pm : Value) (an : Option Addr) (cdv ct : Value) (us : List Value), us.length = ps.length → bindArgs (PySem.W.fnOf nm qual (defArgs st) (defBody st) (defScope st) .none kV doc pm an cdv ct) ⟨us, []⟩ = pure (ps.zip us)) : FnAt K mg nm qual st ps :=
  ⟨f, _, PySem.W.mg_of X G a, fun_mk l c k, (fun_mk l c k).binds hb⟩
theorem bn_mk (X : K.In h) (G : h.Ns mainGlobals mg) (z1 : PySem.W.nsIn K mainGlobals "isinstance" = some none) (z2 : PySem.W.nsIn K mainGlobals "len" = some none) (z3 : PySem.W.nsIn K mainGlobals "all" = some none) (z4 : PySem.W.nsIn K mainGlobals "any" = some none) (z5 : PySem.W.nsIn K mainGlobals "max" = some none) (z6 : PySem.W.nsIn K mainGlobals "min" = some none)
    (z7 : PySem.W.nsIn K mainGlobals "sum" = some none) (z8 : PySem.W.nsIn K mainGlobals "abs" = some none) (z9 : PySem.W.nsIn K mainGlobals "range" = some none) (z10 : PySem.W.nsIn K mainGlobals "enumerate" = some none) (z11 : PySem.W.nsIn K mainGlobals "zip" = some none) (z12 : PySem.W.nsIn K mainGlobals "repr" = some none)
    (z13 : PySem.W.nsIn K mainGlobals "sorted" = some none) (z14 : PySem.W.nsIn K mainGlobals "int" = some none) (z15 : PySem.W.nsIn K mainGlobals "bool" = some none) (z16 : PySem.W.nsIn K mainGlobals "str" = some none) (z17 : PySem.W.nsIn K mainGlobals "list" = some none) (z18 : PySem.W.nsIn K mainGlobals "tuple" = some none)
    (z19 : PySem.W.nsIn K mainGlobals "dict" = some none) (z20 : PySem.W.nsIn K mainGlobals "set" = some none) : Bn mg :=
  ⟨PySem.W.mg_none_of X G z1, PySem.W.mg_none_of X G z2, PySem.W.mg_none_of X G z3, PySem.W.mg_none_of X G z4, PySem.W.mg_none_of X G z5, PySem.W.mg_none_of X G z6, PySem.W.mg_none_of X G z7, PySem.W.mg_none_of X G z8, PySem.W.mg_none_of X G z9, PySem.W.mg_none_of X G z10,
    PySem.W.mg_none_of X G z11, PySem.W.mg_none_of X G z12, PySem.W.mg_none_of X G z13, PySem.W.mg_none_of X G z14, PySem.W.mg_none_of X G z15, PySem.W.mg_none_of X G z16, PySem.W.mg_none_of X G z17, PySem.W.mg_none_of X G z18, PySem.W.mg_none_of X G z19, PySem.W.mg_none_of X G z20⟩
/-- a law's def, its mirror -/
theorem dfn_mk0 {P : Program} {w : World} {base : Heap} {nm qual : Str} {st : Stmt} {f : Addr} {fd : FuncData} {N ps : List Str} {io : List Nat} {k : Nat} {fb : M Fl} (F : Fun K nm qual st f fd) (S : FnScope N ps (defScope st))
    (hb : ∀ (cd : Value) (A : Around) (outer : List Env) (s : Shared) (H : Hp) (E : XK) (H0 : Hp) (A0 : Addr → Prop) (ios : List (Nat × Addr)) (W : WX), Ok (cxD P w K mg base N qual (defScope st) f cd A outer s H E) ⟨⟨K, mg, T⟩, H0, A0, ios⟩ W k → ios.map (·.1) = io →
      DB (cxD P w K mg base N qual (defScope st) f cd A outer s H E) ⟨⟨K, mg, T⟩, H0, A0, ios⟩ W (defBody st) fb) : DFn P w K mg base T (k + 1) f fd ps io (mDef N.length io fb) := by
  refine dfn_of F S fun cd A outer s H E c W o hT hio _ => ?_
  obtain ⟨⟨K', mg', T'⟩, H0, A0, ios⟩ := c
  have e1 : K' = K := o.hK
  have e2 : mg' = mg := o.hmg
  have e3 : T' = T := hT
  subst e1 e2 e3
  exact hb cd A outer s H E H0 A0 ios W o hio
end
end DL

namespace DL
open PySem L2 PySem.Spec PyProof.Rows
section
variable {X : Cx} {c : Ct} {W : WX} {k : Nat} {p pos p1 p2 p3 : Pos} {e : Expr} {fa : M AK}
theorem de_gint {x : Str} {n : Int} (hg : Gl X x) (hm : ∃ t, X.mg x = some (.int n t)) (hd : (x == ("__debug__" : Str)) = false := by decide) : DE X c W (.Name x pos) (mPure (.int n)) := by
  obtain ⟨t, hm⟩ := hm
  exact de_c (pe_glob hg hm (show RelV (.int n) (.int n t) from ⟨t, rfl⟩) hd) fun _ _ => by unfold Rep; rfl
theorem de_gstr {x n : Str} (hg : Gl X x) (hm : ∃ t, X.mg x = some (.str n t)) (hd : (x == ("__debug__" : Str)) = false := by decide) : DE X c W (.Name x pos) (mPure (.str n)) := by
  obtain ⟨t, hm⟩ := hm
  exact de_c (pe_glob hg hm (show RelV (.str n) (.str n t) from ⟨t, rfl⟩) hd) fun _ _ => by unfold Rep; rfl
/-- a list backwards -/
def dRev : D → Option D
  | .lst ds => some (.lst ds.reverse)
  | _ => none
theorem df_rev (o : Ok X c W k) (h : DO X c W e fa) {j : Nat} : DF X c W (.Subscript e (.Slice none none (some (.UnaryOp .USub (.Constant (.int 1) j p1) p2)) p3) pos) (mUn dRev fa) := by
  obtain ⟨t, pe, s⟩ := h.out
  refine ⟨_, pe_revL pe, fun x σ H Δ Q sr q => s x σ H Δ _ sr (q.bind fun a Δ1 q1 v x1 H1 k1 sr1 h1 => ?_)⟩
  obtain ⟨d, r, q2⟩ := Post.get sr1 h1 (q1.step k1 fun a Δ q => okF.step k1 q)
  cases d with
  | lst ds =>
    obtain ⟨l, vs, rfl, hh, rl⟩ := rep_lst r
    have q3 := Post.outN sr1 q2
    rw [← o.hK]
    exact ⟨l, vs, rfl, SqL.of hh, fun p hp => newLN hp rl.rev q3⟩
  | _ => exact q2.elim
/-! ### xs[::k], k of 1, -1 -/
def tStepL (K : PySem.W.Frag) (te : TE) (ts : TO) : TE := fun σ H Q => te σ H fun x H1 => ts σ H1 fun o H2 => ∃ (a : Addr) (xs : List V) (b : Bool), x = .ref a ∧ SqL K H2 a xs ∧ o = some (if b then 1 else -1) ∧ ∀ p, H2 p = none → Q (.ref p) (upd H2 p (.lst (if b then xs else xs.reverse)))
theorem pick_one (items : Array Value) : slicePick items none none (some 1) = items := by
  have e : slicePick items none none (some 1) = slicePick items none none none := rfl
  have h := slicePick_cut (its := items.toList) (lo := none) (hi := none)
  rw [e]
  rw [show items = items.toList.toArray from rfl, h]
  show (List.take (items.toList.length - 0) (List.drop 0 items.toList)).toArray = _
  rw [List.drop_zero, Nat.sub_zero, List.take_length]
theorem pe_stepL {e st : Expr} {te : TE} {ts : TO} (he : PE X e te) (hst : PO X (some st) ts)
    (hsub : ∀ o i, subscripted (.Slice none none (some st) p3) false o i = operate [o, i] (getItem o i) := by intro _ _; with_unfolding_all rfl) : PE X (.Subscript e (.Slice none none (some st) p3) pos) (tStepL X.K te ts) := by
  refine ⟨fun pins s σ H Q I h => ?_⟩
  refine Subscript_ (thn (he.run pins s σ H _ I h) fun v s1 ⟨x, H1, I1, r1, q1⟩ => ?_)
  refine wpAny_Slice (thn (po_none.run pins s1 σ H1 (fun o H2 => o = none ∧ H2 = H1) I1 ⟨rfl, rfl⟩) fun vl s2 ⟨l, H2, I2, pl, el, e2⟩ => ?_)
  subst el e2
  refine thn (po_none.run pins s2 σ H2 (fun o H3 => o = none ∧ H3 = H2) I2 ⟨rfl, rfl⟩) fun vu s3 ⟨u, H3, I3, pu, eu, e3⟩ => ?_
  subst eu e3
  refine thn (hst.run pins s3 σ H3 _ I3 q1) fun vs s4 ⟨o, H4, I4, ps, a, xs, b, ex, hx, eo, q⟩ => ?_
  subst ex eo
  cases r1
  have I5 : Inv X pins σ H4 { s4 with heap := s4.heap.push { cls := .type "slice", data := .fields #[vl, vu, vs] } } := I4.kept (t' := s4.toks) fun b ob q => Heap.get?_push_of_some _ q
  obtain ⟨its, r, ht, hz⟩ := I5.list hx
  have hlen := r.length
  refine tail_any (ops := [.ref a, .ref s4.heap.objs.size]) ht.isList.typeIs (PySem.slot_list_getitem.lookup) ?_ (hsub _ _)
  refine wpAny_getItem_list_slice ht.isList (Heap.IsSliceOf.new _ vl vu vs) pl pu ps (by cases b <;> decide) ?_ (by rw [List.size_toArray]; omega)
  cases b with
  | false =>
    have e1 : slicePick its.toArray none none (some (if false = true then 1 else -1)) = its.reverse.toArray := PySem.W.krv_pick _
    rw [e1]
    refine ⟨.ref _, _, I5.laid (t' := s4.toks) (o := .lst xs.reverse) (fun b ob q => Heap.get?_push_of_some _ q) (Nat.le_refl _) ?_, rfl, q _ (I5.hok.fresh (Nat.le_refl _))⟩
    exact ⟨by rw [List.length_reverse]; exact hz, _, 0, r.reverse, Heap.get?_push_size _ rfl⟩
  | true =>
    have e1 : slicePick its.toArray none none (some (if true = true then 1 else -1)) = its.toArray := pick_one _
    rw [e1]
    refine ⟨.ref _, _, I5.laid (t' := s4.toks) (o := .lst xs) (fun b ob q => Heap.get?_push_of_some _ q) (Nat.le_refl _) ?_, rfl, q _ (I5.hok.fresh (Nat.le_refl _))⟩
    exact ⟨hz, _, 0, r, Heap.get?_push_size _ rfl⟩
def dStep : D → Option Int → Option D
  | .lst ds, some 1 => some (.lst ds)
  | .lst ds, some (-1) => some (.lst ds.reverse)
  | _, _ => none
def mStep (fa : M AK) (fs : M (Option Int)) : M D := mBind fa fun a => mBind fs fun o => mBind (mGet a) fun d => mOpt (dStep d o)
theorem dStep_some {d e : D} {o : Option Int} (h : dStep d o = some e) : ∃ (ds : List D) (b : Bool), d = .lst ds ∧ o = some (if b then 1 else -1) ∧ e = .lst (if b then ds else ds.reverse) := by
  unfold dStep at h
  split at h
  · cases h; exact ⟨_, true, rfl, rfl, rfl⟩
  · cases h; exact ⟨_, false, rfl, rfl, rfl⟩
  · cases h
theorem df_step {st : Expr} {fs : M (Option Int)} (o : Ok X c W k) (h : DO X c W e fa) (hs : DP X c W (some st) fs)
    (hsub : ∀ o i, subscripted (.Slice none none (some st) p3) false o i = operate [o, i] (getItem o i) := by intro _ _; with_unfolding_all rfl) : DF X c W (.Subscript e (.Slice none none (some st) p3) pos) (mStep fa fs) := by
  obtain ⟨t, pe, s⟩ := h.out
  obtain ⟨u, po, s2⟩ := hs.out
  refine ⟨_, pe_stepL pe po hsub, fun x σ H Δ Q sr q => s x σ H Δ _ sr (q.bind fun a Δ1 q1 v x1 H1 k1 sr1 h1 => ?_)⟩
  refine s2 x1 σ H1 Δ1 _ sr1 ((q1.step k1 fun a Δ q => okF.step k1 q).bind fun w Δ2 q2 x2 H2 k2 sr2 => ?_)
  obtain ⟨d, r, q3⟩ := Post.get sr2 (h1.kp sr1 k2) (q2.step k2 fun a Δ q => okF.step k2 q)
  cases ed : dStep d w with
  | none => rw [ed] at q3; exact q3.elim
  | some e' =>
    rw [ed] at q3
    obtain ⟨ds, b, rfl, rfl, rfl⟩ := dStep_some ed
    obtain ⟨l, vs, rfl, hh, rl⟩ := rep_lst r
    have q4 := Post.outN sr2 q3
    rw [← o.hK]
    refine ⟨l, vs, b, rfl, SqL.of hh, rfl, fun p hp => ?_⟩
    cases b with
    | true => exact newLN hp rl q4
    | false => exact newLN hp rl.rev q4
end
end DL

namespace DL
open PySem L2
abbrev EX := Str → Option D → SD → Prop
/-- what is wanted of an answer; given as an instance, so that simp leaves it alone -/
class Ko (α : Type) where
  ok : α → SD → Prop
  ex : EX
class Kr where
  ok : D → Bool → List D → Prop
  ex : Str → Option D → List D → Prop
class K1 (T : Type) where
  k : T → Prop
class K2 where
  k : D → SD → Prop
class K3 where
  k : List D → List (Nat × Nat) → Prop
@[irreducible] def wp {α : Type} (f : M α) (Δ : SD) [K : Ko α] : Prop := match f Δ with
  | .ok a Δ' => K.ok a Δ'
  | .ex n d Δ' => K.ex n d Δ'
  | .bad => False
/-- of a def's answer -/
@[irreducible] def wpR (r : RD) [K : Kr] : Prop := match r with
  | .ok d fr es => K.ok d fr es
  | .ex n d es => K.ex n d es
  | .bad => False
section
variable {α β : Type} {f : M α} {g : α → M β} {Δ : SD} {P : α → SD → Prop} {R : β → SD → Prop} {E : EX}
theorem wp_ext {P' : α → SD → Prop} (h : ∀ a Δ1, P a Δ1 = P' a Δ1) : wp f Δ (K := ⟨P, E⟩) = wp f Δ (K := ⟨P', E⟩) := by
  have e : P = P' := funext fun a => funext fun Δ1 => h a Δ1
  rw [e]
theorem wp_mono {P' : α → SD → Prop} {E' : EX} (h : wp f Δ (K := ⟨P, E⟩)) (k : ∀ a Δ', P a Δ' → P' a Δ') (ke : ∀ n d Δ', E n d Δ' → E' n d Δ') : wp f Δ (K := ⟨P', E'⟩) := by
  unfold wp at h ⊢
  generalize f Δ = r at h ⊢
  cases r with
  | ok a Δ' => exact k a Δ' h
  | ex n d Δ' => exact ke n d Δ' h
  | bad => exact h
theorem wpR_mono {r : RD} {Q Q' : D → Bool → List D → Prop} {F F' : Str → Option D → List D → Prop} (h : wpR r (K := ⟨Q, F⟩)) (k : ∀ d fr es, Q d fr es → Q' d fr es) (ke : ∀ n d es, F n d es → F' n d es) : wpR r (K := ⟨Q', F'⟩) := by
  unfold wpR at h ⊢
  cases r with
  | ok d fr es => exact k d fr es h
  | ex n d es => exact ke n d es h
  | bad => exact h
/-- no exception is awaited -/
abbrev noE : EX := fun _ _ _ => False
abbrev noF : Str → Option D → List D → Prop := fun _ _ _ => False
theorem wpR_use {r : RD} {Q Q' : D → Bool → List D → Prop} {F' : Str → Option D → List D → Prop} (h : wpR r (K := ⟨Q, noF⟩)) (k : ∀ d fr es, Q d fr es → Q' d fr es) : wpR r (K := ⟨Q', F'⟩) := wpR_mono h k fun _ _ _ z => z.elim
@[simp] theorem wp_pure {a : α} : wp (mPure a) Δ (K := ⟨P, E⟩) = P a Δ := by unfold wp; rfl
@[simp] theorem wp_bad : wp (mBad : M α) Δ (K := ⟨P, E⟩) = False := by unfold wp; rfl
@[simp] theorem wp_bind : wp (mBind f g) Δ (K := ⟨R, E⟩) = wp f Δ (K := ⟨(fun a Δ' => wp (g a) Δ' (K := ⟨R, E⟩)), E⟩) := by
  unfold wp mBind
  cases f Δ <;> rfl
@[simp] theorem wp_optS {a : α} : wp (mOpt (some a)) Δ (K := ⟨P, E⟩) = P a Δ := by unfold wp; rfl
@[simp] theorem wp_optN : wp (mOpt (none : Option α)) Δ (K := ⟨P, E⟩) = False := by unfold wp; rfl
@[simp] theorem wp_optIf {c : Prop} [Decidable c] {x y : Option α} : wp (mOpt (if c then x else y)) Δ (K := ⟨P, E⟩) = if c then wp (mOpt x) Δ (K := ⟨P, E⟩) else wp (mOpt y) Δ (K := ⟨P, E⟩) := by
  by_cases h : c <;> simp [h]
@[simp] theorem wp_optMap {o : Option α} {h : α → β} : wp (mOpt (o.map h)) Δ (K := ⟨R, E⟩) = wp (mOpt o) Δ (K := ⟨(fun a => R (h a)), E⟩) := by
  cases o <;> (unfold wp; rfl)
@[simp] theorem wp_optBind {o : Option α} {h : α → Option β} : wp (mOpt (o.bind h)) Δ (K := ⟨R, E⟩) = wp (mOpt o) Δ (K := ⟨(fun a Δ' => wp (mOpt (h a)) Δ' (K := ⟨R, E⟩)), E⟩) := by
  cases o <;> (unfold wp; rfl)
theorem wp_opt {o : Option α} : wp (mOpt o) Δ (K := ⟨P, E⟩) = ∃ a, o = some a ∧ P a Δ := by
  cases o with
  | none => simp
  | some a => simp
@[simp] theorem rd_sh {d : D} : SC.rd (some (.sh d)) = some d := (rfl)
@[simp] theorem rd_ow {d : D} : SC.rd (some (.ow d)) = some d := (rfl)
@[simp] theorem rd_un : SC.rd (some .un) = none := (rfl)
@[simp] theorem rd_none : SC.rd none = none := (rfl)
end
/-- reads, by what a slot holds -/
def onRd (o : Option D) [K : K1 D] : Prop := match o with
  | some d => K.k d
  | none => False
@[simp] theorem onRd_some {d : D} {P : D → Prop} : onRd (some d) (K := ⟨P⟩) = P d := (rfl)
@[simp] theorem onRd_none {P : D → Prop} : onRd none (K := ⟨P⟩) = False := (rfl)
section
variable {Δ : SD} {E : EX}
@[simp] theorem wp_getV {d : D} {P : D → SD → Prop} : wp (mGet (.v d)) Δ (K := ⟨P, E⟩) = P d Δ := by unfold wp; rfl
@[simp] theorem wp_getS {i : Nat} {P : D → SD → Prop} : wp (mGet (.s i)) Δ (K := ⟨P, E⟩) = onRd (SC.rd Δ[i]?) (K := ⟨fun d => P d Δ⟩) := by
  have e : mGet (.s i) Δ = match SC.rd Δ[i]? with
    | some d => .ok d Δ
    | none => .bad := (rfl)
  unfold wp
  rw [e]
  cases SC.rd Δ[i]? <;> rfl
@[simp] theorem wp_getsN {P : List D → SD → Prop} : wp (mGets []) Δ (K := ⟨P, E⟩) = P [] Δ := by unfold wp; rfl
@[simp] theorem wp_getsC {a : AK} {as : List AK} {P : List D → SD → Prop} : wp (mGets (a :: as)) Δ (K := ⟨P, E⟩) = wp (mGet a) Δ (K := ⟨(fun d Δ' => wp (mGets as) Δ' (K := ⟨(fun ds Δ2 => P (d :: ds) Δ2), E⟩)), E⟩) := by
  show wp (mBind (mGet a) fun d => mBind (mGets as) fun ds => mPure (d :: ds)) Δ (K := ⟨P, E⟩) = _
  repeat (first | rfl | rw [wp_bind] | rw [wp_pure] | refine wp_ext fun _ _ => ?_)
@[simp] theorem wp_slot {i : Nat} {P : AK → SD → Prop} : wp (mSlot i) Δ (K := ⟨P, E⟩) = onRd (SC.rd Δ[i]?) (K := ⟨fun _ => P (.s i) Δ⟩) := by
  have e : mSlot i Δ = match SC.rd Δ[i]? with
    | some _ => .ok (.s i) Δ
    | none => .bad := (rfl)
  unfold wp
  rw [e]
  cases SC.rd Δ[i]? <;> rfl
@[simp] theorem wp_v {f : M D} {P : AK → SD → Prop} : wp (mV f) Δ (K := ⟨P, E⟩) = wp f Δ (K := ⟨(fun d Δ' => P (.v d) Δ'), E⟩) := by
  unfold mV
  repeat (first | rfl | rw [wp_bind] | rw [wp_pure] | refine wp_ext fun _ _ => ?_)
@[simp] theorem wp_nil {P : List AK → SD → Prop} : wp mNil Δ (K := ⟨P, E⟩) = P [] Δ := by unfold wp; rfl
@[simp] theorem wp_cons {f : M AK} {r : M (List AK)} {P : List AK → SD → Prop} : wp (mCons f r) Δ (K := ⟨P, E⟩) = wp f Δ (K := ⟨(fun a Δ' => wp r Δ' (K := ⟨(fun as Δ2 => P (a :: as) Δ2), E⟩)), E⟩) := by
  unfold mCons
  repeat (first | rfl | rw [wp_bind] | rw [wp_pure] | refine wp_ext fun _ _ => ?_)
@[simp] theorem wp_valsN {P : List D → SD → Prop} : wp (mVals []) Δ (K := ⟨P, E⟩) = P [] Δ := by unfold wp; rfl
@[simp] theorem wp_valsC {d : D} {as : List AK} {P : List D → SD → Prop} : wp (mVals (.v d :: as)) Δ (K := ⟨P, E⟩) = wp (mVals as) Δ (K := ⟨(fun ds Δ2 => P (d :: ds) Δ2), E⟩) := by
  show wp (mBind (mVals as) fun ds => mPure (d :: ds)) Δ (K := ⟨P, E⟩) = _
  repeat (first | rfl | rw [wp_bind] | rw [wp_pure] | refine wp_ext fun _ _ => ?_)
/-- a name read for good -/
def onVar (o : Option SC) (Δ : SD) (i : Nat) [K : K2] : Prop := match o with
  | some (.sh d) => K.k d Δ
  | some (.ow d) => K.k d (Δ.set i (.sh d))
  | _ => False
@[simp] theorem onVar_sh {d : D} {i : Nat} {P : D → SD → Prop} : onVar (some (.sh d)) Δ i (K := ⟨P⟩) = P d Δ := (rfl)
@[simp] theorem onVar_ow {d : D} {i : Nat} {P : D → SD → Prop} : onVar (some (.ow d)) Δ i (K := ⟨P⟩) = P d (Δ.set i (.sh d)) := (rfl)
@[simp] theorem wp_var {i : Nat} {P : D → SD → Prop} : wp (mVar i) Δ (K := ⟨P, E⟩) = onVar Δ[i]? Δ i (K := ⟨P⟩) := by
  unfold wp mVar onVar
  cases Δ[i]? with
  | none => rfl
  | some z => cases z <;> rfl
@[simp] theorem wp_op {g : D → D → Option D} {fa fb : M AK} {P : D → SD → Prop} : wp (mOp g fa fb) Δ (K := ⟨P, E⟩) = wp fa Δ (K := ⟨(fun a Δ1 => wp fb Δ1 (K := ⟨(fun b Δ2 => wp (mGet a) Δ2 (K := ⟨(fun x Δ3 => wp (mGet b) Δ3 (K := ⟨(fun y Δ4 => wp (mOpt (g x y)) Δ4 (K := ⟨P, E⟩)), E⟩)), E⟩)), E⟩)), E⟩) := by
  unfold mOp
  repeat (first | rfl | rw [wp_bind] | rw [wp_pure] | refine wp_ext fun _ _ => ?_)
@[simp] theorem wp_un {g : D → Option D} {fa : M AK} {P : D → SD → Prop} : wp (mUn g fa) Δ (K := ⟨P, E⟩) = wp fa Δ (K := ⟨(fun a Δ1 => wp (mGet a) Δ1 (K := ⟨(fun x Δ3 => wp (mOpt (g x)) Δ3 (K := ⟨P, E⟩)), E⟩)), E⟩) := by
  unfold mUn
  repeat (first | rfl | rw [wp_bind] | rw [wp_pure] | refine wp_ext fun _ _ => ?_)
@[simp] theorem wp_cb {g : List D → Option D} {fs : M (List AK)} {P : D → SD → Prop} : wp (mCb g fs) Δ (K := ⟨P, E⟩) = wp fs Δ (K := ⟨(fun as Δ1 => wp (mGets as) Δ1 (K := ⟨(fun ds Δ3 => wp (mOpt (g ds)) Δ3 (K := ⟨P, E⟩)), E⟩)), E⟩) := by
  unfold mCb
  repeat (first | rfl | rw [wp_bind] | rw [wp_pure] | refine wp_ext fun _ _ => ?_)
@[simp] theorem wp_ite {α : Type} {c : Prop} [Decidable c] {f g : M α} {P : α → SD → Prop} : wp (if c then f else g) Δ (K := ⟨P, E⟩) = if c then wp f Δ (K := ⟨P, E⟩) else wp g Δ (K := ⟨P, E⟩) := by
  by_cases h : c <;> simp [h]
@[simp] theorem wp_lst {f : M (List AK)} {P : D → SD → Prop} : wp (mLst f) Δ (K := ⟨P, E⟩) = wp f Δ (K := ⟨(fun as Δ1 => wp (mVals as) Δ1 (K := ⟨(fun ds Δ2 => ds.length ≤ lim ∧ P (.lst ds) Δ2), E⟩)), E⟩) := by
  unfold mLst
  rw [wp_bind]
  refine wp_ext fun as Δ1 => ?_
  rw [wp_bind]
  refine wp_ext fun ds Δ2 => ?_
  by_cases h : ds.length ≤ lim <;> simp [h]
@[simp] theorem wp_tup {f : M (List AK)} {P : D → SD → Prop} : wp (mTup f) Δ (K := ⟨P, E⟩) = wp f Δ (K := ⟨(fun as Δ1 => wp (mVals as) Δ1 (K := ⟨(fun ds Δ2 => ds.length ≤ lim ∧ P (.tup ds) Δ2), E⟩)), E⟩) := by
  unfold mTup
  rw [wp_bind]
  refine wp_ext fun as Δ1 => ?_
  rw [wp_bind]
  refine wp_ext fun ds Δ2 => ?_
  by_cases h : ds.length ≤ lim <;> simp [h]
@[simp] theorem wp_part {f : M AK} {P : Option Int → SD → Prop} : wp (mPart f) Δ (K := ⟨P, E⟩) = wp f Δ (K := ⟨(fun a Δ1 => wp (mGet a) Δ1 (K := ⟨(fun d Δ2 => wp (mOpt (asInt d)) Δ2 (K := ⟨P, E⟩)), E⟩)), E⟩) := by
  unfold mPart
  repeat (first | rfl | rw [wp_bind] | rw [wp_pure] | refine wp_ext fun _ _ => ?_)
@[simp] theorem wp_cut {g : D → Option Int → Option Int → Option D} {fa : M AK} {fl fh : M (Option Int)} {P : D → SD → Prop} : wp (mCut g fa fl fh) Δ (K := ⟨P, E⟩) = wp fa Δ (K := ⟨(fun a Δ1 => wp fl Δ1 (K := ⟨(fun l Δ2 => wp fh Δ2 (K := ⟨(fun h Δ3 => wp (mGet a) Δ3 (K := ⟨(fun d Δ4 => wp (mOpt (g d l h)) Δ4 (K := ⟨P, E⟩)), E⟩)), E⟩)), E⟩)), E⟩) := by
  unfold mCut
  repeat (first | rfl | rw [wp_bind] | rw [wp_pure] | refine wp_ext fun _ _ => ?_)
@[simp] theorem wp_tru {f : M AK} {P : Bool → SD → Prop} : wp (mTru f) Δ (K := ⟨P, E⟩) = wp f Δ (K := ⟨(fun a Δ1 => wp (mGet a) Δ1 (K := ⟨(fun d Δ2 => wp (mOpt (truD d)) Δ2 (K := ⟨P, E⟩)), E⟩)), E⟩) := by
  unfold mTru
  repeat (first | rfl | rw [wp_bind] | rw [wp_pure] | refine wp_ext fun _ _ => ?_)
@[simp] theorem wp_bl {f : M D} {P : Bool → SD → Prop} : wp (mBl f) Δ (K := ⟨P, E⟩) = wp f Δ (K := ⟨(fun d Δ1 => wp (mOpt (asBl d)) Δ1 (K := ⟨P, E⟩)), E⟩) := by
  unfold mBl
  repeat (first | rfl | rw [wp_bind] | rw [wp_pure] | refine wp_ext fun _ _ => ?_)
@[simp] theorem wp_and {f g : M Bool} {P : Bool → SD → Prop} : wp (mAnd f g) Δ (K := ⟨P, E⟩) = wp f Δ (K := ⟨(fun b Δ1 => if b = true then wp g Δ1 (K := ⟨P, E⟩) else P false Δ1), E⟩) := by
  unfold mAnd
  repeat (first | rfl | rw [wp_bind] | rw [wp_pure] | refine wp_ext fun _ _ => ?_)
  simp
@[simp] theorem wp_or {f g : M Bool} {P : Bool → SD → Prop} : wp (mOr f g) Δ (K := ⟨P, E⟩) = wp f Δ (K := ⟨(fun b Δ1 => if b = true then P true Δ1 else wp g Δ1 (K := ⟨P, E⟩)), E⟩) := by
  unfold mOr
  repeat (first | rfl | rw [wp_bind] | rw [wp_pure] | refine wp_ext fun _ _ => ?_)
  simp
@[simp] theorem wp_not {f : M Bool} {P : Bool → SD → Prop} : wp (mNot f) Δ (K := ⟨P, E⟩) = wp f Δ (K := ⟨(fun b Δ1 => P (!b) Δ1), E⟩) := by
  unfold mNot
  repeat (first | rfl | rw [wp_bind] | rw [wp_pure] | refine wp_ext fun _ _ => ?_)
@[simp] theorem wp_mite {α : Type} {t : M Bool} {f g : M α} {P : α → SD → Prop} : wp (mIte t f g) Δ (K := ⟨P, E⟩) = wp t Δ (K := ⟨(fun b Δ1 => if b = true then wp f Δ1 (K := ⟨P, E⟩) else wp g Δ1 (K := ⟨P, E⟩)), E⟩) := by
  unfold mIte
  repeat (first | rfl | rw [wp_bind] | rw [wp_pure] | refine wp_ext fun _ _ => ?_)
  simp
@[simp] theorem wp_andV {f g : M D} {P : D → SD → Prop} : wp (mAndV f g) Δ (K := ⟨P, E⟩) = wp f Δ (K := ⟨(fun d Δ1 => wp (mOpt (truD d)) Δ1 (K := ⟨(fun b Δ2 => if b = true then wp g Δ2 (K := ⟨P, E⟩) else P d Δ2), E⟩)), E⟩) := by
  unfold mAndV
  repeat (first | rfl | rw [wp_bind] | rw [wp_pure] | refine wp_ext fun _ _ => ?_)
  simp
@[simp] theorem wp_orV {f g : M D} {P : D → SD → Prop} : wp (mOrV f g) Δ (K := ⟨P, E⟩) = wp f Δ (K := ⟨(fun d Δ1 => wp (mOpt (truD d)) Δ1 (K := ⟨(fun b Δ2 => if b = true then P d Δ2 else wp g Δ2 (K := ⟨P, E⟩)), E⟩)), E⟩) := by
  unfold mOrV
  repeat (first | rfl | rw [wp_bind] | rw [wp_pure] | refine wp_ext fun _ _ => ?_)
  simp
@[simp] theorem wp_notV {f : M AK} {P : D → SD → Prop} : wp (mNotV f) Δ (K := ⟨P, E⟩) = wp (mTru f) Δ (K := ⟨(fun b Δ1 => P (.bl (!b)) Δ1), E⟩) := by
  unfold mNotV
  repeat (first | rfl | rw [wp_bind] | rw [wp_pure] | refine wp_ext fun _ _ => ?_)
@[simp] theorem wp_chain {g g' : D → D → Option D} {fa fb fc : M AK} {P : D → SD → Prop} : wp (mChain g g' fa fb fc) Δ (K := ⟨P, E⟩) = wp fa Δ (K := ⟨(fun a Δ1 => wp fb Δ1 (K := ⟨(fun b Δ2 => wp (mGet a) Δ2 (K := ⟨(fun x Δ3 => wp (mGet b) Δ3 (K := ⟨(fun y Δ4 => wp (mOpt (g x y)) Δ4 (K := ⟨(fun d Δ5 => wp (mOpt (asBl d)) Δ5 (K := ⟨(fun k Δ6 =>
    wp (if k = true then mBind fc fun c => mBind (mGet b) fun y => mBind (mGet c) fun z => mOpt (g' y z) else mPure (.bl false)) Δ6 (K := ⟨P, E⟩)), E⟩)), E⟩)), E⟩)), E⟩)), E⟩)), E⟩) := by
  unfold mChain
  repeat (first | rfl | rw [wp_bind] | rw [wp_pure] | refine wp_ext fun _ _ => ?_)
/-! statements -/
@[simp] theorem wp_nx {P : Fl → SD → Prop} : wp mNx Δ (K := ⟨P, E⟩) = P .nx Δ := by unfold wp; rfl
@[simp] theorem wp_seq {f g : M Fl} {P : Fl → SD → Prop} : wp (mSeq f g) Δ (K := ⟨P, E⟩) = wp f Δ (K := ⟨(fun fl Δ1 => match fl with
    | .nx => wp g Δ1 (K := ⟨P, E⟩)
    | fl => P fl Δ1), E⟩) := by
  unfold mSeq
  rw [wp_bind]
  refine wp_ext fun fl Δ1 => ?_
  cases fl <;> (unfold wp; rfl)
@[simp] theorem wp_ret {f : M D} {P : Fl → SD → Prop} : wp (mRet f) Δ (K := ⟨P, E⟩) = wp f Δ (K := ⟨(fun d Δ1 => P (.rt d) Δ1), E⟩) := by
  unfold mRet
  repeat (first | rfl | rw [wp_bind] | rw [wp_pure] | refine wp_ext fun _ _ => ?_)
@[simp] theorem wp_retF {f : M D} {P : Fl → SD → Prop} : wp (mRetF f) Δ (K := ⟨P, E⟩) = wp f Δ (K := ⟨(fun d Δ1 => P (.rf d) Δ1), E⟩) := by
  unfold mRetF
  repeat (first | rfl | rw [wp_bind] | rw [wp_pure] | refine wp_ext fun _ _ => ?_)
@[simp] theorem wp_retN {P : Fl → SD → Prop} : wp mRetN Δ (K := ⟨P, E⟩) = P (.rt .non) Δ := by unfold wp; rfl
@[simp] theorem wp_drop {α : Type} {f : M α} {P : Fl → SD → Prop} : wp (mDrop f) Δ (K := ⟨P, E⟩) = wp f Δ (K := ⟨(fun _ Δ1 => P .nx Δ1), E⟩) := by
  unfold mDrop
  repeat (first | rfl | rw [wp_bind] | rw [wp_pure] | refine wp_ext fun _ _ => ?_)
@[simp] theorem wp_set {i : Nat} {f : M D} {P : Fl → SD → Prop} : wp (mSet i f) Δ (K := ⟨P, E⟩) = wp f Δ (K := ⟨(fun d Δ1 => i < Δ1.length ∧ P .nx (Δ1.set i (.sh d))), E⟩) := by
  unfold mSet
  rw [wp_bind]
  refine wp_ext fun d Δ1 => ?_
  unfold wp
  by_cases h : i < Δ1.length <;> simp [h]
@[simp] theorem wp_setO {i : Nat} {f : M D} {P : Fl → SD → Prop} : wp (mSetO i f) Δ (K := ⟨P, E⟩) = wp f Δ (K := ⟨(fun d Δ1 => i < Δ1.length ∧ P .nx (Δ1.set i (.ow d))), E⟩) := by
  unfold mSetO
  rw [wp_bind]
  refine wp_ext fun d Δ1 => ?_
  unfold wp
  by_cases h : i < Δ1.length <;> simp [h]
@[simp] theorem wp_put2 {i j : Nat} {f1 f2 : Bool} {fa fb : M D} {P : Fl → SD → Prop} : wp (mPut2 i j f1 f2 fa fb) Δ (K := ⟨P, E⟩) = wp fa Δ (K := ⟨(fun a Δ1 => wp fb Δ1 (K := ⟨(fun b Δ2 => (i < Δ2.length ∧ j < Δ2.length) ∧ P .nx ((Δ2.set i (putQ f1 a)).set j (putQ f2 b))), E⟩)), E⟩) := by
  unfold mPut2
  rw [wp_bind]
  refine wp_ext fun a Δ1 => ?_
  rw [wp_bind]
  refine wp_ext fun b Δ2 => ?_
  unfold wp
  dsimp only
  by_cases h : i < Δ2.length ∧ j < Δ2.length
  · rw [if_pos h]; simp [h]
  · rw [if_neg h]; simp [h]
@[simp] theorem wp_put3 {i j l : Nat} {f1 f2 f3 : Bool} {fa fb fc : M D} {P : Fl → SD → Prop} : wp (mPut3 i j l f1 f2 f3 fa fb fc) Δ (K := ⟨P, E⟩) = wp fa Δ (K := ⟨(fun a Δ1 => wp fb Δ1 (K := ⟨(fun b Δ2 => wp fc Δ2 (K := ⟨(fun c Δ3 => (i < Δ3.length ∧ j < Δ3.length ∧ l < Δ3.length) ∧ P .nx (((Δ3.set i (putQ f1 a)).set j (putQ f2 b)).set l (putQ f3 c))), E⟩)), E⟩)), E⟩) := by
  unfold mPut3
  rw [wp_bind]
  refine wp_ext fun a Δ1 => ?_
  rw [wp_bind]
  refine wp_ext fun b Δ2 => ?_
  rw [wp_bind]
  refine wp_ext fun c Δ3 => ?_
  unfold wp
  dsimp only
  by_cases h : i < Δ3.length ∧ j < Δ3.length ∧ l < Δ3.length
  · rw [if_pos h]; simp [h]
  · rw [if_neg h]; simp [h]
@[simp] theorem putQ_true {d : D} : putQ true d = .ow d := (rfl)
@[simp] theorem putQ_false {d : D} : putQ false d = .sh d := (rfl)
@[simp] theorem wp_tg1 {i : Nat} {d : D} {P : Unit → SD → Prop} : wp (mTg1 i d) Δ (K := ⟨P, E⟩) = (i < Δ.length ∧ P () (Δ.set i (.sh d))) := by
  unfold wp mTg1
  by_cases h : i < Δ.length <;> simp [h]
@[simp] theorem wp_tgsN {P : Unit → SD → Prop} : wp (mTgs [] []) Δ (K := ⟨P, E⟩) = P () Δ := by unfold wp; rfl
@[simp] theorem wp_tgsC {t : D → M Unit} {ts : List (D → M Unit)} {d : D} {ds : List D} {P : Unit → SD → Prop} : wp (mTgs (t :: ts) (d :: ds)) Δ (K := ⟨P, E⟩) = wp (t d) Δ (K := ⟨(fun _ Δ1 => wp (mTgs ts ds) Δ1 (K := ⟨P, E⟩)), E⟩) := by
  show wp (mBind (t d) fun _ => mTgs ts ds) Δ (K := ⟨P, E⟩) = _
  repeat (first | rfl | rw [wp_bind] | rw [wp_pure] | refine wp_ext fun _ _ => ?_)
@[simp] theorem wp_tgT {ts : List (D → M Unit)} {ds : List D} {P : Unit → SD → Prop} : wp (mTgT ts (.tup ds)) Δ (K := ⟨P, E⟩) = wp (mTgs ts ds) Δ (K := ⟨P, E⟩) := by unfold wp; rfl
@[simp] theorem wp_tgL {ts : List (D → M Unit)} {ds : List D} {P : Unit → SD → Prop} : wp (mTgT ts (.lst ds)) Δ (K := ⟨P, E⟩) = wp (mTgs ts ds) Δ (K := ⟨P, E⟩) := by unfold wp; rfl
theorem tg_noex {t : D → M Unit} {d : D} : wp (t d) Δ (K := ⟨(fun _ _ => True), noE⟩) → ∃ Δ', t d Δ = .ok () Δ' := by
  unfold wp
  cases t d Δ with
  | ok a Δ' => exact fun _ => ⟨Δ', rfl⟩
  | ex n d Δ' => exact fun h => h.elim
  | bad => exact fun h => h.elim
@[simp] theorem wp_takeE {t : D → M Unit} {d : D} {P : Fl → SD → Prop} : wp (mTake t d) Δ (K := ⟨P, E⟩) = wp (t d) Δ (K := ⟨fun _ Δ1 => P .nx Δ1, noE⟩) := by
  unfold wp mTake
  cases e : t d Δ <;> rfl
@[simp] theorem wp_asgE {t : D → M Unit} {f : M D} {P : Fl → SD → Prop} : wp (mAsg t f) Δ (K := ⟨P, E⟩) = wp f Δ (K := ⟨fun d Δ1 => wp (t d) Δ1 (K := ⟨fun _ Δ2 => P .nx Δ2, noE⟩), E⟩) := by
  unfold mAsg
  rw [wp_bind]
  exact wp_ext fun d Δ1 => wp_takeE
theorem wp_take {t : D → M Unit} {d : D} {P : Fl → SD → Prop} (h : wp (t d) Δ (K := ⟨(fun _ Δ1 => P .nx Δ1), noE⟩)) : wp (mTake t d) Δ (K := ⟨P, E⟩) := by
  unfold wp mTake at *
  cases e : t d Δ with
  | ok a Δ' => rw [e] at h; exact h
  | ex n d Δ' => rw [e] at h; exact h.elim
  | bad => rw [e] at h; exact h.elim
theorem wp_asg {t : D → M Unit} {f : M D} {P : Fl → SD → Prop} (h : wp f Δ (K := ⟨(fun d Δ1 => wp (t d) Δ1 (K := ⟨(fun _ Δ2 => P .nx Δ2), noE⟩)), E⟩)) : wp (mAsg t f) Δ (K := ⟨P, E⟩) := by
  unfold mAsg
  rw [wp_bind]
  exact wp_mono h (fun d Δ1 q => wp_take q) fun _ _ _ z => z
/-- a slot's own object -/
def onOw (o : Option SC) [K : K1 D] : Prop := match o with
  | some (.ow d) => K.k d
  | _ => False
@[simp] theorem onOw_ow {d : D} {P : D → Prop} : onOw (some (.ow d)) (K := ⟨P⟩) = P d := (rfl)
@[simp] theorem onOw_sh {d : D} {P : D → Prop} : onOw (some (.sh d)) (K := ⟨P⟩) = False := (rfl)
@[simp] theorem onOw_un {P : D → Prop} : onOw (some .un) (K := ⟨P⟩) = False := (rfl)
@[simp] theorem wp_hold {p : D → Bool} {i : Nat} {P : Unit → SD → Prop} : wp (mHold p i) Δ (K := ⟨P, E⟩) = onOw Δ[i]? (K := ⟨fun d => p d = true ∧ P () Δ⟩) := by
  unfold wp mHold onOw
  cases Δ[i]? with
  | none => rfl
  | some z =>
    cases z with
    | ow d => by_cases h : p d = true <;> simp [h]
    | sh d => rfl
    | un => rfl
@[simp] theorem wp_upd {α : Type} {i : Nat} {g : D → Option (α × D)} {P : α → SD → Prop} : wp (mUpd i g) Δ (K := ⟨P, E⟩) = onOw Δ[i]? (K := ⟨fun d => wp (mOpt (g d)) Δ (K := ⟨(fun r Δ' => P r.1 (Δ.set i (.ow r.2))), E⟩)⟩) := by
  unfold wp mUpd onOw
  cases Δ[i]? with
  | none => rfl
  | some z =>
    cases z with
    | ow d =>
      dsimp only
      cases g d with
      | none => rfl
      | some r => rfl
    | sh d => rfl
    | un => rfl
@[simp] theorem wp_app {i : Nat} {f : M D} {P : D → SD → Prop} : wp (mApp i f) Δ (K := ⟨P, E⟩) = wp (mHold isLst i) Δ (K := ⟨(fun _ Δ1 => wp f Δ1 (K := ⟨(fun d Δ2 => wp (mUpd i (gApp d)) Δ2 (K := ⟨(fun _ Δ3 => P .non Δ3), E⟩)), E⟩)), E⟩) := by
  unfold mApp
  repeat (first | rfl | rw [wp_bind] | rw [wp_pure] | refine wp_ext fun _ _ => ?_)
@[simp] theorem wp_setIx {i : Nat} {g : D → D → D → Option D} {fe : M D} {fk : M AK} {P : Fl → SD → Prop} : wp (mSetIx i g fe fk) Δ (K := ⟨P, E⟩) = wp fe Δ (K := ⟨(fun v Δ1 => wp (mHold (fun _ => true) i) Δ1 (K := ⟨(fun _ Δ2 => wp fk Δ2 (K := ⟨(fun a Δ3 => wp (mGet a) Δ3 (K := ⟨(fun k Δ4 => wp (mUpd i fun d => (g d k v).map fun d' => ((), d')) Δ4 (K := ⟨(fun _ Δ5 => P .nx Δ5), E⟩)), E⟩)), E⟩)), E⟩)), E⟩) := by
  unfold mSetIx
  repeat (first | rfl | rw [wp_bind] | rw [wp_pure] | refine wp_ext fun _ _ => ?_)
@[simp] theorem wp_mext {i : Nat} {fb : M AK} {P : Fl → SD → Prop} : wp (mExt i fb) Δ (K := ⟨P, E⟩) = wp (mHold isLst i) Δ (K := ⟨(fun _ Δ1 => wp fb Δ1 (K := ⟨(fun b Δ2 => wp (mGet b) Δ2 (K := ⟨(fun y Δ3 => wp (mUpd i (gExt y)) Δ3 (K := ⟨(fun _ Δ4 => P .nx Δ4), E⟩)), E⟩)), E⟩)), E⟩) := by
  unfold mExt
  repeat (first | rfl | rw [wp_bind] | rw [wp_pure] | refine wp_ext fun _ _ => ?_)
/-- a slot's shared data -/
def onSh (o : Option SC) [K : K1 D] : Prop := match o with
  | some (.sh d) => K.k d
  | _ => False
@[simp] theorem onSh_sh {d : D} {P : D → Prop} : onSh (some (.sh d)) (K := ⟨P⟩) = P d := (rfl)
@[simp] theorem wp_aug {i : Nat} {g : D → D → Option D} {fb : M AK} {P : Fl → SD → Prop} : wp (mAug g i fb) Δ (K := ⟨P, E⟩) = onSh Δ[i]? (K := ⟨fun dx => wp fb Δ (K := ⟨(fun b Δ1 => wp (mGet b) Δ1 (K := ⟨(fun dy Δ2 => wp (mOpt (g dx dy)) Δ2 (K := ⟨(fun z Δ3 => i < Δ3.length ∧ P .nx (Δ3.set i (.sh z))), E⟩)), E⟩)), E⟩)⟩) := by
  have key : ∀ (dx : D), wp (mBind fb (fun b => mBind (mGet b) fun dy => mBind (mOpt (g dx dy)) fun z Δ' => if i < Δ'.length then .ok .nx (Δ'.set i (.sh z)) else .bad)) Δ (K := ⟨P, E⟩) = wp fb Δ (K := ⟨(fun b Δ1 => wp (mGet b) Δ1 (K := ⟨(fun dy Δ2 => wp (mOpt (g dx dy)) Δ2 (K := ⟨(fun z Δ3 => i < Δ3.length ∧ P .nx (Δ3.set i (.sh z))), E⟩)), E⟩)), E⟩) := by
    intro dx
    rw [wp_bind]; refine wp_ext fun b Δ1 => ?_
    rw [wp_bind]; refine wp_ext fun dy Δ2 => ?_
    rw [wp_bind]; refine wp_ext fun z Δ3 => ?_
    unfold wp
    dsimp only
    by_cases h : i < Δ3.length <;> simp [h]
  cases h : Δ[i]? with
  | none =>
    have e : mAug g i fb Δ = .bad := by unfold mAug; rw [h]
    unfold wp; rw [e]; rfl
  | some z =>
    cases z with
    | un =>
      have e : mAug g i fb Δ = .bad := by unfold mAug; rw [h]
      unfold wp; rw [e]; rfl
    | ow d =>
      have e : mAug g i fb Δ = .bad := by unfold mAug; rw [h]
      unfold wp; rw [e]; rfl
    | sh dx =>
      refine Eq.trans ?_ (key dx)
      have e : mAug g i fb Δ = (mBind fb (fun b => mBind (mGet b) fun dy => mBind (mOpt (g dx dy)) fun z Δ' => if i < Δ'.length then .ok .nx (Δ'.set i (.sh z)) else .bad)) Δ := by unfold mAug; rw [h]
      unfold wp; rw [e]
@[simp] theorem wp_retVar {i : Nat} {P : Fl → SD → Prop} : wp (mRetVar i) Δ (K := ⟨P, E⟩) = match Δ[i]? with
    | some (.ow d) => P (.rf d) (Δ.set i .un)
    | some (.sh d) => P (.rt d) Δ
    | _ => False := by
  unfold wp mRetVar
  cases Δ[i]? with
  | none => rfl
  | some z => cases z <;> rfl
/-! calls -/
/-- what is asked of the state behind a call -/
def onSD (o : Option SD) [K : K1 SD] : Prop := match o with
  | some Δ => K.k Δ
  | none => False
@[simp] theorem onSD_some {P : SD → Prop} : onSD (some Δ) (K := ⟨P⟩) = P Δ := (rfl)
@[simp] theorem onSD_none {P : SD → Prop} : onSD none (K := ⟨P⟩) = False := (rfl)
def onArgs (o : Option (List D × List (Nat × Nat))) [K : K3] : Prop := match o with
  | some r => K.k r.1 r.2
  | none => False
@[simp] theorem onArgs_some {a : List D} {b : List (Nat × Nat)} {P : List D → List (Nat × Nat) → Prop} : onArgs (some (a, b)) (K := ⟨P⟩) = P a b := (rfl)
@[simp] theorem wp_callRes {np : Nat} {io : List Nat} {g : List D → RD} {as : List AK} {P : D × Bool → SD → Prop} : wp (callRes np io g as) Δ (K := ⟨P, E⟩) = (as.length = np ∧ onArgs (callArgs io Δ 0 as) (K := ⟨fun ds ls => ls.map (·.1) = io ∧
    wpR (g ds) (K := ⟨(fun d fr es => onSD (setOws Δ (ls.map (·.2)) es) (K := ⟨fun Δ' => P (d, fr) Δ'⟩)), (fun n d es => onSD (setOws Δ (ls.map (·.2)) es) (K := ⟨fun Δ' => E n d Δ'⟩))⟩)⟩)) := by
  unfold wp callRes
  by_cases h : as.length = np
  · rw [if_pos h]
    cases callArgs io Δ 0 as with
    | none => simp [onArgs]
    | some r =>
      simp only [onArgs]
      by_cases h2 : r.2.map (·.1) = io
      · rw [if_pos h2]
        cases g r.1 with
        | ok d fr es =>
          simp only [wpR, onSD]
          cases setOws Δ (r.2.map (·.2)) es <;> simp [h, h2]
        | ex n d es =>
          simp only [wpR, onSD]
          cases setOws Δ (r.2.map (·.2)) es <;> simp [h, h2]
        | bad => simp [wpR]
      · rw [if_neg h2]; simp [h2]
  · rw [if_neg h]; simp [h]
@[simp] theorem wp_call {np : Nat} {io : List Nat} {g : List D → RD} {f : M (List AK)} {P : D → SD → Prop} : wp (mCall np io g f) Δ (K := ⟨P, E⟩) = wp f Δ (K := ⟨(fun as Δ1 => wp (callRes np io g as) Δ1 (K := ⟨(fun r Δ2 => P r.1 Δ2), E⟩)), E⟩) := by
  unfold mCall
  repeat (first | rfl | rw [wp_bind] | rw [wp_pure] | refine wp_ext fun _ _ => ?_)
@[simp] theorem wp_callN {np : Nat} {io : List Nat} {g : List D → RD} {f : M (List AK)} {P : D → SD → Prop} : wp (mCallN np io g f) Δ (K := ⟨P, E⟩) = wp f Δ (K := ⟨(fun as Δ1 => wp (callRes np io g as) Δ1 (K := ⟨(fun r Δ2 => r.2 = true ∧ P r.1 Δ2), E⟩)), E⟩) := by
  unfold mCallN
  rw [wp_bind]
  refine wp_ext fun as Δ1 => ?_
  rw [wp_bind]
  refine wp_ext fun r Δ2 => ?_
  by_cases h : r.2 = true <;> simp [h]
def onIos (o : Option (List D)) [K : K1 (List D)] : Prop := match o with
  | some ds => K.k ds
  | none => False
@[simp] theorem onIos_some {ds : List D} {P : List D → Prop} : onIos (some ds) (K := ⟨P⟩) = P ds := (rfl)
theorem wpR_def {len : Nat} {io : List Nat} {body : M Fl} {ds : List D} {P : D → Bool → List D → Prop} {F : Str → Option D → List D → Prop} : wpR (mDef len io body ds) (K := ⟨P, F⟩) = wp body (startD len io ds) (K := ⟨(fun fl Δ' => onIos (iosOf Δ' io) (K := ⟨fun ios => match fl with
    | .rt d => P d false ios
    | .rf d => P d true ios
    | .nx => P .non false ios
    | _ => False⟩)), (fun n d Δ' => onIos (iosOf Δ' io) (K := ⟨fun ios => F n d ios⟩))⟩) := by
  unfold wpR mDef wp onIos
  cases body (startD len io ds) with
  | ok fl Δ' =>
    dsimp only
    cases iosOf Δ' io with
    | none => rfl
    | some ios => cases fl <;> rfl
  | ex n d Δ' =>
    dsimp only
    cases iosOf Δ' io <;> rfl
  | bad => rfl
end
end DL

namespace DL
open PySem L2
section
variable {Δ : SD} {E : EX}
@[simp] theorem wp_items {f : M D} {P : List D → SD → Prop} : wp (mItems f) Δ (K := ⟨P, E⟩) = wp f Δ (K := ⟨(fun d Δ1 => wp (mOpt (dItems d)) Δ1 (K := ⟨P, E⟩)), E⟩) := by
  unfold mItems
  repeat (first | rfl | rw [wp_bind] | rw [wp_pure] | refine wp_ext fun _ _ => ?_)
@[simp] theorem wp_rng {g : List D → Option (List D)} {f : M (List AK)} {P : List D → SD → Prop} : wp (mRng g f) Δ (K := ⟨P, E⟩) = wp f Δ (K := ⟨(fun as Δ1 => wp (mGets as) Δ1 (K := ⟨(fun ds Δ2 => wp (mOpt (g ds)) Δ2 (K := ⟨P, E⟩)), E⟩)), E⟩) := by
  unfold mRng
  repeat (first | rfl | rw [wp_bind] | rw [wp_pure] | refine wp_ext fun _ _ => ?_)
@[simp] theorem wp_enum {f : M D} {P : List D → SD → Prop} : wp (mEnum f) Δ (K := ⟨P, E⟩) = wp f Δ (K := ⟨(fun d Δ1 => wp (mOpt (dEnum [d])) Δ1 (K := ⟨P, E⟩)), E⟩) := by
  unfold mEnum
  repeat (first | rfl | rw [wp_bind] | rw [wp_pure] | refine wp_ext fun _ _ => ?_)
@[simp] theorem wp_zip {f g : M D} {P : List D → SD → Prop} : wp (mZip f g) Δ (K := ⟨P, E⟩) = wp f Δ (K := ⟨(fun d Δ1 => wp g Δ1 (K := ⟨(fun e Δ2 => wp (mOpt (dZip [d, e])) Δ2 (K := ⟨P, E⟩)), E⟩)), E⟩) := by
  unfold mZip
  repeat (first | rfl | rw [wp_bind] | rw [wp_pure] | refine wp_ext fun _ _ => ?_)
@[simp] theorem wp_forE {fi : M (List D)} {t : D → M Unit} {body : M Fl} {P : Fl → SD → Prop} : wp (mForE fi t body) Δ (K := ⟨P, E⟩) = wp fi Δ (K := ⟨(fun ds Δ1 => wp (mFor t body ds) Δ1 (K := ⟨P, E⟩)), E⟩) := by
  unfold mForE
  repeat (first | rfl | rw [wp_bind] | rw [wp_pure] | refine wp_ext fun _ _ => ?_)
@[simp] theorem wp_for_nil {t : D → M Unit} {body : M Fl} {P : Fl → SD → Prop} : wp (mFor t body []) Δ (K := ⟨P, E⟩) = P .nx Δ := by unfold wp; rfl
/-- a target that took, then the rest -/
theorem wp_tg {α : Type} {t : D → M Unit} {d : D} {k : SD → Res α} {P : α → SD → Prop} (h : wp (t d) Δ (K := ⟨(fun _ Δ1 => wp k Δ1 (K := ⟨P, E⟩)), noE⟩)) : wp (fun Δ => match t d Δ with
    | .ok _ Δ1 => k Δ1
    | _ => .bad) Δ (K := ⟨P, E⟩) := by
  unfold wp at *
  dsimp only
  cases e : t d Δ with
  | ok a Δ' => rw [e] at h; exact h
  | ex n d Δ' => rw [e] at h; exact h.elim
  | bad => rw [e] at h; exact h.elim
theorem wp_for_cons {t : D → M Unit} {body : M Fl} {d : D} {ds : List D} {P : Fl → SD → Prop} (h : wp (t d) Δ (K := ⟨(fun _ Δ1 => wp body Δ1 (K := ⟨(fun fl Δ2 => match fl with
    | .nx => wp (mFor t body ds) Δ2 (K := ⟨P, E⟩)
    | .ct => wp (mFor t body ds) Δ2 (K := ⟨P, E⟩)
    | .bk => P .nx Δ2
    | .rt d => P (.rt d) Δ2
    | .rf d => P (.rf d) Δ2), E⟩)), noE⟩)) : wp (mFor t body (d :: ds)) Δ (K := ⟨P, E⟩) := by
  unfold mFor
  refine wp_tg (wp_mono h (fun _ Δ1 q => ?_) fun _ _ _ z => z)
  show wp (mBind body _) Δ1 (K := ⟨P, E⟩)
  rw [wp_bind]
  refine wp_mono q (fun fl Δ2 q2 => ?_) fun _ _ _ z => z
  cases fl <;> (first | exact q2 | (unfold wp; exact q2))
/-- a for by an invariant of what is left -/
theorem wp_for_inv {t : D → M Unit} {body : M Fl} {ds : List D} {P : Fl → SD → Prop} (I : List D → SD → Prop) (h0 : I ds Δ)
    (step : ∀ d rest Δ, I (d :: rest) Δ → wp (t d) Δ (K := ⟨(fun _ Δ1 => wp body Δ1 (K := ⟨(fun fl Δ2 => match fl with
      | .nx => I rest Δ2
      | .ct => I rest Δ2
      | .bk => P .nx Δ2
      | .rt d => P (.rt d) Δ2
      | .rf d => P (.rf d) Δ2), E⟩)), noE⟩)) (fin : ∀ Δ, I [] Δ → P .nx Δ) : wp (mFor t body ds) Δ (K := ⟨P, E⟩) := by
  induction ds generalizing Δ with
  | nil => rw [wp_for_nil]; exact fin Δ h0
  | cons d ds ih =>
    refine wp_for_cons (wp_mono (step d ds Δ h0) (fun _ Δ1 q => wp_mono q (fun fl Δ2 q2 => ?_) fun _ _ _ z => z) fun _ _ _ z => z)
    cases fl with
    | nx => exact ih q2
    | ct => exact ih q2
    | bk => exact q2
    | rt d => exact q2
    | rf d => exact q2
/-- .. by the turn's number -/
theorem wp_for_ix {t : D → M Unit} {body : M Fl} {ds : List D} {P : Fl → SD → Prop} (I : Nat → SD → Prop) (h0 : I 0 Δ)
    (step : ∀ i d Δ, ds[i]? = some d → I i Δ → wp (t d) Δ (K := ⟨(fun _ Δ1 => wp body Δ1 (K := ⟨(fun fl Δ2 => match fl with
      | .nx => I (i + 1) Δ2
      | .ct => I (i + 1) Δ2
      | .bk => P .nx Δ2
      | .rt d => P (.rt d) Δ2
      | .rf d => P (.rf d) Δ2), E⟩)), noE⟩)) (fin : ∀ Δ, I ds.length Δ → P .nx Δ) : wp (mFor t body ds) Δ (K := ⟨P, E⟩) := by
  refine wp_for_inv (fun rest Δ => ∃ i, rest = ds.drop i ∧ i ≤ ds.length ∧ I i Δ) ⟨0, rfl, Nat.zero_le _, h0⟩ (fun d rest Δ h => ?_) (fun Δ h => ?_)
  · obtain ⟨i, e, hi, q⟩ := h
    have hlt : i < ds.length := by
      rcases Nat.lt_or_ge i ds.length with h | h
      · exact h
      · rw [List.drop_eq_nil_of_le h] at e; cases e
    rw [List.drop_eq_getElem_cons hlt] at e
    cases e
    refine wp_mono (step i _ Δ (by simp [hlt]) q) (fun _ Δ1 q => wp_mono q (fun fl Δ2 q2 => ?_) fun _ _ _ z => z) fun _ _ _ z => z
    cases fl with
    | nx => exact ⟨i + 1, rfl, hlt, q2⟩
    | ct => exact ⟨i + 1, rfl, hlt, q2⟩
    | bk => exact q2
    | rt d => exact q2
    | rf d => exact q2
  · obtain ⟨i, e, hi, q⟩ := h
    have : i = ds.length := by
      have z := congrArg List.length e
      rw [List.length_drop, List.length_nil] at z
      omega
    subst this
    exact fin Δ q
/-- .. over a range -/
theorem wp_for_ints {t : D → M Unit} {body : M Fl} {lo : Int} {n : Nat} {P : Fl → SD → Prop} (I : Nat → SD → Prop) (h0 : I 0 Δ)
    (step : ∀ i Δ, i < n → I i Δ → wp (t (.int (lo + (i : Nat)))) Δ (K := ⟨(fun _ Δ1 => wp body Δ1 (K := ⟨(fun fl Δ2 => match fl with
      | .nx => I (i + 1) Δ2
      | .ct => I (i + 1) Δ2
      | .bk => P .nx Δ2
      | .rt d => P (.rt d) Δ2
      | .rf d => P (.rf d) Δ2), E⟩)), noE⟩)) (fin : ∀ Δ, I n Δ → P .nx Δ) : wp (mFor t body (intsFrom lo n)) Δ (K := ⟨P, E⟩) := by
  refine wp_for_ix I h0 (fun i d Δ hd q => ?_) (by rw [intsFrom_length]; exact fin)
  rw [intsFrom_at] at hd
  split at hd
  · rename_i h
    cases hd
    exact step i Δ h q
  · cases hd
/-! comprehensions -/
@[simp] theorem wp_lc {vs : List Nat} {fi : M (List D)} {t : D → M Unit} {ft : M Bool} {fe : M D} {P : D → SD → Prop} : wp (mLc vs fi t ft fe) Δ (K := ⟨P, E⟩) = wp fi Δ (K := ⟨(fun ds Δ1 => wp (mTurns vs t ft fe ds) (wipeD Δ1 vs) (K := ⟨(fun es Δ2 => es.length ≤ lim ∧ P (.lst es) (backD Δ1 Δ2 vs)), noE⟩)), E⟩) := by
  unfold mLc
  rw [wp_bind]
  refine wp_ext fun ds Δ1 => ?_
  unfold wp
  dsimp only
  cases mTurns vs t ft fe ds (wipeD Δ1 vs) with
  | ok es Δ2 => by_cases h : es.length ≤ lim <;> simp [h]
  | ex n d Δ' => rfl
  | bad => rfl
theorem wp_turns_nil {vs : List Nat} {t : D → M Unit} {ft : M Bool} {fe : M D} {P : List D → SD → Prop} : wp (mTurns vs t ft fe []) Δ (K := ⟨P, E⟩) = P [] (wipeD Δ vs) := by unfold wp; rfl
theorem wp_turns_cons {vs : List Nat} {t : D → M Unit} {ft : M Bool} {fe : M D} {d : D} {ds : List D} {P : List D → SD → Prop} (h : wp (t d) (wipeD Δ vs) (K := ⟨(fun _ Δ1 => wp ft Δ1 (K := ⟨(fun b Δ2 => if b = true then wp fe Δ2 (K := ⟨(fun e Δ3 => wp (mTurns vs t ft fe ds) Δ3 (K := ⟨(fun es Δ4 => P (e :: es) Δ4), E⟩)), E⟩) else wp (mTurns vs t ft fe ds) Δ2 (K := ⟨P, E⟩)), E⟩)), noE⟩)) :
    wp (mTurns vs t ft fe (d :: ds)) Δ (K := ⟨P, E⟩) := by
  have e : wp (mTurns vs t ft fe (d :: ds)) Δ (K := ⟨P, E⟩) = wp (fun Δ => match t d Δ with
    | .ok _ Δ1 => mBind ft (fun b => if b = true then mBind fe fun e => mBind (mTurns vs t ft fe ds) fun es => mPure (e :: es) else mTurns vs t ft fe ds) Δ1
    | _ => .bad) (wipeD Δ vs) (K := ⟨P, E⟩) := by unfold wp; rfl
  rw [e]
  refine wp_tg (wp_mono h (fun _ Δ1 q => ?_) fun _ _ _ z => z)
  rw [wp_bind]
  refine wp_mono q (fun b Δ2 q2 => ?_) fun _ _ _ z => z
  by_cases hb : b = true
  · rw [if_pos hb] at q2 ⊢
    rw [wp_bind]
    refine wp_mono q2 (fun e Δ3 q3 => ?_) fun _ _ _ z => z
    rw [wp_bind]
    exact wp_mono q3 (fun es Δ4 q4 => by rw [wp_pure]; exact q4) fun _ _ _ z => z
  · rw [if_neg hb] at q2 ⊢
    exact q2
/-- by an invariant of the turn's number, of what is collected -/
theorem wp_turns_inv {vs : List Nat} {t : D → M Unit} {ft : M Bool} {fe : M D} {ds : List D} {P : List D → SD → Prop} (I : Nat → List D → SD → Prop) (h0 : I 0 [] (wipeD Δ vs))
    (step : ∀ i d acc Δ, ds[i]? = some d → I i acc Δ → wp (t d) Δ (K := ⟨(fun _ Δ1 => wp ft Δ1 (K := ⟨(fun b Δ2 => if b = true then wp fe Δ2 (K := ⟨(fun e Δ3 => I (i + 1) (acc ++ [e]) (wipeD Δ3 vs)), E⟩) else I (i + 1) acc (wipeD Δ2 vs)), E⟩)), noE⟩))
    (fin : ∀ acc Δ, I ds.length acc Δ → P acc Δ) : wp (mTurns vs t ft fe ds) Δ (K := ⟨P, E⟩) := by
  have go : ∀ (rest : List D) (i : Nat) (acc : List D) (Δ : SD), rest = ds.drop i → i ≤ ds.length → I i acc (wipeD Δ vs) → wp (mTurns vs t ft fe rest) Δ (K := ⟨(fun es Δ' => P (acc ++ es) Δ'), E⟩) := by
    intro rest
    induction rest with
    | nil =>
      intro i acc Δ e hi q
      have : i = ds.length := by
        have z := congrArg List.length e
        rw [List.length_drop, List.length_nil] at z
        omega
      subst this
      rw [wp_turns_nil, List.append_nil]
      exact fin acc _ q
    | cons d rest ih =>
      intro i acc Δ e hi q
      have hlt : i < ds.length := by
        rcases Nat.lt_or_ge i ds.length with h | h
        · exact h
        · rw [List.drop_eq_nil_of_le h] at e; cases e
      rw [List.drop_eq_getElem_cons hlt] at e
      simp only [List.cons.injEq] at e
      obtain ⟨e1, e2⟩ := e
      subst e1
      refine wp_turns_cons (wp_mono (step i _ acc _ (by simp [hlt]) q) (fun _ Δ1 q => wp_mono q (fun b Δ2 q2 => ?_) fun _ _ _ z => z) fun _ _ _ z => z)
      by_cases hb : b = true
      · rw [if_pos hb] at q2 ⊢
        refine wp_mono q2 (fun e Δ3 q3 => ?_) fun _ _ _ z => z
        refine wp_mono (ih (i + 1) (acc ++ [e]) Δ3 e2 hlt q3) (fun es Δ4 q4 => ?_) fun _ _ _ z => z
        rw [List.append_assoc] at q4
        exact q4
      · rw [if_neg hb] at q2 ⊢
        exact ih (i + 1) acc Δ2 e2 hlt q2
  exact go ds 0 [] Δ rfl (Nat.zero_le _) h0
/-- a comprehension that changes nothing -/
theorem wp_turns_map {vs : List Nat} {t : D → M Unit} {ft : M Bool} {fe : M D} {ds : List D} {P : List D → SD → Prop} (g : D → Option D)
    (step : ∀ d ∈ ds, wp (t d) (wipeD Δ vs) (K := ⟨(fun _ Δ1 => wp ft Δ1 (K := ⟨(fun b Δ2 => if b = true then wp fe Δ2 (K := ⟨(fun e Δ3 => g d = some e ∧ wipeD Δ3 vs = wipeD Δ vs), E⟩) else g d = none ∧ wipeD Δ2 vs = wipeD Δ vs), E⟩)), noE⟩))
    (fin : P (ds.filterMap g) (wipeD Δ vs)) : wp (mTurns vs t ft fe ds) Δ (K := ⟨P, E⟩) := by
  refine wp_turns_inv (fun i acc Δ' => i ≤ ds.length ∧ acc = (ds.take i).filterMap g ∧ Δ' = wipeD Δ vs) ⟨Nat.zero_le _, rfl, rfl⟩ (fun i d acc Δ' hd q => ?_) (fun acc Δ' q => ?_)
  · obtain ⟨hi, rfl, rfl⟩ := q
    have hlt := (List.getElem?_eq_some_iff.mp hd).1
    have hm : d ∈ ds := List.mem_of_getElem? hd
    have et : ds.take (i + 1) = ds.take i ++ [d] := by
      rw [List.take_add_one, hd]; rfl
    refine wp_mono (step d hm) (fun _ Δ1 q => wp_mono q (fun b Δ2 q2 => ?_) fun _ _ _ z => z) fun _ _ _ z => z
    by_cases hb : b = true
    · rw [if_pos hb] at q2 ⊢
      refine wp_mono q2 (fun e Δ3 q3 => ⟨hlt, ?_, q3.2⟩) fun _ _ _ z => z
      rw [et, List.filterMap_append]
      simp [q3.1]
    · rw [if_neg hb] at q2 ⊢
      refine ⟨hlt, ?_, q2.2⟩
      rw [et, List.filterMap_append]
      simp [q2.1]
  · obtain ⟨_, rfl, rfl⟩ := q
    rw [List.take_length]
    exact fin
end
/-! operators on plain data -/
@[simp] theorem dAdd_int {i j : Int} : dAdd (.int i) (.int j) = some (.int (i + j)) := (rfl)
@[simp] theorem dAdd_str {a b : Str} : dAdd (.str a) (.str b) = if a.length + b.length ≤ lim then some (.str (a ++ b)) else none := (rfl)
@[simp] theorem dAdd_lst {a b : List D} : dAdd (.lst a) (.lst b) = if a.length + b.length ≤ lim then some (.lst (a ++ b)) else none := (rfl)
@[simp] theorem dAdd_tup {a b : List D} : dAdd (.tup a) (.tup b) = if a ≠ [] ∧ b ≠ [] ∧ a.length + b.length ≤ lim then some (.tup (a ++ b)) else none := (rfl)
@[simp] theorem dCat_lst {a b : List D} : dCat (.lst a) (.lst b) = if a.length + b.length ≤ lim then some (.lst (a ++ b)) else none := (rfl)
@[simp] theorem dSub_int {i j : Int} : dSub (.int i) (.int j) = some (.int (i - j)) := (rfl)
@[simp] theorem dMul_int {i j : Int} : dMul (.int i) (.int j) = if bitsOk i j = true then some (.int (i * j)) else none := (rfl)
@[simp] theorem dRep_lst {a : List D} {k : Int} : dRep (.lst a) (.int k) = if a.length * k.toNat ≤ lim ∧ -1000000 ≤ k ∧ k ≤ 1000000 then some (.lst (List.replicate k.toNat a).flatten) else none := (rfl)
@[simp] theorem dDiv_int {i j : Int} : dDiv (.int i) (.int j) = if divOk j = true then some (.int (i / j)) else none := (rfl)
@[simp] theorem dMod_int {i j : Int} : dMod (.int i) (.int j) = if 0 < j then some (.int (i % j)) else none := (rfl)
@[simp] theorem dPow_int {i j : Int} : dPow (.int i) (.int j) = if 0 ≤ j ∧ j ≤ 1000 ∧ i.natAbs < 2 ^ 64 then some (.int (i ^ j.toNat)) else none := (rfl)
@[simp] theorem dNeg_int {i : Int} : dNeg (.int i) = some (.int (-i)) := (rfl)
@[simp] theorem dLt_int {i j : Int} : dLt (.int i) (.int j) = some (.bl (decide (i < j))) := (rfl)
@[simp] theorem dLe_int {i j : Int} : dLe (.int i) (.int j) = some (.bl (decide (i ≤ j))) := (rfl)
@[simp] theorem dGt_int {i j : Int} : dGt (.int i) (.int j) = some (.bl (decide (j < i))) := (rfl)
@[simp] theorem dGe_int {i j : Int} : dGe (.int i) (.int j) = some (.bl (decide (j ≤ i))) := (rfl)
@[simp] theorem dIs_bl {a b : Bool} : dIs (.bl a) (.bl b) = some (.bl (decide (a = b))) := (rfl)
@[simp] theorem dIsNot_bl {a b : Bool} : dIsNot (.bl a) (.bl b) = some (.bl (!decide (a = b))) := (rfl)
@[simp] theorem dIs_non {d : D} : dIs d .non = some (.bl (isNon d)) := by cases d <;> rfl
@[simp] theorem dIsNot_non {d : D} : dIsNot d .non = some (.bl (!isNon d)) := by cases d <;> rfl
@[simp] theorem isNon_non : isNon .non = true := (rfl)
@[simp] theorem isNon_int {i : Int} : isNon (.int i) = false := (rfl)
@[simp] theorem isNon_lst {i : List D} : isNon (.lst i) = false := (rfl)
@[simp] theorem isNon_tup {i : List D} : isNon (.tup i) = false := (rfl)
@[simp] theorem isNon_str {i : Str} : isNon (.str i) = false := (rfl)
@[simp] theorem isNon_bl {i : Bool} : isNon (.bl i) = false := (rfl)
@[simp] theorem isNon_obj {n : Str} {fs : List (Str × D)} : isNon (.obj n fs) = false := (rfl)
@[simp] theorem dEq_map {x y : D} : dEq x y = (eqD x y).map D.bl := (rfl)
@[simp] theorem dNe_map {x y : D} : dNe x y = (eqD x y).map fun b => D.bl (!b) := (rfl)
@[simp] theorem dIn_map {x y : D} : dIn x y = (inB x y).map D.bl := (rfl)
@[simp] theorem dNotIn_map {x y : D} : dNotIn x y = (inB x y).map fun b => D.bl (!b) := (rfl)
@[simp] theorem dIx_lst {ds : List D} {i : Int} : dIx (.lst ds) (.int i) = atI ds i := (rfl)
@[simp] theorem dIx_tup {ds : List D} {i : Int} : dIx (.tup ds) (.int i) = atI ds i := (rfl)
@[simp] theorem dIx_scr {ns : List Int} {i : Int} : dIx (.scr ns) (.int i) = (atI ns i).map D.int := (rfl)
@[simp] theorem asBl_bl {b : Bool} : asBl (.bl b) = some b := (rfl)
@[simp] theorem truD_bl {b : Bool} : truD (.bl b) = some b := (rfl)
@[simp] theorem truD_int {b : Int} : truD (.int b) = some (b != 0) := (rfl)
@[simp] theorem truD_lst {b : List D} : truD (.lst b) = some (!b.isEmpty) := (rfl)
@[simp] theorem truD_tup {b : List D} : truD (.tup b) = some (!b.isEmpty) := (rfl)
@[simp] theorem truD_non : truD .non = some false := (rfl)
@[simp] theorem asInt_int {i : Int} : asInt (.int i) = some (some i) := (rfl)
@[simp] theorem dCut_lst {ds : List D} {lo hi : Option Int} : dCut (.lst ds) lo hi = some (.lst (cutG ds lo hi)) := (rfl)
@[simp] theorem dCutN_lst {ds : List D} {lo hi : Option Int} : dCutN (.lst ds) lo hi = some (.lst (cutG ds lo hi)) := (rfl)
@[simp] theorem dItems_lst {ds : List D} : dItems (.lst ds) = some ds := (rfl)
@[simp] theorem dItems_tup {ds : List D} : dItems (.tup ds) = some ds := (rfl)
@[simp] theorem dRng1_int {j : Int} : dRng1 [.int j] = if -1000000000 < j ∧ j < 1000000000 then some (intsFrom 0 j.toNat) else none := (rfl)
@[simp] theorem dRng2_int {i j : Int} : dRng2 [.int i, .int j] = if -1000000000 < i ∧ i < 1000000000 ∧ -1000000000 < j ∧ j < 1000000000 then some (intsFrom i (j - i).toNat) else none := (rfl)
@[simp] theorem dEnum_lst {ds : List D} : dEnum [.lst ds] = some (enumD 0 ds) := (rfl)
@[simp] theorem dZip_lst {ds es : List D} : dZip [.lst ds, .lst es] = some (zipD ds es) := (rfl)
@[simp] theorem dLen_lst {ds : List D} : dLen [.lst ds] = some (.int ds.length) := (rfl)
@[simp] theorem dLen_tup {ds : List D} : dLen [.tup ds] = some (.int ds.length) := (rfl)
@[simp] theorem dLen_scr {ns : List Int} : dLen [.scr ns] = some (.int ns.length) := (rfl)
@[simp] theorem dLen_str {z : Str} : dLen [.str z] = if z.length ≤ lim then some (.int z.length) else none := (rfl)
@[simp] theorem dListN_lst {ds : List D} : dListN [.lst ds] = some (.lst ds) := (rfl)
@[simp] theorem dListN_tup {ds : List D} : dListN [.tup ds] = some (.lst ds) := (rfl)
@[simp] theorem dTuple_lst {ds : List D} : dTuple [.lst ds] = some (.tup ds) := (rfl)
@[simp] theorem dTuple_tup {ds : List D} : dTuple [.tup ds] = some (.tup ds) := (rfl)
@[simp] theorem dAbs_int {i : Int} : dAbs [.int i] = some (.int (if i < 0 then -i else i)) := (rfl)
@[simp] theorem dInt_int {i : Int} : dInt [.int i] = some (.int i) := (rfl)
@[simp] theorem dInt_bl {b : Bool} : dInt [.bl b] = some (.int (if b then 1 else 0)) := (rfl)
@[simp] theorem dMax_two {i j : Int} : dMax [.int i, .int j] = some (.int (if j > i then j else i)) := (rfl)
@[simp] theorem dMin_two {i j : Int} : dMin [.int i, .int j] = some (.int (if j < i then j else i)) := (rfl)
@[simp] theorem dMax_lst {ds : List D} : dMax [.lst ds] = ((dInts ds).bind maxI).map D.int := (rfl)
@[simp] theorem dMin_lst {ds : List D} : dMin [.lst ds] = ((dInts ds).bind minI).map D.int := (rfl)
@[simp] theorem dAll_lst {ds : List D} : dAll [.lst ds] = (dBls ds).map fun ns => .bl (ns.all id) := (rfl)
@[simp] theorem dAny_lst {ds : List D} : dAny [.lst ds] = (dBls ds).map fun ns => .bl (ns.any id) := (rfl)
@[simp] theorem gApp_lst {d : D} {ds : List D} : gApp d (.lst ds) = if ds.length < lim then some ((), .lst (ds ++ [d])) else none := (rfl)
@[simp] theorem gSetL_lst {ds : List D} {i : Int} {v : D} : gSetL (.lst ds) (.int i) v = (ixN ds.length i).map fun j => .lst (ds.set j v) := (rfl)
@[simp] theorem isLst_lst {ds : List D} : isLst (.lst ds) = true := (rfl)
@[simp] theorem gExt_lst {bs ds : List D} : gExt (.lst bs) (.lst ds) = if ds.length + bs.length ≤ lim then some ((), .lst (ds ++ bs)) else none := (rfl)
@[simp] theorem dIsi_ty {tb : Str → Str → Option Bool} {d : D} {T : String} : dIsi tb [d, .ty T] = (isiOne tb d (.ty T)).map D.bl := by cases d <;> rfl
@[simp] theorem atI_0 {α : Type} {x : α} {xs : List α} : atI (x :: xs) 0 = some x := by
  have h : ixN (x :: xs).length 0 = some 0 := by unfold ixN; simp
  unfold atI; rw [h]; rfl
@[simp] theorem atI_1 {α : Type} {x y : α} {xs : List α} : atI (x :: y :: xs) 1 = some y := by
  have h : ixN (x :: y :: xs).length 1 = some 1 := by
    unfold ixN
    rw [if_pos (by decide), if_pos (by simp only [List.length_cons]; omega)]; rfl
  unfold atI; rw [h]; rfl
@[simp] theorem atI_2 {α : Type} {x y z : α} {xs : List α} : atI (x :: y :: z :: xs) 2 = some z := by
  have h : ixN (x :: y :: z :: xs).length 2 = some 2 := by
    unfold ixN
    rw [if_pos (by decide), if_pos (by simp only [List.length_cons]; omega)]; rfl
  unfold atI; rw [h]; rfl
theorem atI_nat {α : Type} {xs : List α} {n : Nat} (h : n < xs.length) : atI xs (n : Int) = some xs[n] := by
  have e : ixN xs.length (n : Int) = some n := by
    unfold ixN
    rw [if_pos (by omega), if_pos (by omega)]; simp
  unfold atI; rw [e]; simp [h]
@[simp] theorem ixN_0 {n : Nat} : ixN (n + 1) 0 = some 0 := by
  unfold ixN
  rw [if_pos (by decide), if_pos (by omega)]; rfl
@[simp] theorem ixN_1 {n : Nat} : ixN (n + 1 + 1) 1 = some 1 := by
  unfold ixN
  rw [if_pos (by decide), if_pos (by omega)]; rfl
theorem log2_le {n k : Nat} (h : n < 2 ^ k) : n.log2 ≤ k := by
  rcases Nat.eq_zero_or_pos n with e | e
  · rw [e]; exact Nat.zero_le _
  · exact Nat.le_of_lt ((Nat.log2_lt (by omega)).mpr h)
theorem bits_ok {i j : Int} (hi : i.natAbs < 2 ^ 200) (hj : j.natAbs < 2 ^ 200) : bitsOk i j = true := by
  have h1 := log2_le hi
  have h2 := log2_le hj
  unfold bitsOk
  rw [Bool.or_eq_true]
  exact .inl (decide_eq_true (by omega))
/-- one of the two is small -/
theorem bits_small {i j : Int} (h : (-(2 ^ 64) < i ∧ i < 2 ^ 64) ∨ (-(2 ^ 64) < j ∧ j < 2 ^ 64)) : bitsOk i j = true := by
  unfold bitsOk
  rw [Bool.or_eq_true]
  exact .inr (decide_eq_true h)
theorem div_ok {j : Int} (h : 0 < j) (hj : j < 2 ^ 200) : divOk j = true := by
  have h1 := log2_le (n := j.natAbs) (k := 200) (by omega)
  exact decide_eq_true ⟨h, by omega⟩
/-! states -/
@[simp] theorem onIos_nil {Δ : SD} {P : List D → Prop} : onIos (iosOf Δ []) (K := ⟨P⟩) = P [] := (rfl)
@[simp] theorem onIos_cons {Δ : SD} {i : Nat} {io : List Nat} {P : List D → Prop} : onIos (iosOf Δ (i :: io)) (K := ⟨P⟩) = onOw Δ[i]? (K := ⟨fun d => onIos (iosOf Δ io) (K := ⟨fun ds => P (d :: ds)⟩)⟩) := by
  cases h : Δ[i]? with
  | none =>
    have e : iosOf Δ (i :: io) = none := by unfold iosOf; rw [h]
    rw [e]; rfl
  | some z =>
    cases z with
    | un =>
      have e : iosOf Δ (i :: io) = none := by unfold iosOf; rw [h]
      rw [e]; rfl
    | sh d =>
      have e : iosOf Δ (i :: io) = none := by unfold iosOf; rw [h]
      rw [e]; rfl
    | ow d =>
      have e : iosOf Δ (i :: io) = (iosOf Δ io).map (d :: ·) := by rw [iosOf]; rw [h]
      rw [e, onOw_ow]
      cases iosOf Δ io <;> rfl
@[simp] theorem onSD_nil {Δ : SD} {P : SD → Prop} : onSD (setOws Δ [] []) (K := ⟨P⟩) = P Δ := (rfl)
@[simp] theorem onSD_cons {Δ : SD} {i : Nat} {is : List Nat} {d : D} {ds : List D} {P : SD → Prop} : onSD (setOws Δ (i :: is) (d :: ds)) (K := ⟨P⟩) = onSD (setOws (Δ.set i (.ow d)) is ds) (K := ⟨P⟩) := (rfl)
@[simp] theorem onArgs_nil {io : List Nat} {Δ : SD} {j : Nat} {P : List D → List (Nat × Nat) → Prop} : onArgs (callArgs io Δ j []) (K := ⟨P⟩) = P [] [] := (rfl)
@[simp] theorem onArgs_v {io : List Nat} {Δ : SD} {j : Nat} {d : D} {as : List AK} {P : List D → List (Nat × Nat) → Prop} : onArgs (callArgs io Δ j (.v d :: as)) (K := ⟨P⟩) = if j ∈ io then False else onArgs (callArgs io Δ (j + 1) as) (K := ⟨fun ds ls => P (d :: ds) ls⟩) := by
  rw [callArgs]
  cases callArgs io Δ (j + 1) as with
  | none => by_cases h : j ∈ io <;> simp [h, onArgs]
  | some r => by_cases h : j ∈ io <;> simp [h, onArgs]
@[simp] theorem onArgs_s {io : List Nat} {Δ : SD} {j i : Nat} {as : List AK} {P : List D → List (Nat × Nat) → Prop} : onArgs (callArgs io Δ j (.s i :: as)) (K := ⟨P⟩) = onArgs (callArgs io Δ (j + 1) as) (K := ⟨fun ds ls => if j ∈ io then onOw Δ[i]? (K := ⟨fun d => i ∉ ls.map (·.2) ∧ P (d :: ds) ((j, i) :: ls)⟩) else onSh Δ[i]? (K := ⟨fun d => P (d :: ds) ls⟩)⟩) := by
  rw [callArgs]
  cases callArgs io Δ (j + 1) as with
  | none => rfl
  | some r =>
    rw [Option.bind_some]
    by_cases h : j ∈ io
    · rw [if_pos h]
      show _ = if j ∈ io then _ else _
      rw [if_pos h]
      cases e : Δ[i]? with
      | none => simp [e, onArgs, onOw]
      | some z =>
        cases z with
        | un => simp [e, onArgs, onOw]
        | sh d => simp [e, onArgs, onOw]
        | ow d =>
          by_cases h2 : i ∈ r.2.map (·.2)
          · simp only [e, if_pos h2, onOw_ow]
            simp [onArgs, h2]
          · simp only [e, if_neg h2, onOw_ow]
            simp [onArgs, h2]
    · rw [if_neg h]
      show _ = if j ∈ io then _ else _
      rw [if_neg h]
      cases e : Δ[i]? with
      | none => simp [e, onArgs, onSh]
      | some z =>
        cases z with
        | un => simp [e, onArgs, onSh]
        | ow d => simp [e, onArgs, onSh]
        | sh d => simp [e, onArgs]
@[simp] theorem wipeD_nil {Δ : SD} : wipeD Δ [] = Δ := (rfl)
@[simp] theorem wipeD_cons {Δ : SD} {i : Nat} {vs : List Nat} : wipeD Δ (i :: vs) = (wipeD Δ vs).set i .un := (rfl)
@[simp] theorem backD_nil {Δ Δ' : SD} : backD Δ Δ' [] = Δ' := (rfl)
@[simp] theorem backD_cons {Δ Δ' : SD} {i : Nat} {vs : List Nat} : backD Δ Δ' (i :: vs) = (backD Δ Δ' vs).set i (Δ.getD i .un) := (rfl)
@[simp] theorem startAt_nil {io : List Nat} {j : Nat} : startAt io j [] = [] := (rfl)
@[simp] theorem startAt_cons {io : List Nat} {j : Nat} {d : D} {ds : List D} : startAt io j (d :: ds) = (if j ∈ io then SC.ow d else SC.sh d) :: startAt io (j + 1) ds := (rfl)
end DL

namespace DL
open PySem L2
/-- None, a whole number, a text -/
def Sc : D → Bool
  | .non | .int _ => true
  | .str x => PyData.strOk x
  | _ => false
/-- data of such, nested at most n deep -/
def Pl : Nat → D → Bool
  | 0, d => Sc d
  | n + 1, .lst ds => ds.all (Pl n)
  | n + 1, .tup ds => ds.all (Pl n)
  | _ + 1, d => Sc d
theorem sc_py {d : D} (h : Sc d = true) : ∃ p, toPy d = some p ∧ p.depth = 0 := by
  cases d <;> first
    | (cases h; done)
    | exact ⟨_, rfl, rfl⟩
    | skip
  rename_i x
  have h' : PyData.strOk x = true := h
  exact ⟨.str x, by simp [toPy, h'], rfl⟩
theorem pl_pyL {n : Nat} (ih : ∀ d, Pl n d = true → ∃ p, toPy d = some p ∧ p.depth ≤ n) : ∀ {ds : List D}, ds.all (Pl n) = true → ∃ ps, toPyL ds = some ps ∧ PyData.depthAll ps ≤ n
  | [], _ => ⟨[], rfl, Nat.zero_le _⟩
  | d :: ds, h => by
    rw [List.all_cons, Bool.and_eq_true] at h
    obtain ⟨p, e1, h1⟩ := ih d h.1
    obtain ⟨ps, e2, h2⟩ := pl_pyL ih h.2
    refine ⟨p :: ps, by simp [toPyL, e1, e2], ?_⟩
    simp only [PyData.depthAll]
    omega
theorem pl_py : ∀ {n : Nat} {d : D}, Pl n d = true → ∃ p, toPy d = some p ∧ p.depth ≤ n
  | 0, d, h => by
    obtain ⟨p, e, z⟩ := sc_py h
    exact ⟨p, e, by omega⟩
  | n + 1, d, h => by
    cases d with
    | lst ds =>
      obtain ⟨ps, e, z⟩ := pl_pyL (fun d => pl_py (n := n)) (show ds.all (Pl n) = true from h)
      exact ⟨.list ps, by simp [toPy, e], by simp only [PyData.depth]; omega⟩
    | tup ds =>
      obtain ⟨ps, e, z⟩ := pl_pyL (fun d => pl_py (n := n)) (show ds.all (Pl n) = true from h)
      exact ⟨.tuple ps, by simp [toPy, e], by simp only [PyData.depth]; omega⟩
    | _ =>
      obtain ⟨p, e, z⟩ := sc_py (show Sc _ = true from h)
      exact ⟨p, e, by omega⟩
/-- no bools within -/
theorem pl_eqvL {n : Nat} (ih : ∀ d e p q, Pl n d = true → Pl n e = true → toPy d = some p → toPy e = some q → (PyData.eqv p q = true ↔ d = e)) : ∀ {ds es : List D} {ps qs : List PyData}, ds.all (Pl n) = true → es.all (Pl n) = true → toPyL ds = some ps → toPyL es = some qs → (PyData.eqvAll ps qs = true ↔ ds = es)
  | [], [], ps, qs, _, _, e1, e2 => by cases e1; cases e2; simp [PyData.eqvAll]
  | [], e :: es, ps, qs, _, _, e1, e2 => by
    cases e1
    simp only [toPyL, Option.bind_eq_some_iff, Option.map_eq_some_iff] at e2
    obtain ⟨q, _, qs', _, rfl⟩ := e2
    simp [PyData.eqvAll]
  | d :: ds, [], ps, qs, _, _, e1, e2 => by
    cases e2
    simp only [toPyL, Option.bind_eq_some_iff, Option.map_eq_some_iff] at e1
    obtain ⟨q, _, qs', _, rfl⟩ := e1
    simp [PyData.eqvAll]
  | d :: ds, e :: es, ps, qs, h1, h2, e1, e2 => by
    rw [List.all_cons, Bool.and_eq_true] at h1 h2
    simp only [toPyL, Option.bind_eq_some_iff, Option.map_eq_some_iff] at e1 e2
    obtain ⟨p, p1, ps', p2, rfl⟩ := e1
    obtain ⟨q, q1, qs', q2, rfl⟩ := e2
    have a := ih d e p q h1.1 h2.1 p1 q1
    have b := pl_eqvL ih h1.2 h2.2 p2 q2
    simp only [PyData.eqvAll, Bool.and_eq_true, a, b, List.cons.injEq]
theorem sc_py' {d : D} {p : PyData} (h : Sc d = true) (e : toPy d = some p) : (d = .non ∧ p = .none) ∨ (∃ i, d = .int i ∧ p = .int i) ∨ ∃ x, d = .str x ∧ p = .str x := by
  cases d <;> first
    | (cases h; done)
    | skip
  · cases e; exact .inl ⟨rfl, rfl⟩
  · cases e; exact .inr (.inl ⟨_, rfl, rfl⟩)
  · rename_i x
    have h' : PyData.strOk x = true := h
    have e' : (if PyData.strOk x = true then some (PyData.str x) else none) = some p := by
      have z : toPy (.str x) = if PyData.strOk x = true then some (PyData.str x) else none := by simp [toPy]
      rw [← z]; exact e
    rw [if_pos h'] at e'
    cases e'
    exact .inr (.inr ⟨x, rfl, rfl⟩)
theorem sc_eqv {d e : D} {p q : PyData} (h1 : Sc d = true) (h2 : Sc e = true) (e1 : toPy d = some p) (e2 : toPy e = some q) : PyData.eqv p q = true ↔ d = e := by
  rcases sc_py' h1 e1 with ⟨rfl, rfl⟩ | ⟨i, rfl, rfl⟩ | ⟨x, rfl, rfl⟩ <;> rcases sc_py' h2 e2 with ⟨rfl, rfl⟩ | ⟨j, rfl, rfl⟩ | ⟨y, rfl, rfl⟩ <;> simp [PyData.eqv]
theorem pl_eqv : ∀ {n : Nat} {d e : D} {p q : PyData}, Pl n d = true → Pl n e = true → toPy d = some p → toPy e = some q → (PyData.eqv p q = true ↔ d = e)
  | 0, d, e, p, q, h1, h2, e1, e2 => sc_eqv h1 h2 e1 e2
  | n + 1, d, e, p, q, h1, h2, e1, e2 => by
    have ih := fun d e p q => pl_eqv (n := n) (d := d) (e := e) (p := p) (q := q)
    cases d <;> cases e <;> first
      | (cases h1; done)
      | (cases h2; done)
      | exact sc_eqv h1 h2 e1 e2
      | skip
    all_goals
      (try simp only [toPy, Option.map_eq_some_iff] at e1)
      (try simp only [toPy, Option.map_eq_some_iff] at e2)
      (try obtain ⟨ps, p1, rfl⟩ := e1)
      (try obtain ⟨qs, q1, rfl⟩ := e2)
    all_goals first
      | (have k := pl_eqvL ih (show List.all _ (Pl n) = true from h1) (show List.all _ (Pl n) = true from h2) p1 q1
         simp only [PyData.eqv, k, D.lst.injEq, D.tup.injEq]; done)
      | (simp [PyData.eqv]; done)
      | (first | (cases e1; simp [PyData.eqv]; done) | (cases e2; simp [PyData.eqv]; done))
      | (split at e1 <;> first | (cases e1; simp [PyData.eqv]; done) | (cases e1; done))
      | (split at e2 <;> first | (cases e2; simp [PyData.eqv]; done) | (cases e2; done))
open Classical in
/-- two data the same -/
noncomputable def eqB (x y : D) : Bool := decide (x = y)
theorem eqB_iff {x y : D} : eqB x y = true ↔ x = y := by unfold eqB; simp
theorem Pl.mono : ∀ {n : Nat} {d : D}, Pl n d = true → Pl (n + 1) d = true
  | 0, d, h => by cases d <;> first | exact h | cases h
  | n + 1, d, h => by
    cases d with
    | lst ds =>
      have h' : ds.all (Pl n) = true := h
      show ds.all (Pl (n + 1)) = true
      rw [List.all_eq_true] at h' ⊢
      exact fun x hx => Pl.mono (h' x hx)
    | tup ds =>
      have h' : ds.all (Pl n) = true := h
      show ds.all (Pl (n + 1)) = true
      rw [List.all_eq_true] at h' ⊢
      exact fun x hx => Pl.mono (h' x hx)
    | _ => exact h
theorem Pl.le {n m : Nat} {d : D} (h : Pl n d = true) (hm : n ≤ m) : Pl m d = true := by
  induction m with
  | zero =>
    have : n = 0 := by omega
    subst this; exact h
  | succ m ih =>
    rcases Nat.lt_or_ge n (m + 1) with q | q
    · exact Pl.mono (ih (by omega))
    · have : n = m + 1 := by omega
      subst this; exact h
theorem eqP_pl {n : Nat} {x y : D} (hn : n ≤ 60) (hx : Pl n x = true) (hy : Pl n y = true) : eqP x y = some (eqB x y) := by
  obtain ⟨p, e1, d1⟩ := pl_py hx
  obtain ⟨q, e2, d2⟩ := pl_py hy
  have k := pl_eqv hx hy e1 e2
  unfold eqP
  rw [e1, e2]
  show (if p.depth ≤ 64 ∧ q.depth ≤ 64 then some (PyData.eqv p q) else none) = _
  rw [if_pos ⟨by omega, by omega⟩]
  congr 1
  rw [Bool.eq_iff_iff, k, eqB_iff]
theorem eqD_pl {n : Nat} {x y : D} (hn : n ≤ 60) (hx : Pl n x = true) (hy : Pl n y = true) : eqD x y = some (eqB x y) := by
  unfold eqD
  split
  · rename_i a b
    congr 1
    rw [Bool.eq_iff_iff, eqB_iff]
    simp
  · exact eqP_pl hn hx hy
@[simp] theorem eqD_str {a b : Str} : eqD (.str a) (.str b) = some (decide (a = b)) := (rfl)
@[simp] theorem eqD_int {i j : Int} : eqD (.int i) (.int j) = some (decide (i = j)) := by
  have e := eqD_pl (n := 0) (x := .int i) (y := .int j) (by omega) rfl rfl
  rw [e]
  congr 1
  rw [Bool.eq_iff_iff, eqB_iff]
  simp
/-! ### the length of a text of data -/
mutual
/-- at least the signs of d's text -/
def wt : D → Nat
  | .int i => i.natAbs.log2 + 2
  | .str x => (reprText x).length
  | .lst ds => wtL ds + 2
  | .tup ds => wtL ds + 4
  | _ => 5
def wtL : List D → Nat
  | [] => 0
  | d :: ds => wt d + 2 + wtL ds
end
theorem listText_le : ∀ ts : List Str, (listText ts).length ≤ piled ts + 2
  | [] => by decide
  | t :: r => by
    have h := textFrom_length_pos r 1 (("[" : Str) ++ (if (0 : Nat) > 0 then ", " else "" : String) ++ t) (Nat.succ_pos 0)
    have e : ((("[" : Str) ++ (if (0 : Nat) > 0 then ", " else "" : String) ++ t)).length = 1 + t.length := by
      rw [strLen_append, strLen_append]
      rfl
    have hX : (listText (t :: r)).length = (textFrom 1 (("[" : Str) ++ (if (0 : Nat) > 0 then ", " else "" : String) ++ t) r).length + 1 := by
      show (textFrom 1 _ r ++ "]").length = _
      rw [strLen_append]
      rfl
    rw [hX, h, e, piled_cons]
    omega
theorem tupleText_le (ts : List Str) : (tupleText ts).length ≤ piled ts + 4 := by
  unfold tupleText
  rw [strLen_append, strLen_append]
  have e1 : ((("(" : String) : Str)).length = 1 := rfl
  have e3 : (((if ts.length == 1 then ",)" else ")" : String) : Str)).length ≤ 2 := by split <;> decide
  have e2 : (Str.join ", " ts).length ≤ piled ts := by
    cases ts with
    | nil => decide
    | cons t r => have := join_length_add (t :: r) (by simp); omega
  rw [e1]
  omega
mutual
theorem shown_le : ∀ {d : D} {p : PyData}, toPy d = some p → p.shown.length ≤ wt d
  | .non, p, e => by cases e; simp only [PyData.shown, wt]; decide
  | .bl b, p, e => by cases e; simp only [PyData.shown, wt]; cases b <;> decide
  | .int i, p, e => by
    cases e
    simp only [PyData.shown, wt]
    have h := int_text_length_le (a := i) (k := i.natAbs.log2 + 1) (by omega) (by omega)
    rw [ofString_length]
    omega
  | .str x, p, e => by
    simp only [toPy] at e
    split at e
    · cases e; simp only [PyData.shown, wt]; exact Nat.le_refl _
    · cases e
  | .lst xs, p, e => by
    simp only [toPy, Option.map_eq_some_iff] at e
    obtain ⟨ps, e1, rfl⟩ := e
    simp only [PyData.shown, wt]
    have h := shownL_le e1
    have h2 := listText_le (PyData.shownAll ps)
    omega
  | .tup xs, p, e => by
    simp only [toPy, Option.map_eq_some_iff] at e
    obtain ⟨ps, e1, rfl⟩ := e
    simp only [PyData.shown, wt]
    have h := shownL_le e1
    have h2 := tupleText_le (PyData.shownAll ps)
    omega
  | .dct _, p, e => by cases e
  | .dcT _, p, e => by cases e
  | .dcN _, p, e => by cases e
  | .obj _ _, p, e => by cases e
  | .scr _, p, e => by cases e
  | .cls _, p, e => by cases e
  | .ty _, p, e => by cases e
  | .clo _ _ _, p, e => by cases e
theorem shownL_le : ∀ {ds : List D} {ps : List PyData}, toPyL ds = some ps → piled (PyData.shownAll ps) ≤ wtL ds
  | [], ps, e => by cases e; simp only [PyData.shownAll, wtL]; exact Nat.le_refl _
  | d :: ds, ps, e => by
    simp only [toPyL, Option.bind_eq_some_iff, Option.map_eq_some_iff] at e
    obtain ⟨p, e1, qs, e2, rfl⟩ := e
    have h1 := shown_le e1
    have h2 := shownL_le e2
    simp only [PyData.shownAll, wtL]
    rw [piled_cons]
    omega
end
mutual
/-- every number is short enough to be shown -/
def shD : D → Bool
  | .int i => decide (i.natAbs.log2 < 1920)
  | .lst ds => shL ds
  | .tup ds => shL ds
  | _ => true
def shL : List D → Bool
  | [] => true
  | d :: ds => shD d && shL ds
end
mutual
theorem showable_of : ∀ {d : D} {p : PyData}, toPy d = some p → shD d = true → p.showable = true
  | .non, p, e, _ => by cases e; rfl
  | .bl b, p, e, _ => by cases e; rfl
  | .int i, p, e, h => by cases e; simpa [PyData.showable, shD] using h
  | .str x, p, e, _ => by
    simp only [toPy] at e
    split at e
    · cases e; rfl
    · cases e
  | .lst xs, p, e, h => by
    simp only [toPy, Option.map_eq_some_iff] at e
    obtain ⟨ps, e1, rfl⟩ := e
    simp only [PyData.showable]
    exact showableL_of e1 (by simpa [shD] using h)
  | .tup xs, p, e, h => by
    simp only [toPy, Option.map_eq_some_iff] at e
    obtain ⟨ps, e1, rfl⟩ := e
    simp only [PyData.showable]
    exact showableL_of e1 (by simpa [shD] using h)
  | .dct _, p, e, _ => by cases e
  | .dcT _, p, e, _ => by cases e
  | .dcN _, p, e, _ => by cases e
  | .obj _ _, p, e, _ => by cases e
  | .scr _, p, e, _ => by cases e
  | .cls _, p, e, _ => by cases e
  | .ty _, p, e, _ => by cases e
  | .clo _ _ _, p, e, _ => by cases e
theorem showableL_of : ∀ {ds : List D} {ps : List PyData}, toPyL ds = some ps → shL ds = true → PyData.showableAll ps = true
  | [], ps, e, _ => by cases e; rfl
  | d :: ds, ps, e, h => by
    simp only [toPyL, Option.bind_eq_some_iff, Option.map_eq_some_iff] at e
    obtain ⟨p, e1, qs, e2, rfl⟩ := e
    simp only [shL, Bool.and_eq_true] at h
    simp only [PyData.showableAll, Bool.and_eq_true]
    exact ⟨showable_of e1 h.1, showableL_of e2 h.2⟩
end
/-- the text of plain data -/
theorem repr_pl {n : Nat} {d : D} (hn : n ≤ 50) (h : Pl n d = true) (hs : shD d = true) (hw : wt d ≤ lim) : ∃ x, dRepr [d] = some (.str x) := by
  obtain ⟨p, e, hd⟩ := pl_py h
  refine ⟨p.shown, ?_⟩
  show (toPy d).bind _ = _
  rw [e, Option.bind_some, if_pos]
  unfold reprOk
  simp only [Bool.and_eq_true, decide_eq_true_eq]
  exact ⟨⟨showable_of e hs, Nat.le_trans (shown_le e) hw⟩, by omega⟩
end DL

namespace DL
open PySem L2
theorem cutG_sub {α : Type} {xs : List α} {lo hi : Option Int} : (cutG xs lo hi).Sublist xs := (List.take_sublist _ _).trans (List.drop_sublist _ _)
theorem cutG_mem {α : Type} {xs : List α} {lo hi : Option Int} {x : α} (h : x ∈ cutG xs lo hi) : x ∈ xs := cutG_sub.subset h
theorem cutG_len {α : Type} {xs : List α} {lo hi : Option Int} : (cutG xs lo hi).length ≤ xs.length := cutG_sub.length_le
theorem atI_mem {α : Type} {xs : List α} {i : Int} {x : α} (h : atI xs i = some x) : x ∈ xs := by
  unfold atI at h
  rw [Option.bind_eq_some_iff] at h
  obtain ⟨j, _, h⟩ := h
  exact List.mem_of_getElem? h
theorem atI_last {α : Type} {xs : List α} (h : xs ≠ []) : atI xs (-1) = some (xs.getLast h) := by
  have hl : 0 < xs.length := List.length_pos_iff.mpr h
  have e : ixN xs.length (-1) = some (xs.length - 1) := by
    unfold ixN
    rw [if_neg (by omega), if_pos (by omega)]
    congr 1
    omega
  unfold atI
  rw [e, Option.bind_some, List.getLast_eq_getElem]
  simp [hl]
theorem atI_first {α : Type} {xs : List α} (h : xs ≠ []) : ∃ x, atI xs 0 = some x ∧ x ∈ xs := by
  cases xs with
  | nil => exact absurd rfl h
  | cons x xs => exact ⟨x, atI_0, List.mem_cons_self ..⟩
theorem atI_lastM {α : Type} {xs : List α} (h : xs ≠ []) : ∃ x, atI xs (-1) = some x ∧ x ∈ xs := ⟨_, atI_last h, List.getLast_mem h⟩
theorem eqD_nil {n : Nat} {ds : List D} (hn : n ≤ 59) (h : ds.all (Pl n) = true) : eqD (.lst ds) (.lst []) = some ds.isEmpty := by
  rw [eqD_pl (n := n + 1) (x := .lst ds) (y := .lst []) (by omega) (show ds.all (Pl n) = true from h) rfl]
  congr 1
  rw [Bool.eq_iff_iff, eqB_iff]
  cases ds <;> simp
/-! the words -/
@[simp] theorem ok_put : PyData.strOk "put" = true := by decide +kernel
@[simp] theorem ok_take : PyData.strOk "take" = true := by decide +kernel
@[simp] theorem ok_left : PyData.strOk "left" = true := by decide +kernel
@[simp] theorem ok_right : PyData.strOk "right" = true := by decide +kernel
@[simp] theorem ne_take_put : (("take" : Str) = "put") = False := eq_false (by decide +kernel)
@[simp] theorem ne_put_take : (("put" : Str) = "take") = False := eq_false (by decide +kernel)
@[simp] theorem ne_left_right : (("left" : Str) = "right") = False := eq_false (by decide +kernel)
@[simp] theorem ne_right_left : (("right" : Str) = "left") = False := eq_false (by decide +kernel)
end DL

namespace DL
open PySem L2
theorem isi_k {tb : Str → Str → Option Bool} {d : D} {T k : String} {b : Bool} (h : T ∈ tyNames) (hk : kindOf d = some k) (hb : isiT k T = b) : isiOne tb d (.ty T) = some b := by
  unfold isiOne
  dsimp only
  rw [if_pos h, hk]
  exact congrArg _ hb
theorem obj_k {tb : Str → Str → Option Bool} {n : Str} {fs : List (Str × D)} {T : String} (h : T ∈ tyNames) : isiOne tb (.obj n fs) (.ty T) = some false := by
  unfold isiOne
  dsimp only
  rw [if_pos h]
  rfl
@[simp] theorem isi_non_int {tb : Str → Str → Option Bool} : isiOne tb .non (.ty "int") = some false := isi_k (by decide +kernel) rfl (by decide +kernel)
@[simp] theorem isi_non_bool {tb : Str → Str → Option Bool} : isiOne tb .non (.ty "bool") = some false := isi_k (by decide +kernel) rfl (by decide +kernel)
@[simp] theorem isi_non_str {tb : Str → Str → Option Bool} : isiOne tb .non (.ty "str") = some false := isi_k (by decide +kernel) rfl (by decide +kernel)
@[simp] theorem isi_non_list {tb : Str → Str → Option Bool} : isiOne tb .non (.ty "list") = some false := isi_k (by decide +kernel) rfl (by decide +kernel)
@[simp] theorem isi_non_tuple {tb : Str → Str → Option Bool} : isiOne tb .non (.ty "tuple") = some false := isi_k (by decide +kernel) rfl (by decide +kernel)
@[simp] theorem isi_non_dict {tb : Str → Str → Option Bool} : isiOne tb .non (.ty "dict") = some false := isi_k (by decide +kernel) rfl (by decide +kernel)
@[simp] theorem isi_bl_int {tb : Str → Str → Option Bool} {b : Bool} : isiOne tb (.bl b) (.ty "int") = some true := isi_k (by decide +kernel) rfl (by decide +kernel)
@[simp] theorem isi_bl_bool {tb : Str → Str → Option Bool} {b : Bool} : isiOne tb (.bl b) (.ty "bool") = some true := isi_k (by decide +kernel) rfl (by decide +kernel)
@[simp] theorem isi_bl_str {tb : Str → Str → Option Bool} {b : Bool} : isiOne tb (.bl b) (.ty "str") = some false := isi_k (by decide +kernel) rfl (by decide +kernel)
@[simp] theorem isi_bl_list {tb : Str → Str → Option Bool} {b : Bool} : isiOne tb (.bl b) (.ty "list") = some false := isi_k (by decide +kernel) rfl (by decide +kernel)
@[simp] theorem isi_bl_tuple {tb : Str → Str → Option Bool} {b : Bool} : isiOne tb (.bl b) (.ty "tuple") = some false := isi_k (by decide +kernel) rfl (by decide +kernel)
@[simp] theorem isi_bl_dict {tb : Str → Str → Option Bool} {b : Bool} : isiOne tb (.bl b) (.ty "dict") = some false := isi_k (by decide +kernel) rfl (by decide +kernel)
@[simp] theorem isi_int_int {tb : Str → Str → Option Bool} {i : Int} : isiOne tb (.int i) (.ty "int") = some true := isi_k (by decide +kernel) rfl (by decide +kernel)
@[simp] theorem isi_int_bool {tb : Str → Str → Option Bool} {i : Int} : isiOne tb (.int i) (.ty "bool") = some false := isi_k (by decide +kernel) rfl (by decide +kernel)
@[simp] theorem isi_int_str {tb : Str → Str → Option Bool} {i : Int} : isiOne tb (.int i) (.ty "str") = some false := isi_k (by decide +kernel) rfl (by decide +kernel)
@[simp] theorem isi_int_list {tb : Str → Str → Option Bool} {i : Int} : isiOne tb (.int i) (.ty "list") = some false := isi_k (by decide +kernel) rfl (by decide +kernel)
@[simp] theorem isi_int_tuple {tb : Str → Str → Option Bool} {i : Int} : isiOne tb (.int i) (.ty "tuple") = some false := isi_k (by decide +kernel) rfl (by decide +kernel)
@[simp] theorem isi_int_dict {tb : Str → Str → Option Bool} {i : Int} : isiOne tb (.int i) (.ty "dict") = some false := isi_k (by decide +kernel) rfl (by decide +kernel)
@[simp] theorem isi_str_int {tb : Str → Str → Option Bool} {x : Str} : isiOne tb (.str x) (.ty "int") = some false := isi_k (by decide +kernel) rfl (by decide +kernel)
@[simp] theorem isi_str_bool {tb : Str → Str → Option Bool} {x : Str} : isiOne tb (.str x) (.ty "bool") = some false := isi_k (by decide +kernel) rfl (by decide +kernel)
@[simp] theorem isi_str_str {tb : Str → Str → Option Bool} {x : Str} : isiOne tb (.str x) (.ty "str") = some true := isi_k (by decide +kernel) rfl (by decide +kernel)
@[simp] theorem isi_str_list {tb : Str → Str → Option Bool} {x : Str} : isiOne tb (.str x) (.ty "list") = some false := isi_k (by decide +kernel) rfl (by decide +kernel)
@[simp] theorem isi_str_tuple {tb : Str → Str → Option Bool} {x : Str} : isiOne tb (.str x) (.ty "tuple") = some false := isi_k (by decide +kernel) rfl (by decide +kernel)
@[simp] theorem isi_str_dict {tb : Str → Str → Option Bool} {x : Str} : isiOne tb (.str x) (.ty "dict") = some false := isi_k (by decide +kernel) rfl (by decide +kernel)
@[simp] theorem isi_lst_int {tb : Str → Str → Option Bool} {xs : List D} : isiOne tb (.lst xs) (.ty "int") = some false := isi_k (by decide +kernel) rfl (by decide +kernel)
@[simp] theorem isi_lst_bool {tb : Str → Str → Option Bool} {xs : List D} : isiOne tb (.lst xs) (.ty "bool") = some false := isi_k (by decide +kernel) rfl (by decide +kernel)
@[simp] theorem isi_lst_str {tb : Str → Str → Option Bool} {xs : List D} : isiOne tb (.lst xs) (.ty "str") = some false := isi_k (by decide +kernel) rfl (by decide +kernel)
@[simp] theorem isi_lst_list {tb : Str → Str → Option Bool} {xs : List D} : isiOne tb (.lst xs) (.ty "list") = some true := isi_k (by decide +kernel) rfl (by decide +kernel)
@[simp] theorem isi_lst_tuple {tb : Str → Str → Option Bool} {xs : List D} : isiOne tb (.lst xs) (.ty "tuple") = some false := isi_k (by decide +kernel) rfl (by decide +kernel)
@[simp] theorem isi_lst_dict {tb : Str → Str → Option Bool} {xs : List D} : isiOne tb (.lst xs) (.ty "dict") = some false := isi_k (by decide +kernel) rfl (by decide +kernel)
@[simp] theorem isi_tup_int {tb : Str → Str → Option Bool} {xs : List D} : isiOne tb (.tup xs) (.ty "int") = some false := isi_k (by decide +kernel) rfl (by decide +kernel)
@[simp] theorem isi_tup_bool {tb : Str → Str → Option Bool} {xs : List D} : isiOne tb (.tup xs) (.ty "bool") = some false := isi_k (by decide +kernel) rfl (by decide +kernel)
@[simp] theorem isi_tup_str {tb : Str → Str → Option Bool} {xs : List D} : isiOne tb (.tup xs) (.ty "str") = some false := isi_k (by decide +kernel) rfl (by decide +kernel)
@[simp] theorem isi_tup_list {tb : Str → Str → Option Bool} {xs : List D} : isiOne tb (.tup xs) (.ty "list") = some false := isi_k (by decide +kernel) rfl (by decide +kernel)
@[simp] theorem isi_tup_tuple {tb : Str → Str → Option Bool} {xs : List D} : isiOne tb (.tup xs) (.ty "tuple") = some true := isi_k (by decide +kernel) rfl (by decide +kernel)
@[simp] theorem isi_tup_dict {tb : Str → Str → Option Bool} {xs : List D} : isiOne tb (.tup xs) (.ty "dict") = some false := isi_k (by decide +kernel) rfl (by decide +kernel)
@[simp] theorem isi_dct_int {tb : Str → Str → Option Bool} {kvs : List (Key × D)} : isiOne tb (.dct kvs) (.ty "int") = some false := isi_k (by decide +kernel) rfl (by decide +kernel)
@[simp] theorem isi_dct_bool {tb : Str → Str → Option Bool} {kvs : List (Key × D)} : isiOne tb (.dct kvs) (.ty "bool") = some false := isi_k (by decide +kernel) rfl (by decide +kernel)
@[simp] theorem isi_dct_str {tb : Str → Str → Option Bool} {kvs : List (Key × D)} : isiOne tb (.dct kvs) (.ty "str") = some false := isi_k (by decide +kernel) rfl (by decide +kernel)
@[simp] theorem isi_dct_list {tb : Str → Str → Option Bool} {kvs : List (Key × D)} : isiOne tb (.dct kvs) (.ty "list") = some false := isi_k (by decide +kernel) rfl (by decide +kernel)
@[simp] theorem isi_dct_tuple {tb : Str → Str → Option Bool} {kvs : List (Key × D)} : isiOne tb (.dct kvs) (.ty "tuple") = some false := isi_k (by decide +kernel) rfl (by decide +kernel)
@[simp] theorem isi_dct_dict {tb : Str → Str → Option Bool} {kvs : List (Key × D)} : isiOne tb (.dct kvs) (.ty "dict") = some true := isi_k (by decide +kernel) rfl (by decide +kernel)
@[simp] theorem isi_scr_int {tb : Str → Str → Option Bool} {ns : List Int} : isiOne tb (.scr ns) (.ty "int") = some false := isi_k (by decide +kernel) rfl (by decide +kernel)
@[simp] theorem isi_scr_bool {tb : Str → Str → Option Bool} {ns : List Int} : isiOne tb (.scr ns) (.ty "bool") = some false := isi_k (by decide +kernel) rfl (by decide +kernel)
@[simp] theorem isi_scr_str {tb : Str → Str → Option Bool} {ns : List Int} : isiOne tb (.scr ns) (.ty "str") = some false := isi_k (by decide +kernel) rfl (by decide +kernel)
@[simp] theorem isi_scr_list {tb : Str → Str → Option Bool} {ns : List Int} : isiOne tb (.scr ns) (.ty "list") = some true := isi_k (by decide +kernel) rfl (by decide +kernel)
@[simp] theorem isi_scr_tuple {tb : Str → Str → Option Bool} {ns : List Int} : isiOne tb (.scr ns) (.ty "tuple") = some false := isi_k (by decide +kernel) rfl (by decide +kernel)
@[simp] theorem isi_scr_dict {tb : Str → Str → Option Bool} {ns : List Int} : isiOne tb (.scr ns) (.ty "dict") = some false := isi_k (by decide +kernel) rfl (by decide +kernel)
@[simp] theorem isi_obj_int {tb : Str → Str → Option Bool} {n : Str} {fs : List (Str × D)} : isiOne tb (.obj n fs) (.ty "int") = some false := obj_k (by decide +kernel)
@[simp] theorem isi_obj_bool {tb : Str → Str → Option Bool} {n : Str} {fs : List (Str × D)} : isiOne tb (.obj n fs) (.ty "bool") = some false := obj_k (by decide +kernel)
@[simp] theorem isi_obj_str {tb : Str → Str → Option Bool} {n : Str} {fs : List (Str × D)} : isiOne tb (.obj n fs) (.ty "str") = some false := obj_k (by decide +kernel)
@[simp] theorem isi_obj_list {tb : Str → Str → Option Bool} {n : Str} {fs : List (Str × D)} : isiOne tb (.obj n fs) (.ty "list") = some false := obj_k (by decide +kernel)
@[simp] theorem isi_obj_tuple {tb : Str → Str → Option Bool} {n : Str} {fs : List (Str × D)} : isiOne tb (.obj n fs) (.ty "tuple") = some false := obj_k (by decide +kernel)
@[simp] theorem isi_obj_dict {tb : Str → Str → Option Bool} {n : Str} {fs : List (Str × D)} : isiOne tb (.obj n fs) (.ty "dict") = some false := obj_k (by decide +kernel)
/-! flat things in flat lists -/
@[simp] theorem inB_str2 {a b c : Str} : inB (.str a) (.tup [.str b, .str c]) = some (decide (a = b) || decide (a = c)) := by
  have e : inB (.str a) (.tup [.str b, .str c]) = some (inD (.str a) [.str b, .str c]) := rfl
  rw [e]
  have h : ∀ x y : Str, (x == y) = decide (y = x) := fun x y => by
    rw [Bool.eq_iff_iff, beq_iff_eq, decide_eq_true_eq]
    exact eq_comm
  simp only [inD, List.any_cons, List.any_nil, flatEq, Bool.or_false, h]
end DL

namespace DL
open PySem L2
@[simp] theorem eqD_bl {a b : Bool} : eqD (.bl a) (.bl b) = some (decide (a = b)) := by
  cases a <;> cases b <;> rfl
@[simp] theorem dMul_lst {a : List D} {k : Int} : dMul (.lst a) (.int k) = if a.length * k.toNat ≤ lim ∧ -1000000 ≤ k ∧ k ≤ 1000000 then some (.lst (List.replicate k.toNat a).flatten) else none := (rfl)
@[simp] theorem dRev_lst {a : List D} : dRev (.lst a) = some (.lst a.reverse) := (rfl)
@[simp] theorem dStep_one {a : List D} : dStep (.lst a) (some 1) = some (.lst a) := (rfl)
@[simp] theorem dStep_neg {a : List D} : dStep (.lst a) (some (-1)) = some (.lst a.reverse) := (rfl)
@[simp] theorem wp_step {Δ : SD} {E : EX} {fa : M AK} {fs : M (Option Int)} {P : D → SD → Prop} : wp (mStep fa fs) Δ (K := ⟨P, E⟩) = wp fa Δ (K := ⟨fun a Δ1 => wp fs Δ1 (K := ⟨fun o Δ2 => wp (mGet a) Δ2 (K := ⟨fun d Δ3 => wp (mOpt (dStep d o)) Δ3 (K := ⟨P, E⟩), E⟩), E⟩), E⟩) := by
  unfold mStep
  repeat (first | rfl | rw [wp_bind] | rw [wp_pure] | refine wp_ext fun _ _ => ?_)
/-- a row of whole numbers -/
def rowD (ns : List Int) : D := .lst (ns.map D.int)
theorem rowD_inj {a b : List Int} : rowD a = rowD b ↔ a = b := by
  constructor
  · intro h
    have h' : a.map D.int = b.map D.int := by unfold rowD at h; exact D.lst.inj h
    exact (List.map_inj_right (fun x y e => D.int.inj e)).mp h'
  · intro h; rw [h]
theorem pl_ints (ns : List Int) : (ns.map D.int).all (Pl 0) = true := by
  rw [List.all_eq_true]
  intro x hx
  obtain ⟨n, _, rfl⟩ := List.mem_map.mp hx
  rfl
theorem eqD_row {a b : List Int} : eqD (rowD a) (rowD b) = some (decide (a = b)) := by
  rw [eqD_pl (n := 1) (x := rowD a) (y := rowD b) (by omega) (pl_ints a) (pl_ints b)]
  congr 1
  rw [Bool.eq_iff_iff, eqB_iff, decide_eq_true_eq, rowD_inj]
theorem eqD_rowN {a : List Int} : eqD (rowD a) (.lst []) = some a.isEmpty := by
  have e : eqD (rowD a) (rowD []) = some (decide (a = [])) := eqD_row
  have e2 : eqD (rowD a) (.lst []) = some (decide (a = [])) := e
  rw [e2]
  congr 1
  cases a <;> simp
end DL

namespace DL
open PySem L2 PySem.Spec PyProof.Rows

/-! ### a promise by positional values -/
structure DRn (P : Program) (w : World) (K : PySem.W.Frag) (mg : Str → Option Value) (base : Heap) (T : List (Addr × Str)) (k : Nat) (f : Addr) (sp : Sp) : Prop where
  run : ∀ (A : Around) (outer : List Env) (s : Shared) (H : Hp) (us : List Value) (vs : List V) (Q : VK) (E : XK), Room k A → (20 ≤ k → A.guards = some []) → Env0 P w K mg base A outer s H → Vals vs us → sp vs H Q E →
    codeAny (model P w) A (.call (.ref f) ⟨us, []⟩) (CR (L2.CX P w) outer P w H s Q E) s
section
variable {P : Program} {w : World} {K : PySem.W.Frag} {mg : Str → Option Value} {base : Heap} {k : Nat} {f : Addr} {fd : FuncData} {ps : List Str} {io : List Nat} {g : List D → RD}
theorem DFn.raw (F : DFn P w K mg base T k f fd ps io g) (hb : Binds K fd ps []) : DRn P w K mg base T k f (spD ⟨K, mg, T⟩ ps.length io g) := by
  constructor
  intro A outer s H us vs Q E hr hg e0 r h
  have hl : us.length = ps.length := by
    obtain ⟨_, _, _, e, _⟩ := h
    rw [← r.length, e]
  have hbind := hb s us (e0.mod.kin.keeps fun b o e => (e0.bs b o e).1) (by rw [List.append_nil]; exact hl)
  rw [List.append_nil] at hbind
  exact F.run A outer s H ⟨us, []⟩ us vs Q E hr hg e0 hbind r h
end
section
variable {X : Cx} {c : Ct} {W : WX} {k kf : Nat} {f : Addr} {sp : Sp}
/-- the callee runs, within a step that lies above the caller -/
theorem code_drn {A : Around} {pins : List (Addr × Obj)} {σ : L2.St} {H : Hp} {s : Shared} {Q : VK} {us : List Value} {vs : List V} (F : DRn X.prog X.w X.K X.mg X.base c.T kf f sp) (o : Ok X c W k) (hr : Room kf A) (hg : 20 ≤ kf → A.guards = some []) (e0 : Env0 X.prog X.w X.K X.mg X.base A X.stack s H) (I : Inv X pins σ H s) (r : Vals vs us)
    (h : sp vs H Q (fun cls d H' => W cls d σ H')) : codeAny (model X.prog X.w) A (.call (.ref f) ⟨us, []⟩) (fun r s' => match r with | .ok (.ret v) => EP X pins σ Q v s' | .ok _ => False | .error e => X.xe e s') s := by
  refine codeAny_mono (F.run A X.stack s H us vs Q _ hr hg e0 r h) fun res s' hq => ?_
  cases res with
  | error e => exact o.tk _ _ (XE.of_call I (fun _ _ _ z => z) hq)
  | ok fl =>
    cases fl with
    | ret u => exact I.after hq
    | next => exact hq.elim
    | brk => exact hq.elim
    | cont => exact hq.elim
theorem run_drn {pins : List (Addr × Obj)} {σ : L2.St} {H : Hp} {s : Shared} {Q : VK} {us : List Value} {vs : List V} (F : DRn X.prog X.w X.K X.mg X.base c.T kf f sp) (o : Ok X c W k) (hk : kf ≤ k) (I : Inv X pins σ H s) (r : Vals vs us)
    (h : sp vs H Q (fun cls d H' => W cls d σ H')) : wpAny (model X.prog X.w) X.A (call (.ref f) us) (EP X pins σ Q) X.xe s :=
  wpAny_call (codeAny_mono (code_drn F o (o.room.mono hk) (fun h => o.gd (by omega)) I.env0 I r h) fun res s' hq => by
    cases res with
    | error e => exact hq
    | ok fl =>
      cases fl with
      | ret u => exact hq
      | next => exact hq.elim
      | brk => exact hq.elim
      | cont => exact hq.elim)
end

/-! ### attributes -/
theorem repF_lookup {G : Gc} {Av : Addr → Prop} {H : Hp} {f : Str} : ∀ {fs : List (Str × D)} {us : List (Str × V)}, RepF G Av H fs us → match fs.lookup f with
    | some d => ∃ v, us.lookup f = some v ∧ Rep G Av H d v
    | none => us.lookup f = none
  | [], us, h => by unfold RepF at h; subst h; rfl
  | (q, d) :: fs, us, h => by
    unfold RepF at h
    obtain ⟨v, r, rfl, h1, h2⟩ := h
    rw [List.lookup_cons, List.lookup_cons]
    cases f == q with
    | true => exact ⟨v, rfl, h1⟩
    | false => exact repF_lookup h2
theorem repF_length {G : Gc} {Av : Addr → Prop} {H : Hp} : ∀ {fs : List (Str × D)} {us : List (Str × V)}, RepF G Av H fs us → us.length = fs.length
  | [], us, h => by unfold RepF at h; subst h; rfl
  | (q, d) :: fs, us, h => by
    unfold RepF at h
    obtain ⟨v, r, rfl, h1, h2⟩ := h
    rw [List.length_cons, List.length_cons, repF_length h2]
theorem rep1_obj {G : Gc} {Av : Addr → Prop} {H : Hp} {n : Str} {fs : List (Str × D)} {v : V} (h : Rep1 G Av H (.obj n fs) v) : ∃ a C dx us, v = .ref a ∧ G.mg n = some (.ref C) ∧ ObjK G.K C ∧ H a = some (.ins C dx us) ∧ RepF G Av H fs us := by
  rcases h with h | ⟨a, rfl, C, dx, us, ⟨hm, ok⟩, hh, r⟩
  · unfold Rep at h
    obtain ⟨a, C, dx, us, e, _, ⟨hm, ok⟩, hh, r⟩ := h
    exact ⟨a, C, dx, us, e, hm, ok, hh, r⟩
  · exact ⟨a, C, dx, us, rfl, hm, ok, hh, r⟩
def dFld (n f : Str) : D → Option D
  | .obj m fs => if m = n then fs.lookup f else none
  | _ => none
/-- the class n has no attribute f of its own -/
def NoA (K : PySem.W.Frag) (mg : Str → Option Value) (n f : Str) : Prop := ∃ C, mg n = some (.ref C) ∧ NoAttr K C f
section
variable {X : Cx} {c : Ct} {W : WX} {k : Nat} {n f : Str} {e : Expr} {fa : M AK} {pos : Pos}
theorem de_fld (o : Ok X c W k) (na : NoA X.K X.mg n f) (ha : DO X c W e fa) (hb : attributeBase e f X.env (eval e X.env) = eval e X.env := by rfl) : DE X c W (.Attribute e f pos) (mUn (dFld n f) fa) := by
  obtain ⟨ta, pa, sa⟩ := ha.out
  refine ⟨_, pe_fld pa hb, fun x σ H Δ Q sr q => sa x σ H Δ _ sr (q.bind fun a Δ1 q1 v x1 H1 k1 sr1 h1 => ?_)⟩
  have q2 := q1.step k1 fun a Δ q => okV.step k1 q
  obtain ⟨dx, r1, q3⟩ := Post.get sr1 h1 q2
  have q4 := Post.outV sr1 q3
  cases dx <;> first | exact q4.elim | skip
  rename_i m fs
  change outV c.toGc x1.Av H1 Q (if m = n then fs.lookup f else none) at q4
  by_cases hm : m = n
  case neg => rw [if_neg hm] at q4; exact q4.elim
  rw [if_pos hm] at q4
  subst hm
  obtain ⟨a, C, dx, us, rfl, hg, ok, hh, rf⟩ := rep1_obj r1
  obtain ⟨C', hC, no⟩ := na
  rw [← o.hmg, hg] at hC
  cases hC
  have l := repF_lookup (f := f) rf
  revert q4 l
  cases fs.lookup f with
  | none => intro q4; exact q4.elim
  | some d =>
    rintro q4 ⟨v, hv, rv⟩
    exact ⟨a, C, dx, us, v, rfl, hh, o.hK ▸ ok.cl, no, hv, q4 v H1 (Ex.refl _) rv⟩
end

/-! ### e.f = value, the object a slot's own -/
def putFD (f : Str) (v : D) : List (Str × D) → List (Str × D)
  | [] => [(f, v)]
  | (g, x) :: r => if g = f then (g, v) :: r else (g, x) :: putFD f v r
theorem repF_put {G : Gc} {Av : Addr → Prop} {H : Hp} {f : Str} {d : D} {v : V} (hv : Rep G Av H d v) : ∀ {fs : List (Str × D)} {us : List (Str × V)}, RepF G Av H fs us → RepF G Av H (putFD f d fs) (putF f v us)
  | [], us, h => by
    unfold RepF at h; subst h
    show RepF G Av H [(f, d)] [(f, v)]
    unfold RepF
    exact ⟨v, [], rfl, hv, by unfold RepF; rfl⟩
  | (q, x) :: fs, us, h => by
    unfold RepF at h
    obtain ⟨u, r, rfl, h1, h2⟩ := h
    show RepF G Av H (if q = f then (q, d) :: fs else (q, x) :: putFD f d fs) (if q = f then (q, v) :: r else (q, u) :: putF f v r)
    by_cases e : q = f
    · rw [if_pos e, if_pos e]
      unfold RepF
      exact ⟨v, r, rfl, hv, h2⟩
    · rw [if_neg e, if_neg e]
      unfold RepF
      exact ⟨u, _, rfl, h1, repF_put hv h2⟩
def isObjD (n : Str) : D → Bool
  | .obj m fs => decide (m = n) && decide (fs.length < 100)
  | _ => false
def gSetF (f : Str) (v : D) : D → Option (Unit × D)
  | .obj n fs => some ((), .obj n (putFD f v fs))
  | _ => none
def mSetF (i : Nat) (n f : Str) (fe : M D) : M Fl := mBind fe fun v => mBind (mHold (isObjD n) i) fun _ => mBind (mUpd i (gSetF f v)) fun _ => mNx
section
variable {X : Cx} {c : Ct} {W : WX} {k i : Nat} {n f x : Str} {e : Expr} {fe : M D} {pos p1 p2 : Pos}
theorem ds_setF (o : Ok X c W k) (na : NoA X.K X.mg n f) (hN : X.N[i]? = some x) (hv : Vis X.env.scope x) (he : DE X c W e fe) (hdb : (x == ("__debug__" : Str)) = false := by decide) (hcd : (x == ("__classdict__" : Str)) = false := by decide)
    (hs : swapsWith e (some (.Attribute (.Name x p1) f p2)) pos.line X.env = pure false := by rfl) : DS X c W (.Assign [.Attribute (.Name x p1) f p2] e pos) (mSetF i n f fe) := by
  obtain ⟨te, pe, se⟩ := he.out
  refine ⟨_, ps_fld (pe_var hN hv hdb hcd) pe hs, fun y σ H Δ E sr q => ?_⟩
  refine se y σ H Δ _ sr (Post.bind (q.toPost (σ := σ)) fun v Δ1 q1 u x1 H1 k1 sr1 r1 => ?_)
  obtain ⟨d0, e0, hp, q2⟩ := Post.hold (q1.stepS k1)
  obtain ⟨d, b, d', e2, eu, q3⟩ := Post.upd q2
  rw [e0] at e2
  cases e2
  obtain ⟨a, ha0, hσ, ho, nav⟩ := sr1.owAt e0
  cases d0 <;> first | cases hp | skip
  rename_i m fs
  change (decide (m = n) && decide (fs.length < 100)) = true at hp
  rw [Bool.and_eq_true, decide_eq_true_eq, decide_eq_true_eq] at hp
  obtain ⟨rfl, hl⟩ := hp
  cases eu
  obtain ⟨C, dx, us, ⟨hm, ok⟩, hh, rf⟩ := ho
  obtain ⟨C', hC, no⟩ := na
  rw [o.hmg] at hm
  rw [hm] at hC
  cases hC
  have hok : ObjK X.K C := o.hK ▸ ok
  refine ⟨.ref a, hσ, a, C, dx, us, rfl, hh, hok.cl, no, by rw [repF_length rf]; omega, ?_⟩
  have key : Own c.toGc x1.Av (upd H1 a (.ins C dx (putF f u us))) a (.obj m (putFD f v fs)) := ⟨C, dx, _, ⟨by rw [o.hmg]; exact hm, ok⟩, upd_same, (repF_put r1 rf).keep (Keep.temp _ nav)⟩
  obtain ⟨k3, sr3⟩ := sr1.ownUpd e0 ha0 key
  exact q3 σ x1 _ k3 sr3
end

/-! ### methods -/
structure MtD (P : Program) (w : World) (K : PySem.W.Frag) (mg : Str → Option Value) (base : Heap) (T : List (Addr × Str)) (n m : Str) (k : Nat) (ps : List Str) (io : List Nat) (g : List D → RD) : Prop where
  out : ∃ (C f : Addr) (fd : FuncData), mg n = some (.ref C) ∧ Cls K C ∧ Meth K C m f ∧ Binds K fd ps [] ∧ DFn P w K mg base T k f fd ps io g
def chkO (n m : Str) : D → Bool
  | .obj k fs => decide (k = n) && (fs.lookup m).isNone
  | _ => false
def mMeth (n m : Str) (np : Nat) (io : List Nat) (g : List D → RD) (fo : M AK) (fs : M (List AK)) : M D := mBind fo fun a => mBind (mGet a) fun d => mBind (mOpt (if chkO n m d = true then some () else none)) fun _ => mBind fs fun as => mBind (callRes np io g (a :: as)) fun r => mPure r.1
def mMethN (n m : Str) (np : Nat) (io : List Nat) (g : List D → RD) (fo : M AK) (fs : M (List AK)) : M D := mBind fo fun a => mBind (mGet a) fun d => mBind (mOpt (if chkO n m d = true then some () else none)) fun _ => mBind fs fun as => mBind (callRes np io g (a :: as)) fun r => if r.2 = true then mPure r.1 else mBad
section
variable {X : Cx} {c : Ct} {W : WX} {k kf : Nat} {C f : Addr} {fd : FuncData} {ps : List Str} {io : List Nat} {g : List D → RD} {n m : Str} {ob e : Expr} {es : List Expr} {fo : M AK} {fs : M (List AK)} {pos apos : Pos}
theorem pe_dmeth {sp : Sp} {ta : TE} {t : TA} {T : TE} {pl : Sem Bool} (F : DRn X.prog X.w X.K X.mg X.base c.T kf f sp) (o : Ok X c W k) (hk : kf ≤ k) (cl : Cls X.K C) (hm : Meth X.K C m f) (pe : PE X ob ta) (pa : PA X (e :: es) t)
    (hT : ∀ σ H Q, T σ H Q → ta σ H fun x H1 => ∃ a dx us, x = .ref a ∧ H1 a = some (.ins C dx us) ∧ us.lookup m = none ∧ t σ H1 fun vs H2 => sp (x :: vs) H2 Q fun cls d H' => W cls d σ H')
    (hst : starEach (e :: es) X.env = (false, eval e X.env) :: starEach es X.env := by rfl) (hpl : (backTo pos (starEach es X.env)).any (·.1) = false := by rfl)
    (ht : eval (.Call (.Attribute ob m apos) (e :: es) [] pos) X.env = (do
      let ov ← eval ob X.env
      standAt apos.atName
      let (f, first) ← holding [ov] (getMethod ov m pl)
      callWith pos f first (backTo pos (starEach (e :: es) X.env)) (backToKw pos (keywordEach [] X.env))) := by rfl) : PE X (.Call (.Attribute ob m apos) (e :: es) [] pos) T := by
  refine ⟨fun pins s σ H Q I h => ?_⟩
  refine PySem.W.methodCall_KW (pl := pl) (thn (pe.run pins s σ H _ I (hT σ H Q h)) fun u s1 ⟨x, H1, I1, rx, a, dx, us, ex, ea, l, q⟩ => ?_) ht
  subst ex
  obtain rfl : u = Value.ref a := rx
  refine getmeth_ok I1 ea cl hm l ?_
  refine PySem.W.callWith_K (first := [.ref a]) (h₀ := X.base) I.ok.mod.kin hm.kp (thn (pa.run pos pins s1 σ H1 _ I1 q) fun us s2 ⟨vs, H2, I2, r, q2⟩ => ⟨I2.kIn, ?_⟩) hst hpl
  exact run_drn (us := .ref a :: us) (vs := .ref a :: vs) F o hk I2 (.cons rfl r) q2
theorem pe_dmeth0 {sp : Sp} {ta : TE} {T : TE} {pl : Sem Bool} (F : DRn X.prog X.w X.K X.mg X.base c.T kf f sp) (o : Ok X c W k) (hk : kf ≤ k) (cl : Cls X.K C) (hm : Meth X.K C m f) (pe : PE X ob ta)
    (hT : ∀ σ H Q, T σ H Q → ta σ H fun x H1 => ∃ a dx us, x = .ref a ∧ H1 a = some (.ins C dx us) ∧ us.lookup m = none ∧ sp [x] H1 Q fun cls d H' => W cls d σ H')
    (ht : eval (.Call (.Attribute ob m apos) [] [] pos) X.env = (do
      let ov ← eval ob X.env
      standAt apos.atName
      let (f, first) ← holding [ov] (getMethod ov m pl)
      callWith pos f first (backTo pos (starEach [] X.env)) (backToKw pos (keywordEach [] X.env))) := by rfl) : PE X (.Call (.Attribute ob m apos) [] [] pos) T := by
  refine ⟨fun pins s σ H Q I h => ?_⟩
  refine PySem.W.methodCall_KW (pl := pl) (thn (pe.run pins s σ H _ I (hT σ H Q h)) fun u s1 ⟨x, H1, I1, rx, a, dx, us, ex, ea, l, q⟩ => ?_) ht
  subst ex
  obtain rfl : u = Value.ref a := rx
  refine getmeth_ok I1 ea cl hm l ?_
  exact PySem.W.callWith_K0 (first := [.ref a]) I1.kIn hm.kp (run_drn (us := [.ref a]) (vs := [.ref a]) F o hk I1 (.cons rfl .nil) q)
theorem chk_some {d : D} {ok : Unit → SD → Prop} {x : Sx} {σ : L2.St} {H : Hp} {Δ : SD} {α : Type} {okr : α → SD → Prop} {r : Unit → M α} (q : Post c W x σ H okr (mBind (mOpt (if chkO n m d = true then some () else none)) r Δ)) : (∃ fs, d = .obj n fs ∧ fs.lookup m = none) ∧ Post c W x σ H okr (r () Δ) := by
  by_cases h : chkO n m d = true
  case neg => rw [if_neg h] at q; exact q.elim
  rw [if_pos h] at q
  refine ⟨?_, q⟩
  cases d <;> first | cases h | skip
  rename_i k fs
  change (decide (k = n) && (fs.lookup m).isNone) = true at h
  rw [Bool.and_eq_true, decide_eq_true_eq, Option.isNone_iff_eq_none] at h
  exact ⟨fs, by rw [h.1], h.2⟩
/-- the receiver, read; the arguments; what is asked of the callee -/
theorem meth_ask {x : Sx} {σ : L2.St} {H : Hp} {Δ : SD} {Q : VK} {ta : TE} {t : TA} {okr : Sx → Hp → D → SD → Prop} {kk : D × Bool → M D} (o : Ok X c W k) (hC : X.mg n = some (.ref C)) (so : SoundO c W ta fo) (sa : SoundA c W t fs) (sr : SR c x σ H Δ)
    (q : Post c W x σ H (okr x H) (mBind fo (fun a => mBind (mGet a) fun d => mBind (mOpt (if chkO n m d = true then some () else none)) fun _ => mBind fs fun as => mBind (callRes ps.length io g (a :: as)) kk) Δ))
    (step : ∀ {x x1 H H1} (d : D) (Δ : SD), Kp x H x1 H1 → okr x H d Δ → okr x1 H1 d Δ)
    (hV : ∀ {x H d Δ2}, Post c W x σ H (okr x H) (kk (d, false) Δ2) → okV c x σ H Q d Δ2) (hF : ∀ {x H d Δ2}, Post c W x σ H (okr x H) (kk (d, true) Δ2) → okF c x σ H Q d Δ2) :
    ta σ H fun v H1 => ∃ a dx us, v = .ref a ∧ H1 a = some (.ins C dx us) ∧ us.lookup m = none ∧ t σ H1 fun vs H2 => spD ⟨X.K, X.mg, c.T⟩ ps.length io g (v :: vs) H2 Q fun cls d H' => W cls d σ H' := by
  refine so x σ H Δ _ sr (q.bind fun a Δ1 q1 v x1 H1 k1 sr1 h1 => ?_)
  obtain ⟨d, r1, q2⟩ := Post.get sr1 h1 (q1.step k1 fun a Δ => step a Δ k1)
  obtain ⟨⟨fl, rfl, hl⟩, q3⟩ := chk_some (ok := fun _ _ => True) q2
  obtain ⟨b, C', dx, us, rfl, hm, ok, hh, rf⟩ := rep1_obj r1
  rw [o.hmg, hC] at hm
  cases hm
  have hn := repF_lookup (f := m) rf
  rw [hl] at hn
  refine ⟨b, dx, us, rfl, hh, hn, sa x1 σ H1 Δ1 _ sr1 (Post.bind q3 fun as Δ2 q4 vs x2 H2 k2 sr2 h2 => ?_)⟩
  have q5 := post_call (q4.step k2 fun a Δ => step a Δ k2)
  exact call_sp (as := a :: as) (gc_eq o) sr2 ⟨_, _, rfl, AKOk.kp sr1 k2 h1, h2⟩ q5 (fun d Δ2 z => hV z) (fun d Δ2 z => hF z)
theorem meth_ask0 {x : Sx} {σ : L2.St} {H : Hp} {Δ : SD} {Q : VK} {ta : TE} {okr : Sx → Hp → D → SD → Prop} {kk : D × Bool → M D} (o : Ok X c W k) (hC : X.mg n = some (.ref C)) (so : SoundO c W ta fo) (sr : SR c x σ H Δ)
    (q : Post c W x σ H (okr x H) (mBind fo (fun a => mBind (mGet a) fun d => mBind (mOpt (if chkO n m d = true then some () else none)) fun _ => mBind mNil fun as => mBind (callRes ps.length io g (a :: as)) kk) Δ))
    (step : ∀ {x x1 H H1} (d : D) (Δ : SD), Kp x H x1 H1 → okr x H d Δ → okr x1 H1 d Δ)
    (hV : ∀ {x H d Δ2}, Post c W x σ H (okr x H) (kk (d, false) Δ2) → okV c x σ H Q d Δ2) (hF : ∀ {x H d Δ2}, Post c W x σ H (okr x H) (kk (d, true) Δ2) → okF c x σ H Q d Δ2) :
    ta σ H fun v H1 => ∃ a dx us, v = .ref a ∧ H1 a = some (.ins C dx us) ∧ us.lookup m = none ∧ spD ⟨X.K, X.mg, c.T⟩ ps.length io g [v] H1 Q fun cls d H' => W cls d σ H' := by
  refine so x σ H Δ _ sr (q.bind fun a Δ1 q1 v x1 H1 k1 sr1 h1 => ?_)
  obtain ⟨d, r1, q2⟩ := Post.get sr1 h1 (q1.step k1 fun a Δ => step a Δ k1)
  obtain ⟨⟨fl, rfl, hl⟩, q3⟩ := chk_some (ok := fun _ _ => True) q2
  obtain ⟨b, C', dx, us, rfl, hm, ok, hh, rf⟩ := rep1_obj r1
  rw [o.hmg, hC] at hm
  cases hm
  have hn := repF_lookup (f := m) rf
  rw [hl] at hn
  exact ⟨b, dx, us, rfl, hh, hn, call_sp (as := [a]) (gc_eq o) sr1 ⟨_, _, rfl, h1, rfl⟩ (post_call q3) (fun d Δ2 z => hV z) (fun d Δ2 z => hF z)⟩
section
variable (F : MtD X.prog X.w X.K X.mg X.base c.T n m kf ps io g) (o : Ok X c W k) (hk : kf ≤ k) (ho : DO X c W ob fo) {pl : Sem Bool}
include F o hk ho
theorem de_meth (ha : DA X c W (e :: es) fs) (hst : starEach (e :: es) X.env = (false, eval e X.env) :: starEach es X.env := by rfl) (hpl : (backTo pos (starEach es X.env)).any (·.1) = false := by rfl)
    (ht : eval (.Call (.Attribute ob m apos) (e :: es) [] pos) X.env = (do
      let ov ← eval ob X.env
      standAt apos.atName
      let (f, first) ← holding [ov] (getMethod ov m pl)
      callWith pos f first (backTo pos (starEach (e :: es) X.env)) (backToKw pos (keywordEach [] X.env))) := by rfl) : DE X c W (.Call (.Attribute ob m apos) (e :: es) [] pos) (mMeth n m ps.length io g fo fs) := by
  obtain ⟨C, f, fd, hC, cl, hm, hb, dfn⟩ := F.out
  obtain ⟨ta, pa, sa⟩ := ho.out
  obtain ⟨t, pt, st⟩ := ha.out
  refine DE.of (pe_dmeth (dfn.raw hb) o hk cl hm pa pt (fun σ H Q ⟨x, Δ, sr, q⟩ => ?_) hst hpl ht)
  exact meth_ask (okr := fun x H => okV c x σ H Q) o hC sa st sr q (fun d Δ k z => okV.step k z) (fun z => z) (fun z => okF.okV z)
theorem df_meth (ha : DA X c W (e :: es) fs) (hst : starEach (e :: es) X.env = (false, eval e X.env) :: starEach es X.env := by rfl) (hpl : (backTo pos (starEach es X.env)).any (·.1) = false := by rfl)
    (ht : eval (.Call (.Attribute ob m apos) (e :: es) [] pos) X.env = (do
      let ov ← eval ob X.env
      standAt apos.atName
      let (f, first) ← holding [ov] (getMethod ov m pl)
      callWith pos f first (backTo pos (starEach (e :: es) X.env)) (backToKw pos (keywordEach [] X.env))) := by rfl) : DF X c W (.Call (.Attribute ob m apos) (e :: es) [] pos) (mMethN n m ps.length io g fo fs) := by
  obtain ⟨C, f, fd, hC, cl, hm, hb, dfn⟩ := F.out
  obtain ⟨ta, pa, sa⟩ := ho.out
  obtain ⟨t, pt, st⟩ := ha.out
  refine DF.of (pe_dmeth (dfn.raw hb) o hk cl hm pa pt (fun σ H Q ⟨x, Δ, sr, q⟩ => ?_) hst hpl ht)
  exact meth_ask (okr := fun x H => okF c x σ H Q) o hC sa st sr q (fun d Δ k z => okF.step k z) (fun z => z.elim) (fun z => z)
theorem de_meth0 (ht : eval (.Call (.Attribute ob m apos) [] [] pos) X.env = (do
      let ov ← eval ob X.env
      standAt apos.atName
      let (f, first) ← holding [ov] (getMethod ov m pl)
      callWith pos f first (backTo pos (starEach [] X.env)) (backToKw pos (keywordEach [] X.env))) := by rfl) : DE X c W (.Call (.Attribute ob m apos) [] [] pos) (mMeth n m ps.length io g fo mNil) := by
  obtain ⟨C, f, fd, hC, cl, hm, hb, dfn⟩ := F.out
  obtain ⟨ta, pa, sa⟩ := ho.out
  refine DE.of (pe_dmeth0 (dfn.raw hb) o hk cl hm pa (fun σ H Q ⟨x, Δ, sr, q⟩ => ?_) ht)
  exact meth_ask0 (okr := fun x H => okV c x σ H Q) o hC sa sr q (fun d Δ k z => okV.step k z) (fun z => z) (fun z => okF.okV z)
theorem df_meth0 (ht : eval (.Call (.Attribute ob m apos) [] [] pos) X.env = (do
      let ov ← eval ob X.env
      standAt apos.atName
      let (f, first) ← holding [ov] (getMethod ov m pl)
      callWith pos f first (backTo pos (starEach [] X.env)) (backToKw pos (keywordEach [] X.env))) := by rfl) : DF X c W (.Call (.Attribute ob m apos) [] [] pos) (mMethN n m ps.length io g fo mNil) := by
  obtain ⟨C, f, fd, hC, cl, hm, hb, dfn⟩ := F.out
  obtain ⟨ta, pa, sa⟩ := ho.out
  refine DF.of (pe_dmeth0 (dfn.raw hb) o hk cl hm pa (fun σ H Q ⟨x, Δ, sr, q⟩ => ?_) ht)
  exact meth_ask0 (okr := fun x H => okF c x σ H Q) o hC sa sr q (fun d Δ k z => okF.step k z) (fun z => z.elim) (fun z => z)
end
end

/-! ### properties -/
structure PrD (P : Program) (w : World) (K : PySem.W.Frag) (mg : Str → Option Value) (base : Heap) (T : List (Addr × Str)) (n m : Str) (k : Nat) (ps : List Str) (io : List Nat) (g : List D → RD) : Prop where
  out : ∃ (C p f : Addr) (fd : FuncData), mg n = some (.ref C) ∧ Cls K C ∧ PropOf K C m p f ∧ (PySem.W.clsIn K C).isSome = true ∧ Binds K fd ps [] ∧ DFn P w K mg base T k f fd ps io g
section
variable {X : Cx} {c : Ct} {W : WX} {k kf : Nat} {C f p : Addr} {ps : List Str} {io : List Nat} {g : List D → RD} {n m : Str} {ob : Expr} {fo : M AK} {pos : Pos}
theorem Env0.tok {P : Program} {w : World} {K : PySem.W.Frag} {mg : Str → Option Value} {base : Heap} {A : Around} {outer : List Env} {s : Shared} {H : Hp} {t : Nat} (e : Env0 P w K mg base A outer s H) : Env0 P w K mg base A outer { s with toks := t } H := ⟨e.frames, e.mod, e.bs, e.bsz, e.funs, e.frf, e.hok, e.bare⟩
theorem pe_dprop {sp : Sp} {ta : TE} {T : TE} (F : DRn X.prog X.w X.K X.mg X.base c.T kf f sp) (o : Ok X c W k) (hk : kf + 1 ≤ k) (cl : Cls X.K C) (hp : PropOf X.K C m p f) (hc : (PySem.W.clsIn X.K C).isSome = true) (pe : PE X ob ta)
    (hT : ∀ σ H Q, T σ H Q → ta σ H fun x H1 => ∃ a dx us, x = .ref a ∧ H1 a = some (.ins C dx us) ∧ sp [x] H1 Q fun _ _ _ => False)
    (hab : attributeBase ob m X.env (eval ob X.env) = eval ob X.env) : PE X (.Attribute ob m pos) T := by
  refine ⟨fun pins s σ H Q I h => ?_⟩
  refine attr_of hab (thn (pe.run pins s σ H _ I (hT σ H Q h)) fun u s1 ⟨x, H1, I1, rx, a, dx, us, ex, ea, q⟩ => ?_)
  subst ex
  obtain rfl : u = Value.ref a := rx
  obtain ⟨mA, O, _, _, _, _⟩ := ins_get I1.hok ea
  obtain ⟨od, J, _⟩ := O.look
  obtain ⟨rest, hrec⟩ := hp.rec_
  have I2 := I1.tok (s1.toks + 1)
  refine PySem.W.get_bind I1.kIn J (PySem.W.plainGet_of (cl.get m)).1 (PySem.W.findObj_data hc hp.at_ hp.get hp.tak) (PySem.W.plainGet_of (cl.get m)).2 (wpAny_call (PySem.W.prop_get (s := { s1 with toks := s1.toks + 1 }) I1.kIn hrec ?_))
  refine codeAny_mono (F.run X.A.in1 X.stack _ H1 [.ref a] [.ref a] Q _ ((o.room.mono hk).in1) (fun h => show X.A.in1.guards = some [] from o.gd (by omega)) I2.env0.in1 (.cons rfl .nil) q) fun r s' hq => ?_
  cases r with
  | error er =>
    obtain ⟨_, _, _, _, _, _, _, _, _, _, _, _, z⟩ := hq
    exact z.elim
  | ok fl =>
    cases fl with
    | ret u =>
      obtain ⟨v, H', I3, rv, q3⟩ := I2.after hq
      show wpAny _ _ (handedOut u) _ _ _
      rw [PySem.W.handedOut_of (handed_of rv)]
      exact wpAny_pure ⟨v, H', I3, rv, q3⟩
    | next => exact hq.elim
    | brk => exact hq.elim
    | cont => exact hq.elim
/-- no exception leaves -/
def mNoX {α : Type} (f : M α) : M α := fun Δ => match f Δ with
  | .ok a Δ' => .ok a Δ'
  | _ => .bad
theorem Post.noX {α : Type} {x : Sx} {σ : L2.St} {H : Hp} {ok : α → SD → Prop} {f : M α} {Δ : SD} (h : Post c W x σ H ok (mNoX f Δ)) : Post c noW x σ H ok (f Δ) := by
  unfold mNoX at h
  cases e : f Δ with
  | ok a Δ' => rw [e] at h; exact h
  | ex n d Δ' => rw [e] at h; exact h.elim
  | bad => rw [e] at h; exact h.elim
def chkC (n : Str) : D → Bool
  | .obj k _ => decide (k = n)
  | _ => false
theorem chkC_some {d : D} {x : Sx} {σ : L2.St} {H : Hp} {Δ : SD} {α : Type} {okr : α → SD → Prop} {r : Unit → M α} (q : Post c W x σ H okr (mBind (mOpt (if chkC n d = true then some () else none)) r Δ)) : (∃ fs, d = .obj n fs) ∧ Post c W x σ H okr (r () Δ) := by
  by_cases h : chkC n d = true
  case neg => rw [if_neg h] at q; exact q.elim
  rw [if_pos h] at q
  refine ⟨?_, q⟩
  cases d <;> first | cases h | skip
  rename_i k fs
  have h' : k = n := of_decide_eq_true h
  exact ⟨fs, by rw [h']⟩
def mProp (n : Str) (io : List Nat) (g : List D → RD) (fo : M AK) : M D := mBind fo fun a => mBind (mGet a) fun d => mBind (mOpt (if chkC n d = true then some () else none)) fun _ => mBind (mNoX (callRes 1 io g [a])) fun r => mPure r.1
def mPropN (n : Str) (io : List Nat) (g : List D → RD) (fo : M AK) : M D := mBind fo fun a => mBind (mGet a) fun d => mBind (mOpt (if chkC n d = true then some () else none)) fun _ => mBind (mNoX (callRes 1 io g [a])) fun r => if r.2 = true then mPure r.1 else mBad
theorem prop_ask {x : Sx} {σ : L2.St} {H : Hp} {Δ : SD} {Q : VK} {ta : TE} {okr : Sx → Hp → D → SD → Prop} {kk : D × Bool → M D} (o : Ok X c W k) (hC : X.mg n = some (.ref C)) (so : SoundO c W ta fo) (sr : SR c x σ H Δ)
    (q : Post c W x σ H (okr x H) (mBind fo (fun a => mBind (mGet a) fun d => mBind (mOpt (if chkC n d = true then some () else none)) fun _ => mBind (mNoX (callRes 1 io g [a])) kk) Δ))
    (step : ∀ {x x1 H H1} (d : D) (Δ : SD), Kp x H x1 H1 → okr x H d Δ → okr x1 H1 d Δ)
    (hV : ∀ {x H d Δ2}, Post c W x σ H (okr x H) (kk (d, false) Δ2) → okV c x σ H Q d Δ2) (hF : ∀ {x H d Δ2}, Post c W x σ H (okr x H) (kk (d, true) Δ2) → okF c x σ H Q d Δ2) :
    ta σ H fun v H1 => ∃ a dx us, v = .ref a ∧ H1 a = some (.ins C dx us) ∧ spD ⟨X.K, X.mg, c.T⟩ 1 io g [v] H1 Q fun _ _ _ => False := by
  refine so x σ H Δ _ sr (q.bind fun a Δ1 q1 v x1 H1 k1 sr1 h1 => ?_)
  obtain ⟨d, r1, q2⟩ := Post.get sr1 h1 (q1.step k1 fun a Δ => step a Δ k1)
  obtain ⟨⟨fl, rfl⟩, q3⟩ := chkC_some q2
  obtain ⟨b, C', dx, us, rfl, hm, ok, hh, rf⟩ := rep1_obj r1
  rw [o.hmg, hC] at hm
  cases hm
  exact ⟨b, dx, us, rfl, hh, call_sp (W := noW) (ps := [n]) (as := [a]) (gc_eq o) sr1 ⟨_, _, rfl, h1, rfl⟩ (Post.noX (post_call q3)) (fun d Δ2 z => hV z) (fun d Δ2 z => hF z)⟩
section
variable {x0 : Str} (F : PrD X.prog X.w X.K X.mg X.base c.T n m kf [x0] io g) (o : Ok X c W k) (hk : kf + 1 ≤ k) (ho : DO X c W ob fo) (hab : attributeBase ob m X.env (eval ob X.env) = eval ob X.env)
include F o hk ho hab
theorem de_prop : DE X c W (.Attribute ob m pos) (mProp n io g fo) := by
  obtain ⟨C, p, f, fd, hC, cl, hp, hc, hb, dfn⟩ := F.out
  obtain ⟨ta, pa, sa⟩ := ho.out
  refine DE.of (pe_dprop (dfn.raw hb) o hk cl hp hc pa (fun σ H Q ⟨x, Δ, sr, q⟩ => ?_) hab)
  exact prop_ask (okr := fun x H => okV c x σ H Q) o hC sa sr q (fun d Δ k z => okV.step k z) (fun z => z) (fun z => okF.okV z)
theorem df_prop : DF X c W (.Attribute ob m pos) (mPropN n io g fo) := by
  obtain ⟨C, p, f, fd, hC, cl, hp, hc, hb, dfn⟩ := F.out
  obtain ⟨ta, pa, sa⟩ := ho.out
  refine DF.of (pe_dprop (dfn.raw hb) o hk cl hp hc pa (fun σ H Q ⟨x, Δ, sr, q⟩ => ?_) hab)
  exact prop_ask (okr := fun x H => okF c x σ H Q) o hC sa sr q (fun d Δ k z => okF.step k z) (fun z => z.elim) (fun z => z)
end
end
end DL

namespace DL
open PySem L2 PySem.Spec PyProof.Rows

theorem make_guards {A : Around} {C : Addr} {us : List Value} {kw : List (Str × Value)} (h : A.guards = some []) : (A.under (.builtin "type.__call__" ⟨.ref C :: us, kw⟩)).guards = some [] := by
  simp [Around.under, Code.guards, Code.isGuard, guardIds, pushGuards, h]
structure InD (P : Program) (w : World) (K : PySem.W.Frag) (mg : Str → Option Value) (base : Heap) (T : List (Addr × Str)) (n : Str) (k : Nat) (ps : List Str) (g : List D → RD) : Prop where
  out : ∃ (C f : Addr) (fd : FuncData), mg n = some (.ref C) ∧ ObjK K C ∧ Mk K C f ∧ Binds K fd ps [] ∧ DFn P w K mg base T k f fd ps [0] g
section
variable {c : Ct} {x : Sx} {σ : L2.St} {H H1 H2 : Hp} {Δ : SD} {p : Addr} {o : D} {Av2 : Addr → Prop}
/-- the state behind a call that was lent a new object -/
theorem SR.made (s : SR c x σ H Δ) (hp : H p = none) (ex : Ex H H1) (hn : H1 p ≠ none) (e : EndC c.toGc (fun a => x.Av a ∧ a ≠ p) H1 [(0, p)] Av2 H2 [o]) :
    Kp x H ⟨Av2, x.ρ⟩ H2 ∧ SR c ⟨Av2, x.ρ⟩ σ H2 Δ ∧ ¬ Av2 p ∧ Own c.toGc Av2 H2 p o ∧ ∀ i, x.ρ i ≠ some p := by
  have ne : ∀ {a : Addr} {u : HO}, H a = some u → a ≠ p := fun h z => by rw [z, hp] at h; cases h
  have nr : ∀ i, x.ρ i ≠ some p := fun i h => (s.ow i p h).2.1 hp
  have kk : ∀ a u, H a = some u → Fx u → H2 a = some u := fun a u h f => e.keep a u (ex a u h) f fun q hq z => by
    rw [List.mem_singleton] at hq
    rw [hq] at z
    exact ne h z.symm
  have tr : ∀ a, H2 a = none → H a = none := fun a h => ex.none (e.trk a h)
  have kp : Keep c.toGc x.Av Av2 H H2 := ⟨fun a u ha f h => by
      rcases h with h | ⟨o, h⟩
      · exact .inl (kk a _ h f)
      · exact .inr ⟨o, kk a _ h fx_frz⟩, fun a v ha h => kk a _ h fx_lst, fun a v ha h => kk a _ h fx_tup, fun a C dx us ha h => kk a _ h fx_ins,
      fun a u ha h => by
        have q : ∃ u', H a = some u' := by
          rcases h with h | ⟨o, h⟩
          · exact ⟨_, h⟩
          · exact ⟨_, h⟩
        obtain ⟨u', q⟩ := q
        exact e.av a ⟨ha, ne q⟩ (by rw [ex a _ q]; intro z; cases z)⟩
  obtain ⟨nav, ow⟩ : ¬ Av2 p ∧ Own c.toGc Av2 H2 p o := by
    cases e.own with
    | cons h _ => exact h
  refine ⟨⟨fun a u h f n => kk a u h f, tr, fun i a h => .inl ⟨i, h⟩, fun a h n => ?_, fun a h => .inl (e.sub a h).1⟩, ?_, nav, ow, nr⟩
  · cases q : H a with
    | none => exact absurd q n
    | some u => exact e.av a ⟨h, ne q⟩ (by rw [ex a _ q]; intro z; cases z)
  exact {
    len := s.len
    base := fun a u h f n => kk a u (s.base a u h f n) f
    tab := e.tab
    trk := fun a h => s.trk a (tr a h)
    fr := e.fr
    av := fun a h => s.av a (e.sub a h).1
    a0 := s.a0
    ow := fun i a h => ⟨fun q => (s.ow i a h).1 (e.sub a q).1, fun q => (s.ow i a h).2.1 (tr a q), (s.ow i a h).2.2⟩
    inj := s.inj
    slot := fun i => by
      have sl := s.slot i
      revert sl
      cases Δ[i]? with
      | none => intro _; trivial
      | some z =>
        cases z with
        | un => intro _; trivial
        | sh d => exact fun ⟨v, h1, h2⟩ => ⟨v, h1, h2.keep kp⟩
        | ow d =>
          rintro ⟨a, h0, h1, h2⟩
          refine ⟨a, h0, h1, ?_⟩
          show Own c.toGc Av2 H2 a d
          cases d <;> first
            | exact h2.elim
            | (obtain ⟨us, q1, q2⟩ := h2; exact ⟨us, kk _ _ q1 (by first | exact fx_lst | exact fx_dK | exact fx_dT | exact fx_nd), q2.keep kp⟩)
            | (obtain ⟨C, dx, us, q0, q1, q2⟩ := h2; exact ⟨C, dx, us, q0, kk _ _ q1 fx_ins, q2.keep kp⟩)
    ios := s.ios }
theorem argOk_lend {G : Gc} {Av Av' : Addr → Prop} {H H' : Hp} {p : Addr} (k : Keep G Av Av' H H') : ∀ {ds : List D} {vs : List V} {j : Nat}, ArgOk G Av H [] (j + 1) ds vs → ArgOk G Av' H' [(0, p)] (j + 1) ds vs
  | [], vs, j, h => h
  | d :: ds, vs, j, ⟨v, r, e, h1, h2⟩ => ⟨v, r, e, by
      rw [if_neg (by simp)] at h1 ⊢
      exact h1.keep k, argOk_lend k h2⟩
end
def mMakeRes (n : Str) (np : Nat) (g : List D → RD) (as : List AK) : M D := fun Δ => if as.length + 1 = np then (match callArgs [] Δ 1 as with
  | some r => (match g (.obj n [] :: r.1) with
    | .ok .non false [o] => .ok o Δ
    | .ex m d [_] => .ex m d Δ
    | _ => .bad)
  | none => .bad) else .bad
def mMake (n : Str) (np : Nat) (g : List D → RD) (fs : M (List AK)) : M D := mBind fs fun as => mMakeRes n np g as
theorem callArgs_nil {Δ : SD} : ∀ {as : List AK} {j : Nat} {ds : List D} {ls : List (Nat × Nat)}, callArgs [] Δ j as = some (ds, ls) → ls = []
  | [], j, ds, ls, h => by cases h; rfl
  | a :: as, j, ds, ls, h => by
    unfold callArgs at h
    rw [Option.bind_eq_some_iff] at h
    obtain ⟨⟨ds', ls'⟩, h3, h4⟩ := h
    have e := callArgs_nil h3
    subst e
    rw [if_neg (by simp)] at h4
    cases a with
    | v d => cases h4; rfl
    | s i =>
      dsimp only at h4
      split at h4
      · cases h4; rfl
      · cases h4
section
variable {X : Cx} {c : Ct} {W : WX} {k kf : Nat} {C f : Addr} {ps : List Str} {g : List D → RD} {n : Str} {e : Expr} {es : List Expr} {fs : M (List AK)} {p pos : Pos}
/-- what making asks -/
theorem make_sp {x : Sx} {σ : L2.St} {H : Hp} {Δ : SD} {Q : VK} {as : List AK} {vs : List V} (hG : c.toGc = ⟨X.K, X.mg, c.T⟩) (hC : X.mg n = some (.ref C)) (ok : ObjK X.K C) (sr : SR c x σ H Δ) (ha : AKsOk c x σ H as vs)
    (q : Post c W x σ H (okF c x σ H Q) (mMakeRes n ps.length g as Δ)) :
    ∀ a dx, H a = none → H dx = none → dx ≠ a → spD ⟨X.K, X.mg, c.T⟩ ps.length [0] g (.ref a :: vs) (upd (upd H dx (.own a)) a (.ins C dx [])) (fun v H2 => v = .non ∧ Q (.ref a) H2) (fun cls d H' => W cls d σ H') := by
  intro a dx ha0 hd0 hne
  have ex : Ex H (upd (upd H dx (.own a)) a (.ins C dx [])) := (Ex.new hd0).trans (Ex.new (by rw [upd_ne (Ne.symm hne)]; exact ha0))
  have hn : (upd (upd H dx (.own a)) a (.ins C dx [])) a ≠ none := by rw [upd_same]; intro z; cases z
  obtain ⟨k1, s1, h0, nr⟩ := sr.alloc ha0 ex
  have s1 := s1 hn
  unfold mMakeRes at q
  by_cases hl : as.length + 1 = ps.length
  case neg => rw [if_neg hl] at q; exact q.elim
  rw [if_pos hl] at q
  cases ec : callArgs [] Δ 1 as with
  | none => rw [ec] at q; exact q.elim
  | some r =>
    obtain ⟨ds, ls⟩ := r
    rw [ec] at q
    have el := callArgs_nil ec
    subst el
    have ao := args_ok (io := []) (L := []) sr rfl ec (fun _ h => h) ha
    rw [← hG]
    refine ⟨fun b => x.Av b ∧ b ≠ a, .obj n [] :: ds, [(0, a)], by rw [List.length_cons, aks_len ha, hl], s1.fr, s1.tab, rfl, by simp, by simp, fun q hq => ?_, fun i hi => ?_, ?_, ?_⟩
    · rw [List.mem_singleton] at hq
      subst hq
      exact ⟨fun z => z.2 rfl, hn⟩
    · rw [List.mem_singleton] at hi
      omega
    · refine ⟨.ref a, vs, rfl, ?_, argOk_lend (sr.keep k1) ao⟩
      rw [if_pos (by simp)]
      refine ⟨a, by simp, rfl, fun z => z.2 rfl, C, dx, [], ⟨?_, ?_⟩, upd_same, by unfold RepF; rfl⟩
      · rw [hG]; exact hC
      · rw [hG]; exact ok
    · dsimp only at q
      cases eg : g (.obj n [] :: ds) with
      | bad => rw [eg] at q; exact q.elim
      | ex m d es =>
        rw [eg] at q
        match es, q with
        | [_], q =>
          intro C' d' Av' H' e xr
          obtain ⟨kp, s2, _, _, _⟩ := sr.made ha0 ex hn e
          exact q C' d' _ H' kp s2 xr
      | ok d fr es =>
        rw [eg] at q
        match d, fr, es, q with
        | .non, false, [o], q =>
          refine ⟨fun _ v Av' H' e r => ?_, fun z => (by cases z)⟩
          obtain ⟨kp, s2, nav, ow, nr2⟩ := sr.made ha0 ex hn e
          refine ⟨by unfold Rep at r; exact r, q a _ H' kp s2 h0 ha0 nav nr2 ow⟩
theorem pe_dmake {t : TA} {T : TE} (F : DRn X.prog X.w X.K X.mg X.base c.T kf f (spD ⟨X.K, X.mg, c.T⟩ ps.length [0] g)) (M : Mk X.K C f) (o : Ok X c W k) (hk : kf + 1 ≤ k) (hg : Gl X n) (hm : X.mg n = some (.ref C)) (pa : PA X (e :: es) t)
    (hT : ∀ σ H Q, T σ H Q → t σ H fun vs H1 => ∀ a dx, H1 a = none → H1 dx = none → dx ≠ a → spD ⟨X.K, X.mg, c.T⟩ ps.length [0] g (.ref a :: vs) (upd (upd H1 dx (.own a)) a (.ins C dx [])) (fun v H2 => v = .non ∧ Q (.ref a) H2) (fun cls d H' => W cls d σ H'))
    (hdb : (n == ("__debug__" : Str)) = false := by decide) (he : starEach (e :: es) X.env = (false, eval e X.env) :: starEach es X.env := by rfl) (hpl : (backTo pos (starEach es X.env)).any (·.1) = false := by rfl) : PE X (.Call (.Name n p) (e :: es) [] pos) T := by
  refine ⟨fun pins s σ H Q I h => ?_⟩
  refine wpAny_Call_Name_kw (ld_glob I hg hm ?_ hdb)
  refine PySem.W.callWith_K (h₀ := X.base) I.ok.mod.kin M.kp (thn (pa.run pos pins s σ H _ I (hT σ H Q h)) fun us s1 ⟨vs, H1, I1, r, q⟩ => ⟨I1.kIn, ?_⟩) he hpl
  show wpAny _ _ (call (.ref C) us) _ _ _
  have hq := q (s1.heap.objs.size + 1) s1.heap.objs.size (I1.hok.fresh (Nat.le_succ _)) (I1.hok.fresh (Nat.le_refl _)) (Nat.ne_of_lt (Nat.lt_succ_self _))
  have I2 := Inv.made (C := C) I1
  have r2 : Vals (V.ref (s1.heap.objs.size + 1) :: vs) (Value.ref (s1.heap.objs.size + 1) :: us) := .cons rfl r
  refine wpAny_call (make_map (f := f) I1.kIn M.makes M.init (beq_iff_eq.mp M.fn) (codeAny_mono (F.run _ X.stack _ _ (Value.ref (s1.heap.objs.size + 1) :: us) _ _ _ ((o.room.mono hk).make C us []) (fun h => make_guards (o.gd (by omega))) (I2.env0.make C us []) r2 hq) fun r s' hq' => ?_))
  cases r with
  | error e => exact o.tk _ _ (XE.of_call I2 (fun _ _ _ z => z) hq')
  | ok fl =>
    cases fl with
    | ret u =>
      obtain ⟨v, H', I3, rv, ev, q3⟩ := I2.after hq'
      subst ev
      exact ⟨rv, ⟨V.ref (s1.heap.objs.size + 1), H', I3, rfl, q3⟩⟩
    | next => exact False.elim hq'
    | brk => exact False.elim hq'
    | cont => exact False.elim hq'
theorem df_make (F : InD X.prog X.w X.K X.mg X.base c.T n kf ps g) (o : Ok X c W k) (hk : kf + 1 ≤ k) (hg : Gl X n) (ha : DA X c W (e :: es) fs)
    (hdb : (n == ("__debug__" : Str)) = false := by decide) (he : starEach (e :: es) X.env = (false, eval e X.env) :: starEach es X.env := by rfl) (hpl : (backTo pos (starEach es X.env)).any (·.1) = false := by rfl) : DF X c W (.Call (.Name n p) (e :: es) [] pos) (mMake n ps.length g fs) := by
  obtain ⟨C, f, fd, hC, ok, mk, hb, dfn⟩ := F.out
  obtain ⟨t, pt, st⟩ := ha.out
  refine DF.of (pe_dmake (dfn.raw hb) mk o hk hg hC pt (fun σ H Q ⟨x, Δ, sr, q⟩ => ?_) hdb he hpl)
  exact st x σ H Δ _ sr (Post.bind q fun as Δ2 q4 vs x2 H2 k2 sr2 h2 => make_sp (gc_eq o) hC ok sr2 h2 (q4.step k2 fun a Δ z => okF.step k2 z))
end

/-! ### the class in a local name -/
def mMakeL (n : Str) (np : Nat) (g : List D → RD) (i : Nat) (fs : M (List AK)) : M D := mBind (mSlotC i n) fun _ => mBind fs fun as => mMakeRes n np g as
where mSlotC (i : Nat) (n : Str) : M Unit := fun Δ => match Δ[i]? with
  | some (.sh (.cls m)) => if m = n then .ok () Δ else .bad
  | _ => .bad
section
variable {X : Cx} {c : Ct} {W : WX} {k kf i : Nat} {C f : Addr} {ps : List Str} {g : List D → RD} {n x : Str} {e : Expr} {es : List Expr} {fs : M (List AK)} {p pos : Pos}
theorem run_dmake {pins : List (Addr × Obj)} {σ : L2.St} {H1 : Hp} {s1 : Shared} {Q : VK} {us : List Value} {vs : List V} (F : DRn X.prog X.w X.K X.mg X.base c.T kf f (spD ⟨X.K, X.mg, c.T⟩ ps.length [0] g)) (M : Mk X.K C f) (o : Ok X c W k) (hk : kf + 1 ≤ k) (I1 : Inv X pins σ H1 s1) (r : Vals vs us)
    (q : ∀ a dx, H1 a = none → H1 dx = none → dx ≠ a → spD ⟨X.K, X.mg, c.T⟩ ps.length [0] g (.ref a :: vs) (upd (upd H1 dx (.own a)) a (.ins C dx [])) (fun v H2 => v = .non ∧ Q (.ref a) H2) (fun cls d H' => W cls d σ H')) :
    wpAny (model X.prog X.w) X.A (call (.ref C) us) (EP X pins σ Q) X.xe s1 := by
  have hq := q (s1.heap.objs.size + 1) s1.heap.objs.size (I1.hok.fresh (Nat.le_succ _)) (I1.hok.fresh (Nat.le_refl _)) (Nat.ne_of_lt (Nat.lt_succ_self _))
  have I2 := Inv.made (C := C) I1
  have r2 : Vals (V.ref (s1.heap.objs.size + 1) :: vs) (Value.ref (s1.heap.objs.size + 1) :: us) := .cons rfl r
  refine wpAny_call (make_map (f := f) I1.kIn M.makes M.init (beq_iff_eq.mp M.fn) (codeAny_mono (F.run _ X.stack _ _ (Value.ref (s1.heap.objs.size + 1) :: us) _ _ _ ((o.room.mono hk).make C us []) (fun h => make_guards (o.gd (by omega))) (I2.env0.make C us []) r2 hq) fun r s' hq' => ?_))
  cases r with
  | error e => exact o.tk _ _ (XE.of_call I2 (fun _ _ _ z => z) hq')
  | ok fl =>
    cases fl with
    | ret u =>
      obtain ⟨v, H', I3, rv, ev, q3⟩ := I2.after hq'
      subst ev
      exact ⟨rv, ⟨V.ref (s1.heap.objs.size + 1), H', I3, rfl, q3⟩⟩
    | next => exact False.elim hq'
    | brk => exact False.elim hq'
    | cont => exact False.elim hq'
theorem df_makeL (F : InD X.prog X.w X.K X.mg X.base c.T n kf ps g) (o : Ok X c W k) (hk : kf + 1 ≤ k) (hN : X.N[i]? = some x) (hv : Vis X.env.scope x) (ha : DA X c W (e :: es) fs)
    (hdb : (x == ("__debug__" : Str)) = false := by decide) (hcd : (x == ("__classdict__" : Str)) = false := by decide) (he : starEach (e :: es) X.env = (false, eval e X.env) :: starEach es X.env := by rfl) (hpl : (backTo pos (starEach es X.env)).any (·.1) = false := by rfl) : DF X c W (.Call (.Name x p) (e :: es) [] pos) (mMakeL n ps.length g i fs) := by
  obtain ⟨C, f, fd, hC, ok, mk, hb, dfn⟩ := F.out
  obtain ⟨t, pt, st⟩ := ha.out
  refine DF.of ⟨fun pins s σ H Q I ⟨y, Δ, sr, q⟩ => ?_⟩
  have q' : Post c W y σ H (okF c y σ H Q) (mBind (mMakeL.mSlotC i n) (fun _ => mBind fs fun as => mMakeRes n ps.length g as) Δ) := q
  unfold mBind at q'
  have sl := sr.slot i
  unfold mMakeL.mSlotC at q'
  revert q' sl
  cases Δ[i]? with
  | none => intro q'; exact q'.elim
  | some z =>
    cases z with
    | un => intro q'; exact q'.elim
    | ow d => intro q'; exact q'.elim
    | sh d =>
      cases d <;> first | (intro q'; exact q'.elim) | skip
      rename_i m
      dsimp only
      by_cases hmn : m = n
      case neg => rw [if_neg hmn]; intro q'; exact q'.elim
      rw [if_pos hmn]
      subst hmn
      rintro q' ⟨v, hσ, rv⟩
      unfold Rep at rv
      obtain ⟨C', hC', rfl⟩ := rv
      rw [o.hmg, hC] at hC'
      cases hC'
      refine wpAny_Call_Name_kw (thn ((pe_var (pos := p) (i := i) hN hv hdb hcd).run pins s σ H (fun v H1 => v = .ref C ∧ H1 = H) I ⟨.ref C, hσ, rfl, rfl⟩) fun u s1 ⟨v, H1, I1, r1, ev, eH⟩ => ?_)
      subst ev
      rw [eH] at I1
      cases r1
      refine PySem.W.callWith_K (h₀ := X.base) I.ok.mod.kin mk.kp (thn (pt.run pos pins s1 σ H _ I1 (st y σ H Δ _ sr (Post.bind q' fun as Δ2 q4 vs x2 H2 k2 sr2 h2 => make_sp (gc_eq o) hC ok sr2 h2 (q4.step k2 fun a Δ z => okF.step k2 z)))) fun us s2 ⟨vs, H2, I2, r, q⟩ => ⟨I2.kIn, ?_⟩) he hpl
      exact run_dmake (dfn.raw hb) mk o hk I2 r q
end

/-! ### class methods, static methods -/
structure CmD (P : Program) (w : World) (K : PySem.W.Frag) (mg : Str → Option Value) (base : Heap) (T : List (Addr × Str)) (n m : Str) (k : Nat) (ps : List Str) (io : List Nat) (g : List D → RD) : Prop where
  out : ∃ (C p f : Addr) (mc : Value) (fd : FuncData), mg n = some (.ref C) ∧ ClX.CRead K C mc ∧ ClX.CMet K C mc m p f ∧ Binds K fd ps [] ∧ DFn P w K mg base T k f fd ps io g
/-- C.m is a static method: its record at p, its def at g -/
structure SMet (K : PySem.W.Frag) (C : Addr) (mc : Value) (m : Str) (p g : Addr) : Prop where
  at_ : PySem.W.findCls K (.ref C) mc m = some (.get (.builtin "staticmethod.__get__") (.ref p) .none (.ref C))
  rc : ∃ rest, PySem.W.recIn K p "staticmethod" = some (.ref g :: rest)
  kp : PySem.W.keepIn K (.ref g) = true
structure SmD (P : Program) (w : World) (K : PySem.W.Frag) (mg : Str → Option Value) (base : Heap) (T : List (Addr × Str)) (n m : Str) (k : Nat) (ps : List Str) (io : List Nat) (g : List D → RD) : Prop where
  out : ∃ (C p f : Addr) (mc : Value) (fd : FuncData), mg n = some (.ref C) ∧ ClX.CRead K C mc ∧ SMet K C mc m p f ∧ Binds K fd ps [] ∧ DFn P w K mg base T k f fd ps io g
section
variable {X : Cx} {c : Ct} {W : WX} {k kf : Nat} {C f pr : Addr} {mc : Value} {ps : List Str} {io : List Nat} {g : List D → RD} {n m : Str} {e : Expr} {es : List Expr} {fs : M (List AK)} {p pos apos : Pos} {pl : Sem Bool}
theorem pe_dcm {sp : Sp} {t : TA} {T : TE} (F : DRn X.prog X.w X.K X.mg X.base c.T kf f sp) (o : Ok X c W k) (hk : kf ≤ k) (hg : Gl X n) (hC : X.mg n = some (.ref C)) (r : ClX.CRead X.K C mc) (cm : ClX.CMet X.K C mc m pr f) (pa : PA X (e :: es) t)
    (hT : ∀ σ H Q, T σ H Q → t σ H fun vs H2 => sp (.ref C :: vs) H2 Q fun cls d H' => W cls d σ H') (hdb : (n == ("__debug__" : Str)) = false := by decide)
    (hst : starEach (e :: es) X.env = (false, eval e X.env) :: starEach es X.env := by rfl) (hpl : (backTo pos (starEach es X.env)).any (·.1) = false := by rfl)
    (ht : eval (.Call (.Attribute (.Name n p) m apos) (e :: es) [] pos) X.env = (do
      let ov ← eval (.Name n p) X.env
      standAt apos.atName
      let (f, first) ← holding [ov] (getMethod ov m pl)
      callWith pos f first (backTo pos (starEach (e :: es) X.env)) (backToKw pos (keywordEach [] X.env))) := by rfl) : PE X (.Call (.Attribute (.Name n p) m apos) (e :: es) [] pos) T := by
  refine ⟨fun pins s σ H Q I h => ?_⟩
  refine PySem.W.methodCall_KW (pl := pl) (ld_glob I hg hC ?_ hdb) ht
  have I1 := I.tok s.toks
  refine ClX.getmethcm_ok I r cm fun s2 I2 => ?_
  refine ClX.callwith_cm I2 (ClX.base_none I (Nat.le_refl _)) cm.fi (thn (pa.run pos _ s2 σ H _ I2 (hT σ H Q h)) fun us s3 ⟨vs, H2, I3, rv, q2⟩ => ⟨⟨ClX.pin_at I3, I3.kIn⟩, ?_⟩) hst hpl
  refine thn (wpAny_call (PySem.W.method_call (ClX.pin_at I3) (code_drn (us := .ref C :: us) (vs := .ref C :: vs) F o (o.room.mono hk) (fun h => o.gd (by omega)) I3.env0 I3 (.cons rfl rv) q2))) fun _ _ y => ClX.unpinE y
theorem pe_dsm {sp : Sp} {t : TA} {T : TE} (F : DRn X.prog X.w X.K X.mg X.base c.T kf f sp) (o : Ok X c W k) (hk : kf ≤ k) (hg : Gl X n) (hC : X.mg n = some (.ref C)) (r : ClX.CRead X.K C mc) (sm : SMet X.K C mc m pr f) (pa : PA X (e :: es) t)
    (hT : ∀ σ H Q, T σ H Q → t σ H fun vs H2 => sp vs H2 Q fun cls d H' => W cls d σ H') (hdb : (n == ("__debug__" : Str)) = false := by decide)
    (hst : starEach (e :: es) X.env = (false, eval e X.env) :: starEach es X.env := by rfl) (hpl : (backTo pos (starEach es X.env)).any (·.1) = false := by rfl)
    (ht : eval (.Call (.Attribute (.Name n p) m apos) (e :: es) [] pos) X.env = (do
      let ov ← eval (.Name n p) X.env
      standAt apos.atName
      let (f, first) ← holding [ov] (getMethod ov m pl)
      callWith pos f first (backTo pos (starEach (e :: es) X.env)) (backToKw pos (keywordEach [] X.env))) := by rfl) : PE X (.Call (.Attribute (.Name n p) m apos) (e :: es) [] pos) T := by
  refine ⟨fun pins s σ H Q I h => ?_⟩
  refine PySem.W.methodCall_KW (pl := pl) (ld_glob I hg hC ?_ hdb) ht
  obtain ⟨rest, hp⟩ := sm.rc
  refine PySem.W.method_cls I.kIn r.ga (PySem.W.cls_bind I.kIn r.rd sm.at_ (wpAny_call (PySem.W.sm_get (s := { s with toks := s.toks + 1 }) I.kIn hp (PySem.W.handed_on rfl ?_))))
  have I2 := I.tok (s.toks + 1)
  refine PySem.W.callWith_K (h₀ := X.base) I.ok.mod.kin sm.kp (thn (pa.run pos _ _ σ H _ I2 (hT σ H Q h)) fun us s3 ⟨vs, H2, I3, rv, q2⟩ => ⟨I3.kIn, ?_⟩) hst hpl
  exact run_drn F o hk I3 rv q2
theorem pe_dsm0 {sp : Sp} {T : TE} (F : DRn X.prog X.w X.K X.mg X.base c.T kf f sp) (o : Ok X c W k) (hk : kf ≤ k) (hg : Gl X n) (hC : X.mg n = some (.ref C)) (r : ClX.CRead X.K C mc) (sm : SMet X.K C mc m pr f)
    (hT : ∀ σ H Q, T σ H Q → sp [] H Q fun cls d H' => W cls d σ H') (hdb : (n == ("__debug__" : Str)) = false := by decide)
    (ht : eval (.Call (.Attribute (.Name n p) m apos) [] [] pos) X.env = (do
      let ov ← eval (.Name n p) X.env
      standAt apos.atName
      let (f, first) ← holding [ov] (getMethod ov m pl)
      callWith pos f first (backTo pos (starEach [] X.env)) (backToKw pos (keywordEach [] X.env))) := by rfl) : PE X (.Call (.Attribute (.Name n p) m apos) [] [] pos) T := by
  refine ⟨fun pins s σ H Q I h => ?_⟩
  refine PySem.W.methodCall_KW (pl := pl) (ld_glob I hg hC ?_ hdb) ht
  obtain ⟨rest, hp⟩ := sm.rc
  refine PySem.W.method_cls I.kIn r.ga (PySem.W.cls_bind I.kIn r.rd sm.at_ (wpAny_call (PySem.W.sm_get (s := { s with toks := s.toks + 1 }) I.kIn hp (PySem.W.handed_on rfl ?_))))
  have I2 := I.tok (s.toks + 1)
  exact PySem.W.callWith_K0 I2.kIn sm.kp (run_drn (us := []) F o hk I2 .nil (hT σ H Q h))
theorem aks_cls {x : Sx} {σ : L2.St} {H : Hp} {as : List AK} {vs : List V} (o : Ok X c W k) (hC : X.mg n = some (.ref C)) (h : AKsOk c x σ H as vs) : AKsOk c x σ H (.v (.cls n) :: as) (.ref C :: vs) := ⟨_, _, rfl, by show Rep _ _ _ _ _; unfold Rep; exact ⟨C, by rw [o.hmg]; exact hC, rfl⟩, h⟩
def mCm (n : Str) (np : Nat) (io : List Nat) (g : List D → RD) (fs : M (List AK)) : M D := mBind fs fun as => mBind (callRes np io g (.v (.cls n) :: as)) fun r => mPure r.1
def mCmN (n : Str) (np : Nat) (io : List Nat) (g : List D → RD) (fs : M (List AK)) : M D := mBind fs fun as => mBind (callRes np io g (.v (.cls n) :: as)) fun r => if r.2 = true then mPure r.1 else mBad
section
variable (F : CmD X.prog X.w X.K X.mg X.base c.T n m kf ps io g) (o : Ok X c W k) (hk : kf ≤ k) (hg : Gl X n)
include F o hk hg
theorem de_cm (ha : DA X c W (e :: es) fs) (hdb : (n == ("__debug__" : Str)) = false := by decide) (hst : starEach (e :: es) X.env = (false, eval e X.env) :: starEach es X.env := by rfl) (hpl : (backTo pos (starEach es X.env)).any (·.1) = false := by rfl)
    (ht : eval (.Call (.Attribute (.Name n p) m apos) (e :: es) [] pos) X.env = (do
      let ov ← eval (.Name n p) X.env
      standAt apos.atName
      let (f, first) ← holding [ov] (getMethod ov m pl)
      callWith pos f first (backTo pos (starEach (e :: es) X.env)) (backToKw pos (keywordEach [] X.env))) := by rfl) : DE X c W (.Call (.Attribute (.Name n p) m apos) (e :: es) [] pos) (mCm n ps.length io g fs) := by
  obtain ⟨C, pr, f, mc, fd, hC, r, cm, hb, dfn⟩ := F.out
  obtain ⟨t, pt, st⟩ := ha.out
  refine DE.of (pe_dcm (dfn.raw hb) o hk hg hC r cm pt (fun σ H Q ⟨x, Δ, sr, q⟩ => ?_) hdb hst hpl ht)
  refine st x σ H Δ _ sr (Post.bind q fun as Δ2 q4 vs x2 H2 k2 sr2 h2 => ?_)
  exact call_sp (gc_eq o) sr2 (aks_cls o hC h2) (post_call (q4.step k2 fun a Δ z => okV.step k2 z)) (fun d Δ2 z => z) (fun d Δ2 z => okF.okV z)
theorem df_cm (ha : DA X c W (e :: es) fs) (hdb : (n == ("__debug__" : Str)) = false := by decide) (hst : starEach (e :: es) X.env = (false, eval e X.env) :: starEach es X.env := by rfl) (hpl : (backTo pos (starEach es X.env)).any (·.1) = false := by rfl)
    (ht : eval (.Call (.Attribute (.Name n p) m apos) (e :: es) [] pos) X.env = (do
      let ov ← eval (.Name n p) X.env
      standAt apos.atName
      let (f, first) ← holding [ov] (getMethod ov m pl)
      callWith pos f first (backTo pos (starEach (e :: es) X.env)) (backToKw pos (keywordEach [] X.env))) := by rfl) : DF X c W (.Call (.Attribute (.Name n p) m apos) (e :: es) [] pos) (mCmN n ps.length io g fs) := by
  obtain ⟨C, pr, f, mc, fd, hC, r, cm, hb, dfn⟩ := F.out
  obtain ⟨t, pt, st⟩ := ha.out
  refine DF.of (pe_dcm (dfn.raw hb) o hk hg hC r cm pt (fun σ H Q ⟨x, Δ, sr, q⟩ => ?_) hdb hst hpl ht)
  refine st x σ H Δ _ sr (Post.bind q fun as Δ2 q4 vs x2 H2 k2 sr2 h2 => ?_)
  exact call_sp (gc_eq o) sr2 (aks_cls o hC h2) (post_call (q4.step k2 fun a Δ z => okF.step k2 z)) (fun d Δ2 z => z.elim) (fun d Δ2 z => z)
end
section
variable (F : SmD X.prog X.w X.K X.mg X.base c.T n m kf ps io g) (o : Ok X c W k) (hk : kf ≤ k) (hg : Gl X n)
include F o hk hg
theorem de_sm (ha : DA X c W (e :: es) fs) (hdb : (n == ("__debug__" : Str)) = false := by decide) (hst : starEach (e :: es) X.env = (false, eval e X.env) :: starEach es X.env := by rfl) (hpl : (backTo pos (starEach es X.env)).any (·.1) = false := by rfl)
    (ht : eval (.Call (.Attribute (.Name n p) m apos) (e :: es) [] pos) X.env = (do
      let ov ← eval (.Name n p) X.env
      standAt apos.atName
      let (f, first) ← holding [ov] (getMethod ov m pl)
      callWith pos f first (backTo pos (starEach (e :: es) X.env)) (backToKw pos (keywordEach [] X.env))) := by rfl) : DE X c W (.Call (.Attribute (.Name n p) m apos) (e :: es) [] pos) (mCall ps.length io g fs) := by
  obtain ⟨C, pr, f, mc, fd, hC, r, cm, hb, dfn⟩ := F.out
  obtain ⟨t, pt, st⟩ := ha.out
  refine DE.of (pe_dsm (dfn.raw hb) o hk hg hC r cm pt (fun σ H Q ⟨x, Δ, sr, q⟩ => ?_) hdb hst hpl ht)
  refine st x σ H Δ _ sr (Post.bind q fun as Δ2 q4 vs x2 H2 k2 sr2 h2 => ?_)
  exact call_sp (gc_eq o) sr2 h2 (post_call (q4.step k2 fun a Δ z => okV.step k2 z)) (fun d Δ2 z => z) (fun d Δ2 z => okF.okV z)
theorem df_sm (ha : DA X c W (e :: es) fs) (hdb : (n == ("__debug__" : Str)) = false := by decide) (hst : starEach (e :: es) X.env = (false, eval e X.env) :: starEach es X.env := by rfl) (hpl : (backTo pos (starEach es X.env)).any (·.1) = false := by rfl)
    (ht : eval (.Call (.Attribute (.Name n p) m apos) (e :: es) [] pos) X.env = (do
      let ov ← eval (.Name n p) X.env
      standAt apos.atName
      let (f, first) ← holding [ov] (getMethod ov m pl)
      callWith pos f first (backTo pos (starEach (e :: es) X.env)) (backToKw pos (keywordEach [] X.env))) := by rfl) : DF X c W (.Call (.Attribute (.Name n p) m apos) (e :: es) [] pos) (mCallN ps.length io g fs) := by
  obtain ⟨C, pr, f, mc, fd, hC, r, cm, hb, dfn⟩ := F.out
  obtain ⟨t, pt, st⟩ := ha.out
  refine DF.of (pe_dsm (dfn.raw hb) o hk hg hC r cm pt (fun σ H Q ⟨x, Δ, sr, q⟩ => ?_) hdb hst hpl ht)
  refine st x σ H Δ _ sr (Post.bind q fun as Δ2 q4 vs x2 H2 k2 sr2 h2 => ?_)
  exact call_sp (gc_eq o) sr2 h2 (post_call (q4.step k2 fun a Δ z => okF.step k2 z)) (fun d Δ2 z => z.elim) (fun d Δ2 z => z)
theorem de_sm0 (hdb : (n == ("__debug__" : Str)) = false := by decide)
    (ht : eval (.Call (.Attribute (.Name n p) m apos) [] [] pos) X.env = (do
      let ov ← eval (.Name n p) X.env
      standAt apos.atName
      let (f, first) ← holding [ov] (getMethod ov m pl)
      callWith pos f first (backTo pos (starEach [] X.env)) (backToKw pos (keywordEach [] X.env))) := by rfl) : DE X c W (.Call (.Attribute (.Name n p) m apos) [] [] pos) (mCall ps.length io g mNil) := by
  obtain ⟨C, pr, f, mc, fd, hC, r, cm, hb, dfn⟩ := F.out
  refine DE.of (pe_dsm0 (dfn.raw hb) o hk hg hC r cm (fun σ H Q ⟨x, Δ, sr, q⟩ => ?_) hdb ht)
  exact call_sp (as := []) (gc_eq o) sr rfl (post_call q) (fun d Δ2 z => z) (fun d Δ2 z => okF.okV z)
end
end
end DL

namespace DLE
open PySem PySem.W PySem.Calls PyProof.Rows PySem.HandSPX
section
open Builtin Builtin.ObjectAttr
/-- a built-in exception class that own ones stand on -/
structure ExB (B newId initId : String) (tl : List Value) : Prop where
  bf : ExcBaseFacts B newId initId tl
  sf : ∀ self, refuseLoop self "__setattr__" tl = pure ()
  ob : tl.contains (.type "object") = true
  ty : typeOf (.type B) = pure (.type "type")
  st : Manifest.isStub B = false
  hi : W.handedIn (.builtin initId) = true
/-- own classes, then the built-in one's order -/
def refsT (tl : List Value) : List Value → Bool
  | .ref _ :: r => refsT tl r
  | l => l == tl
theorem refsT_cases (tl : List Value) : ∀ l : List Value, refsT tl l = true → (∃ c r, l = .ref c :: r ∧ refsT tl r = true) ∨ l = tl := fun l e => by
  cases l with
  | nil => exact .inr (beq_iff_eq.mp e)
  | cons a r =>
    cases a <;> first
      | exact .inl ⟨_, _, rfl, e⟩
      | exact .inr (beq_iff_eq.mp e)
variable {B newId initId : String} {tl : List Value}
theorem ExB.pass (x : ExB B newId initId tl) (self : Value) : ∀ l : List Value, refsT tl l = true → refuseLoop self "__setattr__" l = pure ()
  | [], e => by
    rcases refsT_cases tl _ e with ⟨c, r, q, h⟩ | q
    · cases q
    · rw [q]; exact x.sf self
  | a :: l, e => by
    rcases refsT_cases tl _ e with ⟨c, r, q, h⟩ | q
    · obtain ⟨rfl, rfl⟩ := List.cons.inj q
      rw [refuseLoop_ref]
      exact x.pass self l h
    · rw [q]; exact x.sf self
theorem refsT_has (Y : String) : ∀ l : List Value, refsT tl l = true → l.contains (.type Y) = tl.contains (.type Y)
  | [], e => by
    rcases refsT_cases tl _ e with ⟨c, r, q, h⟩ | q
    · cases q
    · rw [q]
  | a :: l, e => by
    rcases refsT_cases tl _ e with ⟨c, r, q, h⟩ | q
    · obtain ⟨rfl, rfl⟩ := List.cons.inj q
      rw [List.contains_cons, refsT_has Y l h]
      rfl
    · rw [q]
theorem ExB.ne (x : ExB B newId initId tl) {l : List Value} (e : refsT tl l = true) : l.isEmpty = false := by
  cases l with
  | nil =>
    have h := x.ob
    rw [← refsT_has "object" [] e] at h
    cases h
  | cons _ _ => rfl
variable {prog : Program} {w : World} {A : Around} {R : Result → Shared → Prop} {hp : Heap} {g : Array GenState} {d : Drawn} {t : Nat} {os : OsState}
/-- the first field of an exception is stored -/
theorem osa1 {K : W.Frag} {name : Str} {tk : Tok} {v : Value} {x C : Addr} {fv : Array Value} {cd : ClassData} (xb : ExB B newId initId tl)
    (X : K.In hp) (hx : hp.get? x = some { cls := .ref C, data := .fields fv }) (hcd : W.clsIn K C = some cd) (hm : refsT tl cd.mro = true) (hh : cd.hasDict = true) (ha : W.findIn K (.ref C) name = some none)
    (hq : ∀ h' tk' dx, (∀ b o, b ≠ x → hp.get? b = some o → h'.get? b = some o) → hp.objs.size ≤ dx → dx ≠ x → h'.get? x = some { cls := .ref C, dict := some dx, data := .fields fv } →
      h'.Ns1 dx (fun y => if y = name then some v else none) → R (.ok (.ret .none)) ⟨h', g, d, tk', os⟩) :
    codeAny (model prog w) A (.call (.builtin "object.__setattr__") ⟨[.ref x, .str name tk, v], []⟩) R ⟨hp, g, d, t, os⟩ := by
  have I : W.InstAt hp x { cls := .ref C, data := .fields fv } C none := ⟨hx, rfl, rfl, trivial⟩
  have SF := F.store_object
  have ne := xb.ne hm
  have hob : cd.mro.contains (.type "object") = true := (refsT_has "object" _ hm).trans xb.ob
  have hxs : x ≠ hp.objs.size := Nat.ne_of_lt (Heap.lt_size hx)
  have sub : W.Looks (model prog w) hp (isInstance (.ref x) (.type "object")) true := I.type.andThen (W.looks_mroIn X (by unfold W.mroIn; rw [hcd, Option.bind_some, if_neg (by rw [ne]; decide), hob]))
  refine codeAny_call_builtin SF.slot.plain SF.entry (@W.check_slot (model prog w) _ _ ⟨hp, g, d, t, os⟩ "object.__setattr__" "object" "__setattr__" (.ref x) [.str name tk, v] [] _ SF.kind SF.split sub (SF.args (.ref x) (.str name tk) v) ?_)
  have hmr : W.Looks (model prog w) hp (mroOf (.ref C)) cd.mro := (W.looks_clsIn X hcd).andThen .now
  have L3 : W.Looks (model prog w) hp (storeTaker? none) none := .now
  have hcls : W.Looks (model prog w) hp (classData C) cd := W.looks_clsIn X hcd
  rw [W.osa_eq, refuse_eq]
  refine wpAny_bind (wpAny_bind (I.type.at (wpAny_bind (hmr.at ?_))))
  rw [xb.pass _ _ hm]
  refine wpAny_pure (wpAny_bind (I.type.at (wpAny_bind ((W.looks_findIn X ha).at (wpAny_bind (L3.at ?_))))))
  show wpAny _ _ (storeInOwnDict (.ref x) (.ref C) (.str name tk) name v false) _ _ _
  obtain ⟨nm, bs, mro, ns, qn, hd, sn, sb, ab, col, del⟩ := cd
  dsimp only at hh
  subst hh
  unfold storeInOwnDict ownDictForStores
  repeat (first | with_reducible refine store_in_new ?_ ?_ | with_reducible refine wpAny_loadPart_at hx ?_ | with_reducible refine hcls.at ?_ | wp_step)
  · exact ⟨_, #[], _, (Heap.get?_update_ne _ _ _ _ hxs.symm).trans (Heap.get?_push_at rfl rfl), rfl, fun e he => absurd he (by simp), fun _ => rfl⟩
  · intro h' tk' hn' hs
    have hx₁ : (hp.push { cls := .type "dict", data := .dict #[] }).get? x = some { cls := .ref C, data := .fields fv } := Heap.get?_push_of_some _ hx
    refine hq h' tk' hp.objs.size (fun b o hb ho => ?_) (Nat.le_refl _) hxs.symm ?_ hn'
    · exact (hs.2 b (Nat.ne_of_lt (Heap.lt_size ho))).trans ((Heap.get?_update_ne _ _ _ _ hb).trans (Heap.get?_push_of_some _ ho))
    · exact (hs.2 x hxs).trans (Heap.get?_update_self _ hx₁ rfl)
end
theorem exb_V : ExB "ValueError" "ValueError.__new__" "ValueError.__init__" veTail := ⟨F.excBase_ValueError, F.store_ValueError.passes, by decide +kernel, by kernel_rfl, by decide +kernel, rfl⟩
theorem exb_R : ExB "RuntimeError" "RuntimeError.__new__" "RuntimeError.__init__" [.type "RuntimeError", .type "Exception", .type "BaseException", .type "object"] := ⟨F.excBase_RuntimeError, F.store_RuntimeError.passes, by decide +kernel, by kernel_rfl, by decide +kernel, rfl⟩
theorem exb_O : ExB "OverflowError" "OverflowError.__new__" "OverflowError.__init__" [.type "OverflowError", .type "ArithmeticError", .type "Exception", .type "BaseException", .type "object"] := ⟨F.excBase_OverflowError, F.store_OverflowError.passes, by decide +kernel, by kernel_rfl, by decide +kernel, rfl⟩
theorem exb_I : ExB "IndexError" "IndexError.__new__" "IndexError.__init__" [.type "IndexError", .type "LookupError", .type "Exception", .type "BaseException", .type "object"] := ⟨F.excBase_IndexError, F.store_IndexError.passes, by decide +kernel, by kernel_rfl, by decide +kernel, rfl⟩
end DLE
namespace DL
open PySem L2 PySem.Spec PyProof.Rows DLE
/-- what the written part says of an own exception class over B -/
structure OexB (K : PySem.W.Frag) (C : Addr) (B newId initId : String) (tl : List Value) : Prop where
  xb : ExB B newId initId tl
  cls : ∃ nm q N bs bm sn sub ab col dd k0 k1 k2 k3 k5, K.lookup C = some (excClassObj nm q C N bs bm true sn sub ab col dd k0 k1 k2 k3 k5 newId) ∧ refsT tl bm = true
  sa : PySem.W.findIn K (.ref C) "__setattr__" = some (some (.builtin "object.__setattr__"))
  exC : PySem.W.subIn K (.ref C) (.type "BaseException") = some true
  tyC : PySem.W.typeIn K (.ref C) = some (.type "type")
  kC : PySem.W.keepIn K (.ref C) = true
section
variable {X : Cx} {pins : List (Addr × Obj)} {σ : L2.St} {H : Hp} {s : Shared} {a C dx : Addr} {f : Str} {y : V} {u : Value} {fs : List (Str × V)} {Q : Unit → Shared → Prop} {E : Value → Shared → Prop} {A : Around} {B newId initId : String} {tl : List Value}
theorem ostB_new (T : OexB X.K C B newId initId tl) (I : Inv X pins σ H s) (e : H a = some (exo a C none)) (hno : PySem.W.findIn X.K (.ref C) f = some none) (ry : RelV y u)
    (h : ∀ dx s', H dx = none → dx ≠ a → Inv X pins σ (upd (upd H dx (exd dx [(f, y)])) a (exo a C (some dx))) s' → Q () s') : wpAny (model X.prog X.w) A (setAttr (.ref a) f u) Q E s := by
  obtain ⟨nm, q, N, bs, bm, sn, sub, ab, col, dd, k0, k1, k2, k3, k5, hC, hbm⟩ := T.cls
  have hcl : PySem.W.clsIn X.K C = some { name := nm, bases := bs, mro := .ref C :: bm, ns := N, qualname := q, hasDict := true, slotNames := sn, subclasses := sub, abstract := ab, collection := col, hasDel := false } := by unfold PySem.W.clsIn; rw [hC] <;> rfl
  obtain ⟨t1, ho⟩ := exo_at I.hok e
  obtain ⟨hp, g, d, t, os⟩ := s
  refine PySem.W.set_plain I.kIn (ox := { cls := .ref C, dict := none, data := .fields #[.ref t1, .none, .none, .none, .bool false, .none] }) (od := none) ⟨ho, rfl, rfl, trivial⟩ T.sa ?_
  refine osa1 T.xb I.kIn ho hcl (show refsT tl (.ref C :: bm) = true from hbm) rfl hno (fun h' tk' dx k dn dne hx hn => ?_)
  have hnd : H dx = none := I.hok.fresh dn
  have nd : ∀ {b : Addr} {o : Obj}, hp.get? b = some o → b ≠ dx := fun {b o} q => Nat.ne_of_lt (Nat.lt_of_lt_of_le (Heap.lt_size q) dn)
  have na : ∀ {b : Addr}, H b = none → b ≠ a := fun {b} n z => by rw [z, e] at n; cases n
  have U : Un X.fs [] H (upd (upd H dx (exd dx [(f, y)])) a (exo a C (some dx))) hp h' := {
    keep := fun b o q n _ _ => k b o (na n) q
    slot := fun b o q n _ _ => ⟨o.slots, k b o (na n) q⟩
    free := fun b o q n _ => by rw [upd_ne (na n), upd_ne (nd q)]; exact n
    there := fun b o q _ => (Classical.em (b = a)).elim (fun hb => ⟨_, hb ▸ hx⟩) fun hb => ⟨o, k b o hb q⟩
    tups := fun b xs q => by rw [upd_ne (at_ne e q exo_tup), upd_ne (ne_of_none q hnd)]; exact q
    frzs := fun b o v q => by rw [upd_ne (at_ne e q exo_frz), upd_ne (ne_of_none q hnd)]; exact q
    tbls := fun b ps q => ⟨#[], by rw [upd_ne (at_ne e q exo_tbl), upd_ne (ne_of_none q hnd), q]; simp⟩ }
  refine h dx _ hnd dne (I.un (t' := tk') U fun b o q => ?_)
  by_cases hb : b = a
  · subst hb
    rw [upd_same] at q
    cases q
    exact exo_ok hx
  · rw [upd_ne hb] at q
    by_cases hd : b = dx
    · subst hd
      rw [upd_same] at q
      cases q
      exact exd_ok hn (relO_put (fs := []) ry fun g => True.intro)
    · rw [upd_ne hd] at q
      exact (I.hok b o q).stay (fun c v hc z => k c v (hc.elim (fun hc => by rw [hc]; exact hb) fun hc => at_ne e hc exo_own) z)
        (fun c hc => by rw [upd_ne (at_ne e hc exo_own), upd_ne (ne_of_none hc hnd)]; exact hc) (fun c xs hc => by rw [upd_ne (at_ne e hc exo_tup), upd_ne (ne_of_none hc hnd)]; exact hc)
theorem oinitB_ok {us : List Value} {Q : Value → Shared → Prop} (T : OexB X.K C B newId initId tl) (I : Inv X pins σ H s) (e : H a = some (exo a C none)) (hl : us.length ≤ sizeLine) (h : ∀ s', Inv X pins σ H s' → Q .none s') :
    wpAny (model X.prog X.w) A (call (.builtin initId) (.ref a :: us)) Q E s := by
  obtain ⟨nm, q, N, bs, bm, sn, sub, ab, col, dd, k0, k1, k2, k3, k5, hC, hbm⟩ := T.cls
  obtain ⟨t1, ho⟩ := exo_at I.hok e
  obtain ⟨hp, g, d, t, os⟩ := s
  refine wpAny_call (PySem.HandSPX.init_base T.xb.bf (fun Y => refsT_has Y bm hbm) (I.kIn _ _ hC) ho hl fun h' t2 k hx => ?_)
  have J := I.write (t' := t) (x := a) (e := a) (o := exo a C none) (by rw [e]; exact True.intro) (.inl rfl) k ⟨_, hx⟩ (exo_ok hx)
  have eu : upd H a (exo a C none) = H := by
    funext b
    by_cases hb : b = a
    · rw [hb, upd_same, e]
    · rw [upd_ne hb]
  rw [eu] at J
  exact h _ J
end

/-! ### readings -/
/-- B.__init__(self, ..) -/
def tBI (K : PySem.W.Frag) (B newId initId : String) (tl : List Value) (ta : TA) : TE := fun σ H Q => ta σ H fun vs H1 => ∃ (a C : Addr) (ws : List V), vs = .ref a :: ws ∧ ws.length ≤ 1000 ∧ OexB K C B newId initId tl ∧ H1 a = some (exo a C none) ∧ Q .non H1
/-- self.f = e, the first field -/
def tOs1 (K : PySem.W.Frag) (B newId initId : String) (tl : List Value) (f : Str) (to te : TE) : TS := fun D σ H => te σ H fun y H1 => to σ H1 fun x H2 => ∃ a C : Addr, x = .ref a ∧ OexB K C B newId initId tl ∧ PySem.W.findIn K (.ref C) f = some none ∧
  H2 a = some (exo a C none) ∧ ∀ dx, H2 dx = none → dx ≠ a → D.nx σ (upd (upd H2 dx (exd dx [(f, y)])) a (exo a C (some dx)))
section
variable {X : Cx} {B newId initId : String} {tl : List Value} {o e : Expr} {es : List Expr} {to te : TE} {ta : TA} {f nm : Str} {p p' p1 p2 pos : Pos} {pl : Sem Bool}
theorem bi_end {pins : List (Addr × Obj)} {σ : L2.St} {H : Hp} {s : Shared} {Q : VK} (I : Inv X pins σ H s) (ha : PA X (e :: es) ta) (h : tBI X.K B newId initId tl ta σ H Q)
    (he : starEach (e :: es) X.env = (false, eval e X.env) :: starEach es X.env) (hpl : (backTo pos (starEach es X.env)).any (·.1) = false) :
    wpAny (model X.prog X.w) X.A (callWith pos (Value.builtin initId) [] (backTo pos (starEach (e :: es) X.env)) []) (EP X pins σ Q) X.xe s := by
  refine PyProof.Rows.callWith_method1 (thn (ha.run pos pins _ σ H _ I h) fun us s1 ⟨vs, H1, I1, r1, a, C, ws, ev, hl, T, ea, q⟩ => ?_) he hpl
  subst ev
  cases r1 with
  | @cons _ u0 _ ur ra rw' =>
    obtain rfl : u0 = Value.ref a := ra
    have hlen : ur.length ≤ sizeLine := by
      rw [← Paired.length rw', sizeLine_eq]
      omega
    exact oinitB_ok T I1 ea hlen fun s' J => ⟨.non, H1, J, rfl, q⟩
/-- .. B the built-in class, by its name -/
theorem pe_bi (xb : ExB B newId initId tl) (hg : Gl X nm) (hm : X.mg nm = none) (hv : bootBuiltins nm = some (.type B)) (vV : PySem.W.findCls X.K (.type B) (.type "type") "__init__" = some (.val (.builtin initId))) (ha : PA X (e :: es) ta)
    (hn : nm ≠ "__name__" := by decide) (hdb : (nm == ("__debug__" : Str)) = false := by decide)
    (hc : eval (.Call (.Attribute (.Name nm p1) "__init__" p2) (e :: es) [] pos) X.env = (do
      let ov ← eval (.Name nm p1) X.env
      standAt p2.atName
      let (f, first) ← holding [ov] (getMethod ov "__init__" pl)
      callWith pos f first (backTo pos (starEach (e :: es) X.env)) (backToKw pos (keywordEach [] X.env))) := by rfl)
    (he : starEach (e :: es) X.env = (false, eval e X.env) :: starEach es X.env := by rfl) (hpl : (backTo pos (starEach es X.env)).any (·.1) = false := by rfl) :
    PE X (.Call (.Attribute (.Name nm p1) "__init__" p2) (e :: es) [] pos) (tBI X.K B newId initId tl ta) := by
  refine ⟨fun pins s σ H Q I h => ?_⟩
  refine PySem.W.methodCall_KW (ld_blt I hg hm hv ?_ hn hdb) hc
  obtain ⟨m, fr⟩ := I.fr
  refine PySem.W.method_type fr I.ok.mod.kin xb.ty xb.st vV xb.hi ?_
  exact bi_end (I.tok _) ha h he hpl
/-- .. an own class that has B's -/
theorem pe_bio {D : Addr} {mc : Value} (xb : ExB B newId initId tl) (hg : Gl X nm) (hm : X.mg nm = some (.ref D)) (r : ClX.CRead X.K D mc) (vV : PySem.W.findCls X.K (.ref D) mc "__init__" = some (.val (.builtin initId))) (ha : PA X (e :: es) ta)
    (hdb : (nm == ("__debug__" : Str)) = false := by decide)
    (hc : eval (.Call (.Attribute (.Name nm p1) "__init__" p2) (e :: es) [] pos) X.env = (do
      let ov ← eval (.Name nm p1) X.env
      standAt p2.atName
      let (f, first) ← holding [ov] (getMethod ov "__init__" pl)
      callWith pos f first (backTo pos (starEach (e :: es) X.env)) (backToKw pos (keywordEach [] X.env))) := by rfl)
    (he : starEach (e :: es) X.env = (false, eval e X.env) :: starEach es X.env := by rfl) (hpl : (backTo pos (starEach es X.env)).any (·.1) = false := by rfl) :
    PE X (.Call (.Attribute (.Name nm p1) "__init__" p2) (e :: es) [] pos) (tBI X.K B newId initId tl ta) := by
  refine ⟨fun pins s σ H Q I h => ?_⟩
  refine PySem.W.methodCall_KW (ld_glob I hg hm ?_ hdb) hc
  refine PySem.W.method_cls I.kIn r.ga (PySem.W.cls_value I.kIn r.rd vV xb.hi ?_)
  exact bi_end (I.tok _) ha h he hpl
theorem ps_os1 (ho : PE X o to) (he : PE X e te) (hs : swapsWith e (some (.Attribute o f p')) pos.line X.env = pure false := by rfl) : PS X (.Assign [.Attribute o f p'] e pos) (tOs1 X.K B newId initId tl f to te) := by
  refine ⟨fun pins s σ H D I h => ?_⟩
  refine plainObj_wpAny_Assign_Attribute (thn (he.run pins s σ H _ I h) fun v s1 ⟨y, H1, I1, r1, q1⟩ => thn (ho.run pins s1 σ H1 _ I1 q1) fun u s2 ⟨x, H2, I2, r2, a, C, ex, T, hno, ea, q⟩ => ?_) hs
  subst ex
  obtain rfl : u = Value.ref a := r2
  exact ostB_new T I2 ea hno r1 fun dx s' n ne J => ⟨σ, _, J, q dx n ne⟩
end

/-! ### the promise of such an __init__; making -/
def spI (K : PySem.W.Frag) (B newId initId : String) (tl : List Value) : Sp := fun vs H Q _ => ∃ a C v, vs = [.ref a, v] ∧ OexB K C B newId initId tl ∧ PySem.W.findIn K (.ref C) "value" = some none ∧ H a = some (exo a C none) ∧ ∀ dx, H dx = none → dx ≠ a → Q .non (upd (upd H dx (exd dx [("value", v)])) a (exo a C (some dx)))
theorem ok_init {P : Program} {w : World} {K : PySem.W.Frag} {mg : Str → Option Value} {base : Heap} {st : Stmt} {qual : Str} {f : Addr} {fd : FuncData} {B newId initId : String} {tl : List Value} (F : Fun K "__init__" qual st f fd) (S : FnScope ["self", "value"] ["self", "value"] (defScope st))
    (hb : ∀ (cd : Value) (A : Around) (outer : List Env) (s : Shared) (H : Hp) (E : XK), PSs (cxOf (L2.CX P w) P w K mg base ["self", "value"] qual (defScope st) f cd A outer s H E) (defBody st) (tSeq (tDrop (tBI K B newId initId tl (tCons (tVar 0) (tCons (tVar 1) tNil)))) (tOs1 K B newId initId tl "value" (tVar 0) (tVar 1)))) :
    FnOk P w K mg base (L2.CX P w) 1 f fd ["self", "value"] (spI K B newId initId tl) := by
  refine F.okX S (fun vs H Q E h => ?_) (fun cd A outer s H vs Q E hr h => ⟨_, hb cd A outer s H E, ?_⟩)
  · obtain ⟨a, C, v, rfl, _⟩ := h
    rfl
  · obtain ⟨a, C, v, rfl, T, hno, ea, q⟩ := h
    exact ⟨.ref a, rfl, v, rfl, a, C, [v], rfl, (show 1 ≤ 1000 by decide), T, ea, v, rfl, .ref a, rfl, a, C, rfl, T, hno, ea, fun dx n ne => q dx n ne⟩
/-- the exception class n, made of one value -/
structure ExD (P : Program) (w : World) (K : PySem.W.Frag) (mg : Str → Option Value) (base : Heap) (n : Str) : Prop where
  out : ∃ (C fI : Addr) (B newId initId : String) (tl : List Value) (fd : FuncData), mg n = some (.ref C) ∧ OexB K C B newId initId tl ∧ PySem.W.findIn K (.ref C) "value" = some none ∧ PySem.W.findIn K (.ref C) "__init__" = some (some (.ref fI)) ∧
    PySem.W.typeIn K (.ref fI) = some (.type "function") ∧ Binds K fd ["self", "value"] [] ∧ FnOk P w K mg base (L2.CX P w) 1 fI fd ["self", "value"] (spI K B newId initId tl)
theorem passes_no {X : Cx} : Passes (L2.CX X.prog X.w) X (fun _ _ _ => False) := fun pins σ H s e s' I h => by
  obtain ⟨_, _, _, _, _, _, _, _, _, _, _, _, z⟩ := h
  exact z.elim
section
variable {X : Cx} {n : Str} {e : Expr} {es : List Expr} {ta : TA} {p pos : Pos}
theorem pmk_D (x : ExD X.prog X.w X.K X.mg X.base n) (hr : Room 2 X.A) (hg : Gl X n) (ha : PA X (e :: es) ta)
    (hdb : (n == ("__debug__" : Str)) = false := by decide) (he : starEach (e :: es) X.env = (false, eval e X.env) :: starEach es X.env := by rfl) (hpl : (backTo pos (starEach es X.env)).any (·.1) = false := by rfl) :
    PMk X (.Call (.Name n p) (e :: es) [] pos) (fun σ H Q => ta σ H fun vs H1 => ∃ v, vs = [v] ∧ ∃ C, X.mg n = some (.ref C) ∧ ∀ d, H1 d = none → Q (.ref C) (some d) (upd H1 d (.xd [("value", v)]))) := by
  intro pins s σ H Q I h
  obtain ⟨C, fI, B, newId, initId, tl, fd, hm, T, hno, iC, tI, hb, F1⟩ := x.out
  obtain ⟨nm, q, N, bs, bm, sn, sub, ab, col, dd, k0, k1, k2, k3, k5, hC, hbm⟩ := T.cls
  refine wpAny_Call_Name_kw (ld_glob I hg hm ?_ hdb)
  refine PySem.W.callWith_K (h₀ := X.base) I.ok.mod.kin T.kC (thn (ha.run pos pins s σ H _ I h) fun us s1 ⟨vs, H1, I1, r1, v, ev, C', hC', q1⟩ => ⟨I1.kIn, ?_⟩) he hpl
  subst ev
  rw [hm] at hC'
  cases hC'
  show wpAny _ _ (call (.ref C) us) _ _ _
  obtain ⟨hp, g, dr, tk, os⟩ := s1
  have hsz : hp.objs.size ≤ hp.objs.size + 1 := Nat.le_succ _
  have hn : H1 (hp.objs.size + 1) = none := I1.hok.fresh hsz
  have kk : ∀ b o, hp.get? b = some o → ((hp.push (PySem.W.kdv_tup us)).push (PySem.HandSPX.excO C hp.objs.size)).get? b = some o := fun b o e => Heap.get?_push_of_some _ (Heap.get?_push_of_some _ e)
  have hget : ((hp.push (PySem.W.kdv_tup us)).push (PySem.HandSPX.excO C hp.objs.size)).get? (hp.objs.size + 1) = some (PySem.HandSPX.excO C hp.objs.size) := by heap_get
  have I2 : Inv X pins σ (upd H1 (hp.objs.size + 1) (exo (hp.objs.size + 1) C none)) ⟨(hp.push (PySem.W.kdv_tup us)).push (PySem.HandSPX.excO C hp.objs.size), g, dr, tk, os⟩ :=
    I1.laid (t' := tk) (a := hp.objs.size + 1) (o := exo (hp.objs.size + 1) C none) (h' := (hp.push (PySem.W.kdv_tup us)).push (PySem.HandSPX.excO C hp.objs.size)) kk hsz (exo_ok hget)
  have r2 : Vals (V.ref (hp.objs.size + 1) :: [v]) (Value.ref (hp.objs.size + 1) :: us) := .cons rfl r1
  have hus : us.length ≤ sizeLine := by
    rw [← Paired.length r1, sizeLine_eq]
    show 1 ≤ _
    decide
  have hl : ((Value.ref (hp.objs.size + 1) :: us) ++ ([] : List Value)).length = (["self", "value"] : List Str).length := by
    rw [List.append_nil, ← r2.length]
    rfl
  have hbind := hb ⟨(hp.push (PySem.W.kdv_tup us)).push (PySem.HandSPX.excO C hp.objs.size), g, dr, tk, os⟩ (Value.ref (hp.objs.size + 1) :: us) I2.kIn hl
  rw [List.append_nil] at hbind
  refine wpAny_call (PySem.HandSPX.call_own T.xb.bf (fun Y => refsT_has Y bm hbm) (I1.kIn _ _ hC) (PySem.W.looks_findIn I1.kIn iC) (fun self => PySem.W.bind_fn I1.kIn self tI) hus
    (codeAny_mono (F1.run _ X.stack _ _ ⟨Value.ref (hp.objs.size + 1) :: us, []⟩ (Value.ref (hp.objs.size + 1) :: us) _
      (fun z H2 => z = .non ∧ ∃ (d : Addr), H2 (hp.objs.size + 1) = some (exo (hp.objs.size + 1) C (some d)) ∧ H2 d = some (exd d [("value", v)]) ∧ H1 d = none ∧ upd (del H2 (hp.objs.size + 1)) d (.xd [("value", v)]) = upd H1 d (.xd [("value", v)]))
      (fun _ _ _ => False) (hr.make C us []) (I2.env0.make C us []) hbind r2 ?_) fun r s' hq' => ?_))
  · refine ⟨_, C, v, rfl, T, hno, upd_same, fun dx nd ne => ⟨rfl, dx, upd_same, ?_, ?_, ?_⟩⟩
    · rw [upd_ne ne, upd_same]
    · rw [upd_ne ne] at nd
      exact nd
    · funext b
      by_cases hbd : b = dx
      · rw [hbd, upd_same, upd_same]
      · rw [upd_ne hbd, upd_ne hbd]
        by_cases hba : b = hp.objs.size + 1
        · rw [hba, del_same, hn]
        · rw [del_ne hba, upd_ne hba, upd_ne hbd, upd_ne hba]
  · cases r with
    | error er => exact passes_no pins σ _ _ er s' I2 hq'
    | ok fl =>
      cases fl with
      | ret u =>
        obtain ⟨z, H2, os2, bare2, un2, hok2, rv, ev, d, ea, ed, hd1, eq⟩ := hq'
        subst ev
        obtain ⟨h2, g2, d2, t2, os'⟩ := s'
        exact ⟨rv, mk_end (raises_own T.exC T.tyC) I1 hsz kk un2 hok2 os2 bare2 ea ed hd1 (by rw [eq]; exact q1 d hd1)⟩
      | next => exact False.elim hq'
      | brk => exact False.elim hq'
      | cont => exact False.elim hq'
end

/-! ### raise n(e) -/
def mRaise (n : Str) (fs : M (List AK)) : M Fl := mBind fs fun as => mBind (mVals as) fun ds Δ => match ds with
  | [d] => .ex n (some d) Δ
  | _ => .bad
section
variable {X : Cx} {c : Ct} {W : WX} {k : Nat} {n : Str} {e : Expr} {es : List Expr} {fs : M (List AK)} {p pos pos' : Pos}
theorem ds_raise (x : ExD X.prog X.w X.K X.mg X.base n) (o : Ok X c W k) (hk : 2 ≤ k) (hg : Gl X n) (ha : DA X c W (e :: es) fs) (hdb : (n == ("__debug__" : Str)) = false := by decide)
    (he : starEach (e :: es) X.env = (false, eval e X.env) :: starEach es X.env := by rfl) (hpl : (backTo pos (starEach es X.env)).any (·.1) = false := by rfl) :
    DS X c W (.Raise (some (.Call (.Name n p) (e :: es) [] pos)) none pos') (mRaise n fs) := by
  obtain ⟨t, pt, st⟩ := ha.out
  refine ⟨_, L2.ps_raise o.calm o.tk (pmk_D x (o.room.mono hk) hg pt hdb he hpl), fun y σ H Δ E sr q => ?_⟩
  refine st y σ H Δ _ sr (Post.bind (q.toPost (σ := σ)) fun as Δ1 q1 vs x1 H1 k1 sr1 h1 => ?_)
  obtain ⟨ds, rl, q2⟩ := Post.vals sr1 h1 (q1.stepS k1)
  match ds, rl, q2 with
  | [], rl, q2 => exact q2.elim
  | _ :: _ :: _, rl, q2 => exact q2.elim
  | [d], rl, q2 =>
    unfold RepL at rl
    obtain ⟨v, r, rfl, h2, h3⟩ := rl
    unfold RepL at h3
    subst h3
    obtain ⟨C, fI, B, newId, initId, tl, fd, hm, _⟩ := x.out
    refine ⟨v, rfl, C, hm, fun d' hd' => ?_⟩
    have ex : Ex H1 (upd H1 d' (.xd [("value", v)])) := Ex.new hd'
    exact q2 C (some d') x1 _ (Kp.ex ex x1) (sr1.ex ex) ⟨by rw [o.hmg]; exact hm, d', v, rfl, sr1.fr d' hd', upd_same, h2.keep ex.keep⟩
end
end DL

namespace DL
open PySem L2 PySem.Spec PyProof.Rows
abbrev Suite := Addr → Value → Option Addr → TS
/-- the ends behind a clause that names its exception -/
def behind (D : Ends) : Option Nat → Ends
  | none => D
  | some i => { nx := fun σ' H' => D.nx (σ'.set i none) H', rt := D.rt, bk := fun σ' H' => D.bk (σ'.set i none) H', ct := fun σ' H' => D.ct (σ'.set i none) H' }
def named (σ : L2.St) (a : Addr) : Option Nat → L2.St
  | none => σ
  | some i => σ.set i (some (.ref a))
/-- what the clauses wish of an exception -/
def wG (K : PySem.W.Frag) (Wout : WX) (D : Ends) : List (Value × Option Nat × Suite) → WX
  | [] => Wout
  | (c, o, ts) :: r => fun cls d σ H => ∃ b, PySem.W.exmOne K cls c = some b ∧ (b = true → ∀ a, H a = none → ts a cls d (behind D o) (named σ a o) H) ∧ (b = false → wG K Wout D r cls d σ H)
def SuiteOk (X : Cx) (suite : List Stmt) (ts : Suite) : Prop := ∀ (a : Addr) (oe : Obj) (cls : Value) (d : Option Addr) (pn : List (Addr × Obj)), Zc cls d oe → (∃ vs, oe.data = .fields vs) → PSs (X.suite a ((a, oe) :: pn)) suite (ts a cls d)
inductive HdsG (X : Cx) : List ExceptHandler → List (Value × Option Nat × Suite) → Prop
  | nil : HdsG X [] []
  | bare {x : Str} {c : Value} {ts : Suite} {b₀ : Stmt} {suite : List Stmt} {np pos' : Pos} {hds : List ExceptHandler} {l : List (Value × Option Nat × Suite)} (hc : Names X x c) (hsu : SuiteOk X (b₀ :: suite) ts) (r : HdsG X hds l) :
      HdsG X (.ExceptHandler (some (.Name x np)) none (b₀ :: suite) pos' :: hds) ((c, none, ts) :: l)
  | as {x n : Str} {i : Nat} {c : Value} {ts : Suite} {b₀ : Stmt} {suite : List Stmt} {np pos' : Pos} {hds : List ExceptHandler} {l : List (Value × Option Nat × Suite)} (hc : Names X x c) (hN : X.N.Nodup) (hi : X.N[i]? = some n) (hln : X.env.kindOf n = some .local)
      (hsu : SuiteOk X (b₀ :: suite) ts) (r : HdsG X hds l) : HdsG X (.ExceptHandler (some (.Name x np)) (some n) (b₀ :: suite) pos' :: hds) ((c, some i, ts) :: l)
section
variable {X : Cx} {body : List Stmt} {h₀ : ExceptHandler} {hds : List ExceptHandler} {l : List (Value × Option Nat × Suite)} {pos : Pos} {tb : WX → TS} {Wout : WX}
theorem ps_tryG (hs : X.stack = X.env :: X.outer) (hf : X.env.frame = some X.env.locals) (tk : Takes X Wout)
    (hb : ∀ (W : WX) (pn : List (Addr × Obj)) (xe : Value → Shared → Prop), Takes (X.tr pn xe) W → PassesOwn (model X.prog X.w) X.A X.env xe → PSs (X.tr pn xe) body (tb W))
    (hh : HdsG X (h₀ :: hds) l) : PS X (.Try body (h₀ :: hds) [] [] pos) (fun D σ H => tb (wG X.K Wout D l) D σ H) := by
  refine ⟨fun pins s σ H D I h => ?_⟩
  have ok := I.ok
  have hfr : X.A.frames = some (X.env :: X.outer) := by rw [ok.frames, hs]
  refine wpAny_Try_except ?_
  refine wpAny_mono ((hb (wG X.K Wout D l) (X.pn ++ pins) (fun e s₁ => wpAny (model X.prog X.w) X.A (noteFrame e X.env) (fun _ s₂ => wpAny (model X.prog X.w) X.A (setFlight e none) (fun _ s₃ =>
    wpAny (model X.prog X.w) X.A (handleBy e X.env (h₀ :: hds)) (SP X pins D) X.xe s₃) X.xe s₂) X.xe s₁) (fun u s' xx => ?_) PassesOwn.looking).run [] s σ H D (I.toTry _) h) (fun f s1 hsp => ?_) (fun e s1 he => he)
  · obtain ⟨a, B, sI, pins', σ', H', cls, d, rfl, J', nb, up, sky, na, os, ag, w⟩ := xx
    have J : Inv X pins σ' H' sI := J'.ofTry ok
    have sky' : Sky B (X.env :: X.outer) a (Zc cls d) X.env.locals s'.heap := by rw [← hs]; exact sky
    show wpAny (model X.prog X.w) X.A (noteFrame (.ref a) X.env) _ _ _
    refine Sky.land Zc.steady hfr hf sky' fun h3 fl3 up3 => ?_
    have J3 : Inv X pins σ' H' { s' with heap := h3 } := J.landed nb fl3.1 (up.trans up3) os ag
    obtain ⟨oe3, vs3, he3, hz3, hd3⟩ := fl3.there
    have notFr : ∀ {h : Heap} {o : Obj} {vs : Array Value}, h.FunFrames B (X.env :: X.outer) → h.get? a = some o → o.data = .fields vs → a ∉ frs (X.env :: X.outer) := fun {h o vs} ff e dd hm => by
      obtain ⟨_, o', e', hnf⟩ := ff.mem hm
      rw [e] at e'; cases e'
      exact hnf _ dd
    have nfr := notFr fl3.2.2.1 he3 hd3
    have nL : a ≠ X.env.locals := fun z => nfr (List.mem_filterMap.mpr ⟨X.env, List.mem_cons_self, by rw [hf, z]⟩)
    have nF : a ∉ X.fs := fun hm => by
      obtain ⟨e, he, q⟩ := List.mem_filterMap.mp hm
      exact nfr (List.mem_filterMap.mpr ⟨e, List.mem_cons_of_mem _ he, q⟩)
    have S3 := J3.suite he3 hd3 na nL nF
    have LT : PySem.W.Looks (model X.prog X.w) h3 (typeOf (.ref a)) cls := fun A Q E s k q => wpAny_typeOf_ref (k _ _ he3) (by rw [hz3.1]; exact q)
    have test : ∀ {x : Str} {np : Pos} {c : Value} {Q : Value → Shared → Prop} {E : Value → Shared → Prop}, Names X x c → Q c { s' with heap := h3 } → wpAny (model X.prog X.w) (X.A.mark (some (.ref a))) (eval (.Name x np) X.env) Q E { s' with heap := h3 } := fun {x np c Q E} hc q => by
      obtain ⟨hg, hdbg, hm | ⟨hm, hv, hnn⟩⟩ := hc
      · exact ld_glob (X := X.suite a ((a, oe3) :: (X.pn ++ pins))) S3 hg hm q hdbg
      · exact ld_blt (X := X.suite a ((a, oe3) :: (X.pn ++ pins))) S3 hg hm hv q hnn hdbg
    have go : ∀ {hds' : List ExceptHandler} {l' : List (Value × Option Nat × Suite)}, HdsG X hds' l' → wG X.K Wout D l' cls d σ' H' →
        wpAny (model X.prog X.w) X.A (handleBy (.ref a) X.env hds') (SP X pins D) X.xe { s' with heap := h3 } := by
      intro hds' l' hk
      induction hk with
      | nil =>
        intro w
        refine wpAny_handleBy_nil ?_
        obtain ⟨k1, k2, k3, oe, vs, T, oT, ts', he, hz, hd, h1, hr⟩ := id fl3
        unfold PySem.passOn
        refine wpAny_bind (wpAny_field he hd h1 ?_)
        rw [if_neg (show ¬ ((Value.ref T == Value.none) = true) from by simp)]
        have fin : wpAny (model X.prog X.w) X.A (setFlight (.ref a) X.env.frame) (fun _ s4 => wpAny (model X.prog X.w) X.A (throw (.ref a) : Sem Flow) (SP X pins D) X.xe s4) X.xe { s' with heap := h3 } := by
          rw [hf]
          refine HandSPX.setFlight_upZ fl3 fun h4 hh4 up4 => wpAny_throw (tk _ _ ?_)
          exact ⟨a, B, sI, pins, σ', H', cls, d, rfl, J, nb, (up.trans up3).trans up4, .inr (.inr (by rw [hs]; exact hh4)), na, os, ag, w⟩
        first
          | exact wpAny_bind (wpAny_pure (wpAny_bind fin))
          | exact wpAny_bind fin
      | @bare x c ts b₀ suite np pos' hds2 l2 hc hsu r ih =>
        intro w
        obtain ⟨b, hb1, hyes, hno⟩ := w
        refine wpAny_handleBy_cons (codeAny_handlers_test ?_) (by intro q; cases q)
        have LM := PySem.W.exm_one (M := model X.prog X.w) (J3.kIn) LT hb1
        refine test hc (LM.here ?_)
        cases b with
        | true =>
          refine codeAny_handlers_suite ?_
          refine HandSPX.lands_againZ fl3 fun h4 fl4 up4 => ?_
          have J4 : Inv X pins σ' H' { s' with heap := h4 } := J.landed nb fl4.1 ((up.trans up3).trans up4) os ag
          obtain ⟨oe4, vs4, he4, hz4, hd4⟩ := fl4.there
          have S4 := J4.suite he4 hd4 na nL nF
          refine wpAny_mono ((hsu a oe4 cls d (X.pn ++ pins) hz4 ⟨_, hd4⟩).run [] _ _ H' _ S4 (hyes rfl a na)) (fun f s6 hsp => ?_) (fun _ _ z => False.elim z)
          cases f <;> first
            | (obtain ⟨σ6, H6, S6, q6⟩ := hsp; exact ⟨_, _, S6.unsuite ok, q6⟩)
            | (obtain ⟨v6, σ6, H6, S6, r6, q6⟩ := hsp; exact ⟨_, _, _, S6.unsuite ok, r6, q6⟩)
        | false =>
          show wpAny _ X.A (handleBy (.ref a) X.env hds2) _ _ _
          exact ih (hno rfl)
      | @as x n i c ts b₀ suite np pos' hds2 l2 hc hN hi hln hsu r ih =>
        intro w
        obtain ⟨b, hb1, hyes, hno⟩ := w
        refine wpAny_handleBy_cons (codeAny_handlers_test ?_) (by intro q; cases q)
        have LM := PySem.W.exm_one (M := model X.prog X.w) (J3.kIn) LT hb1
        refine test hc (LM.here ?_)
        cases b with
        | true =>
          refine codeAny_handlers_suite_as ?_
          refine HandSPX.lands_againZ fl3 fun h4 fl4 up4 => ?_
          have J4 : Inv X pins σ' H' { s' with heap := h4 } := J.landed nb fl4.1 ((up.trans up3).trans up4) os ag
          obtain ⟨oe4, vs4, he4, hz4, hd4⟩ := fl4.there
          have S4 := J4.suite he4 hd4 na nL nF
          refine store_ok (X := X.suite a ((a, oe4) :: (X.pn ++ pins))) (v := .ref a) S4 hN hi (.inl hln) rfl (fun s5 S5 => ?_) (.inr hln)
          refine wpAny_mono ((hsu a oe4 cls d (X.pn ++ pins) hz4 ⟨_, hd4⟩).run [] s5 _ H' _ S5 (hyes rfl a na)) (fun f s6 hsp => ?_) (fun _ _ z => False.elim z)
          have end_ : ∀ {σ6 : L2.St} {H6 : Hp} {Q : Shared → Prop}, Inv (X.suite a ((a, oe4) :: (X.pn ++ pins))) [] σ6 H6 s6 → (∀ s7, Inv X pins (σ6.set i none) H6 s7 → Q s7) →
              wpAny (model X.prog X.w) X.A (do bindName X.env n .none; unbindBehindTheSuite X.env n pos') (fun _ s7 => Q s7) X.xe s6 := fun {σ6 H6 Q} S6 hq => gone_ok (S6.unsuite ok) hN hi hln hq
          cases f <;> first
            | (obtain ⟨σ6, H6, S6, q6⟩ := hsp; exact end_ S6 fun s7 J7 => ⟨_, _, J7, q6⟩)
            | (obtain ⟨v6, σ6, H6, S6, r6, q6⟩ := hsp; exact end_ S6 fun s7 J7 => ⟨_, _, _, J7, r6, q6⟩)
        | false =>
          show wpAny _ X.A (handleBy (.ref a) X.env hds2) _ _ _
          exact ih (hno rfl)
    exact go hh w
  · cases f <;> first
      | (obtain ⟨σ', H', J', q⟩ := hsp; exact wpAny_execs_nil ⟨σ', H', J'.ofTry ok, q⟩)
      | (obtain ⟨σ', H', J', q⟩ := hsp; exact ⟨σ', H', J'.ofTry ok, q⟩)
      | (obtain ⟨v, σ', H', J', r, q⟩ := hsp; exact ⟨v, σ', H', J'.ofTry ok, r, q⟩)
end
end DL

namespace DL
open PySem L2 PySem.Spec PyProof.Rows

theorem ExG.kp {c : Ct} {x x' : Sx} {σ : L2.St} {H H' : Hp} {Δ : SD} {n : Str} {d : Option D} {C : Addr} {dx : Option Addr} (s : SR c x σ H Δ) (k : Kp x H x' H') (h : ExR c x H n d C dx) : ExR c x' H' n d C dx := by
  obtain ⟨hm, h⟩ := h
  refine ⟨hm, ?_⟩
  cases d with
  | none => exact h
  | some d =>
    obtain ⟨p, v, e, hp, hh, r⟩ := h
    exact ⟨p, v, e, k.av p hp (by rw [hh]; intro z; cases z), k.frame p _ hh fx_xd (s.notOwned hp), r.kp s k⟩
/-- a slot forgets -/
theorem SR.setUn {c : Ct} {x : Sx} {σ : L2.St} {H : Hp} {Δ : SD} {i : Nat} (s : SR c x σ H Δ) (hio : ∀ p ∈ c.io, p.1 ≠ i) (o : Option V) :
    Kp x H ⟨x.Av, fun j => if j = i then none else x.ρ j⟩ H ∧ SR c ⟨x.Av, fun j => if j = i then none else x.ρ j⟩ (σ.set i o) H (Δ.set i .un) := by
  have rho : ∀ {j b}, (if j = i then none else x.ρ j) = some b → j ≠ i ∧ x.ρ j = some b := fun {j b} q => by
    by_cases e : j = i
    · rw [if_pos e] at q; cases q
    · rw [if_neg e] at q; exact ⟨e, q⟩
  refine ⟨⟨fun p o h _ _ => h, fun p h => h, fun j p h => .inl ⟨j, (rho h).2⟩, fun p h _ => h, fun p h => .inl h⟩, ?_⟩
  exact {
    len := by rw [List.length_set, List.length_set]; exact s.len
    base := s.base
    tab := s.tab
    trk := s.trk
    fr := s.fr
    av := s.av
    a0 := s.a0
    ow := fun j a h => s.ow j a (rho h).2
    inj := fun j l a h1 h2 => s.inj j l a (rho h1).2 (rho h2).2
    slot := fun j => by
      by_cases e : j = i
      · subst e
        by_cases hl : j < Δ.length
        · rw [List.getElem?_set_self hl]; trivial
        · rw [List.getElem?_eq_none (by rw [List.length_set]; omega)]; trivial
      · rw [List.getElem?_set_ne (Ne.symm e)]
        have sl := s.slot j
        revert sl
        cases Δ[j]? with
        | none => intro _; trivial
        | some z =>
          cases z with
          | un => intro _; trivial
          | sh d => exact fun ⟨v, h1, h2⟩ => ⟨v, by rw [List.getElem?_set_ne (Ne.symm e)]; exact h1, h2⟩
          | ow d => exact fun ⟨a, h0, h1, h2⟩ => ⟨a, (if_neg e).trans h0, by rw [List.getElem?_set_ne (Ne.symm e)]; exact h1, h2⟩
    ios := fun p hp => (if_neg (hio p hp)).trans (s.ios p hp) }

/-! ### mirrors -/
abbrev HMir := Str → Option D → M Fl
def unAt (o : Option Nat) (Δ : SD) : SD := match o with
  | none => Δ
  | some i => Δ.set i .un
def okAt (o : Option Nat) (Δ : SD) : Bool := match o with
  | none => true
  | some i => decide (i < Δ.length)
def mSuite (o : Option Nat) (f : M Fl) : M Fl := fun Δ => if okAt o Δ = true then (match f (unAt o Δ) with
  | .ok .nx Δ' => .ok .nx (unAt o Δ')
  | .ok .bk Δ' => .ok .bk (unAt o Δ')
  | .ok .ct Δ' => .ok .ct (unAt o Δ')
  | .ok (.rt d) Δ' => .ok (.rt d) Δ'
  | .ok (.rf d) Δ' => .ok (.rf d) Δ'
  | _ => .bad) else .bad
def mCatch (tx : Str → Str → Option Bool) : List (Str × Option Nat × HMir) → HMir
  | [], n, d => fun Δ => .ex n d Δ
  | (m, o, h) :: r, n, d => match tx n m with
    | some true => mSuite o (h n d)
    | some false => mCatch tx r n d
    | none => mBad
def mTry (f : M Fl) (h : HMir) : M Fl := fun Δ => match f Δ with
  | .ok fl Δ' => .ok fl Δ'
  | .ex n d Δ' => h n d Δ'
  | .bad => .bad

/-! ### suites -/
structure DSu (X : Cx) (c : Ct) (suite : List Stmt) (o : Option Nat) (h : HMir) : Prop where
  out : ∃ ts : Suite, SuiteOk X suite ts ∧ ∀ a C dx n d x σ H Δ E, (∀ i, o = some i → σ[i]? = some (some (.ref a))) → H a = none → SR c x σ H Δ → ExR c x H n d C dx → PostS c noW x H E (h n d Δ) → ts a (.ref C) dx E σ H
/-- where a suite stands -/
structure OkS (X : Cx) (c : Ct) (k : Nat) : Prop where
  hK : c.K = X.K
  hmg : c.mg = X.mg
  gd : 20 ≤ k → X.A.guards = some []
  units : X.A.units + 64 < cLine
  nd : X.N.Nodup
theorem Ok.suite {X : Cx} {c : Ct} {W : WX} {k : Nat} (o : Ok X c W k) {a : Addr} {pn : List (Addr × Obj)} : OkS (X.suite a pn) c k := ⟨o.hK, o.hmg, o.gd, o.units, o.nd⟩
theorem Ok.tr {X : Cx} {c : Ct} {W W' : WX} {k : Nat} (o : Ok X c W k) {pn : List (Addr × Obj)} {xe : Value → Shared → Prop} (tk : Takes (X.tr pn xe) W') (po : PassesOwn (model X.prog X.w) X.A X.env xe) : Ok (X.tr pn xe) c W' k :=
  ⟨o.hK, o.hmg, o.calm, o.room, o.gd, tk, po, o.nd⟩
theorem noW_false {C : Value} {dx : Option Addr} {σ : L2.St} {H : Hp} : noW C dx σ H → False := fun h => h
/-- a suite without the exception -/
def tSu (c : Ct) (f : M Fl) : TS := fun E σ H => ∃ x Δ, SR c x σ H Δ ∧ PostS c noW x H E (f Δ)
theorem dsu_plain {X : Cx} {c : Ct} {suite : List Stmt} {o : Option Nat} {f : M Fl} (hb : ∀ (a : Addr) (pn : List (Addr × Obj)), DB (X.suite a pn) c noW suite f) : DSu X c suite o (fun _ _ => f) := by
  refine ⟨fun _ _ _ => tSu c f, fun a oe cls d pn hz hf => ?_, fun a C dx n d x σ H Δ E hi ha sr xr p => ⟨x, Δ, sr, p⟩⟩
  obtain ⟨t, pt, st⟩ := (hb a ((a, oe) :: pn)).out
  exact ⟨fun pins s σ H D I ⟨x, Δ, sr, p⟩ => pt.run pins s σ H D I (st x σ H Δ D sr p)⟩

/-! ### expressions with the exception -/
structure DX (X : Cx) (c : Ct) (i : Nat) (e : Expr) (f : Str → Option D → M D) : Prop where
  out : ∀ (a : Addr) (oe : Obj) (C : Addr) (dx : Option Addr) (pn : List (Addr × Obj)), Zc (.ref C) dx oe → (∃ vs, oe.data = .fields vs) → ∃ t : TE, PE (X.suite a ((a, oe) :: pn)) e t ∧
    ∀ n d x σ H Δ Q, σ[i]? = some (some (.ref a)) → SR c x σ H Δ → ExR c x H n d C dx → Post c noW x σ H (okV c x σ H Q) (f n d Δ) → t σ H Q
structure DXs (X : Cx) (c : Ct) (i : Nat) (es : List Expr) (f : Str → Option D → M (List D)) : Prop where
  out : ∀ (a : Addr) (oe : Obj) (C : Addr) (dx : Option Addr) (pn : List (Addr × Obj)), Zc (.ref C) dx oe → (∃ vs, oe.data = .fields vs) → ∃ t : TA, PA (X.suite a ((a, oe) :: pn)) es t ∧
    ∀ n d x σ H Δ Q, σ[i]? = some (some (.ref a)) → SR c x σ H Δ → ExR c x H n d C dx → Post c noW x σ H (fun ds Δ' => ∀ vs x' H', Kp x H x' H' → SR c x' σ H' Δ' → RepL c.toGc x'.Av H' ds vs → Q vs H') (f n d Δ) → t σ H Q
/-- what the text says of a class whose exceptions are looked at -/
structure EcD (K : PySem.W.Frag) (mg : Str → Option Value) (n : Str) : Prop where
  out : ∃ C, mg n = some (.ref C) ∧ XfC K C ∧ PySem.W.findIn K (.ref C) "value" = some none
def inNames (ns : List Str) (n : Str) : Bool := decide (n ∈ ns)
def mVal (ns : List Str) (n : Str) (d : Option D) : M D := if inNames ns n = true then mOpt d else mBad
section
variable {X : Cx} {c : Ct} {i : Nat} {e : Expr} {es : List Expr} {pos p1 p2 : Pos} {f : Str → Option D → M D} {fs : Str → Option D → M (List D)}
theorem dx_val {x : Str} {ns : List Str} (hG : c.toGc = ⟨X.K, X.mg, c.T⟩) (hx : ∀ n ∈ ns, EcD X.K X.mg n) (hN : X.N[i]? = some x) (hv : Vis X.env.scope x) (hd : (x == ("__debug__" : Str)) = false := by decide) (hcd : (x == ("__classdict__" : Str)) = false := by decide) : DX X c i (.Attribute (.Name x p1) "value" p2) (mVal ns) := by
  refine ⟨fun a oe C dx pn hz hf => ?_⟩
  by_cases hC : ∃ n ∈ ns, X.mg n = some (.ref C)
  case neg =>
    refine ⟨fun _ _ _ => False, ⟨fun _ _ _ _ _ _ h => h.elim⟩, fun n d x σ H Δ Q hs sr xr p => ?_⟩
    unfold mVal inNames at p
    by_cases hn : n ∈ ns
    · exact hC ⟨n, hn, by have h := xr.1; rw [hG] at h; exact h⟩
    · rw [if_neg (by simpa using hn)] at p
      exact p
  obtain ⟨n, hn, hm⟩ := hC
  obtain ⟨C', hm', T, hno⟩ := (hx n hn).out
  rw [hm] at hm'
  cases hm'
  refine ⟨_, pe_xf T hno hz hf (pe_var (X := X.suite a ((a, oe) :: pn)) hN hv hd hcd) (by rfl), fun n d y σ H Δ Q hs sr xr p => ?_⟩
  unfold mVal at p
  by_cases hn : inNames ns n = true
  case neg => rw [if_neg hn] at p; exact p.elim
  rw [if_pos hn] at p
  cases d with
  | none => exact p.elim
  | some d =>
    obtain ⟨q, v, rfl, hq, hh, r⟩ := xr.2
    exact ⟨.ref a, hs, rfl, rfl, q, _, v, rfl, hh, rfl, p v y H (Kp.refl _ _) sr r⟩
theorem dx_of {g : M D} (h : ∀ (a : Addr) (pn : List (Addr × Obj)), DE (X.suite a pn) c noW e g) : DX X c i e (fun _ _ => g) := by
  refine ⟨fun a oe C dx pn hz hf => ?_⟩
  obtain ⟨t, p, s⟩ := (h a ((a, oe) :: pn)).out
  exact ⟨t, p, fun n d x σ H Δ Q hs sr xr q => s x σ H Δ Q sr q⟩
theorem dxs_nil : DXs X c i [] (fun _ _ => mPure []) := ⟨fun a oe C dx pn hz hf => ⟨_, pa_nil, fun n d x σ H Δ Q hs sr xr p => p [] x H (Kp.refl _ _) sr (by unfold RepL; rfl)⟩⟩
theorem dxs_cons (h : DX X c i e f) (r : DXs X c i es fs) (hst : ∀ (a : Addr) (pn : List (Addr × Obj)), starEach (e :: es) (X.suite a pn).env = (false, eval e (X.suite a pn).env) :: starEach es (X.suite a pn).env := by intro _ _; rfl) : DXs X c i (e :: es) (fun n d => mBind (f n d) fun v => mBind (fs n d) fun vs => mPure (v :: vs)) := by
  refine ⟨fun a oe C dx pn hz hf => ?_⟩
  obtain ⟨t, p, s⟩ := h.out a oe C dx pn hz hf
  obtain ⟨u, q, w⟩ := r.out a oe C dx pn hz hf
  refine ⟨_, pa_cons p q (hst a _), fun n d x σ H Δ Q hs sr xr z => ?_⟩
  refine s n d x σ H Δ _ hs sr xr (Post.bind z fun v Δ1 z1 vv x1 H1 k1 sr1 r1 => ?_)
  refine w n d x1 σ H1 Δ1 _ hs sr1 (ExG.kp sr k1 xr) (Post.bind (z1.step k1 fun a Δ q => q) fun vs Δ2 z2 us x2 H2 k2 sr2 r2 => ?_)
  have z3 := z2 (vv :: us) x2 H2
  exact z2 (vv :: us) x2 H2 (k1.trans k2) sr2 (by unfold RepL; exact ⟨vv, us, rfl, r1.kp sr1 k2, r2⟩)
def mXl (fs : M (List D)) : M D := mBind fs fun ds => if ds.length ≤ lim then mPure (.lst ds) else mBad
theorem dx_lst (h : DXs X c i es fs) : DX X c i (.List es pos) (fun n d => mXl (fs n d)) := by
  refine ⟨fun a oe C dx pn hz hf => ?_⟩
  obtain ⟨t, p, s⟩ := h.out a oe C dx pn hz hf
  refine ⟨_, pe_lst p, fun n d x σ H Δ Q hs sr xr z => s n d x σ H Δ _ hs sr xr (Post.bind z fun ds Δ1 z1 vs x1 H1 k1 sr1 r1 => ?_)⟩
  by_cases hl : ds.length ≤ lim
  · rw [if_pos hl] at z1
    refine ⟨by rw [repL_length r1]; exact lim_ok hl, fun q hq => ?_⟩
    have ex : Ex H1 (upd H1 q (.lst vs)) := Ex.new hq
    exact z1 _ x1 _ (k1.trans (Kp.ex ex x1)) (sr1.ex ex) (by unfold Rep; exact ⟨q, vs, rfl, sr1.fr q hq, upd_same, r1.keep ex.keep⟩)
  · rw [if_neg hl] at z1
    exact z1.elim
def mX1 (g : List D → Option D) (f : M D) : M D := mBind f fun v => mOpt (g [v])
theorem dx_callB {nm : Str} {id : String} {r : List V → Hp → VK → Prop} {g : List D → Option D} (hc : ∀ (a : Addr) (pn : List (Addr × Obj)), CallR (X.suite a pn) (.builtin id) r) (hr : CaD c.toGc r g) (hg : Gl X nm) (hm : X.mg nm = none) (hv : bootBuiltins nm = some (.builtin id)) (h : DX X c i e f)
    (hn : nm ≠ "__name__" := by decide) (hdb : (nm == ("__debug__" : Str)) = false := by decide) (he : ∀ (a : Addr) (pn : List (Addr × Obj)), starEach [e] (X.suite a pn).env = [(false, eval e (X.suite a pn).env)] := by intro _ _; rfl) :
    DX X c i (.Call (.Name nm p1) [e] [] pos) (fun n d => mX1 g (f n d)) := by
  refine ⟨fun a oe C dx pn hz hf => ?_⟩
  obtain ⟨t, p, s⟩ := h.out a oe C dx pn hz hf
  refine ⟨_, pe_callB (X := X.suite a ((a, oe) :: pn)) (hc a _) hg hm hv (pa_cons p pa_nil (he a _)) hn hdb (he a _) rfl, fun n d x σ H Δ Q hs sr xr z => ?_⟩
  refine s n d x σ H Δ _ hs sr xr (Post.bind z fun v Δ1 z1 vv x1 H1 k1 sr1 r1 => ?_)
  have z2 := Post.outV sr1 (z1.step k1 fun a Δ q => okV.step k1 q)
  exact hr x1.Av H1 [v] [vv] Q sr1.fr ⟨vv, [], rfl, .inl r1, rfl⟩ z2
end

/-! ### statements of suites -/
section
variable {X : Cx} {c : Ct} {i : Nat} {e : Expr} {f : Str → Option D → M D} {pos p1 p2 : Pos}
/-- the canonical reading of a suite of one statement -/
def tSx (c : Ct) (i : Nat) (f : HMir) : Suite := fun a cls dx E σ H => ∃ x Δ n d C, cls = .ref C ∧ σ[i]? = some (some (.ref a)) ∧ SR c x σ H Δ ∧ ExR c x H n d C dx ∧ PostS c noW x H E (f n d Δ)
theorem dsu_of {suite : List Stmt} {h : HMir} (hp : ∀ (a : Addr) (oe : Obj) (C : Addr) (dx : Option Addr) (pn : List (Addr × Obj)), Zc (.ref C) dx oe → (∃ vs, oe.data = .fields vs) → ∃ t : TS, PSs (X.suite a ((a, oe) :: pn)) suite t ∧
    ∀ n d x σ H Δ E, σ[i]? = some (some (.ref a)) → SR c x σ H Δ → ExR c x H n d C dx → PostS c noW x H E (h n d Δ) → t E σ H) : DSu X c suite (some i) h := by
  refine ⟨tSx c i h, fun a oe cls dx pn hz hf => ⟨fun pins s σ H D I ⟨x, Δ, n, d, C, ec, hs, sr, xr, p⟩ => ?_⟩, fun a C dx n d x σ H Δ E hi ha sr xr p => ⟨x, Δ, n, d, C, rfl, hi i rfl, sr, xr, p⟩⟩
  subst ec
  obtain ⟨t, pt, st⟩ := hp a oe C dx pn hz hf
  exact pt.run pins s σ H D I (st n d x σ H Δ D hs sr xr p)
theorem dsu_set {j : Nat} {y : Str} (hio : ∀ p ∈ c.io, p.1 ≠ j) (hN : X.N.Nodup) (hj : X.N[j]? = some y) (hy : Loc X.env.scope y) (h : DX X c i e f) (hs : ∀ (a : Addr) (pn : List (Addr × Obj)), swapsWith e (some (.Name y p1)) pos.line (X.suite a pn).env = pure false := by intro _ _; rfl)
    (hf : X.fn y = true ∨ X.env.scope.names.lookup y = some .local := by first | exact .inl rfl | exact .inr rfl) : DSu X c [.Assign [.Name y p1] e pos] (some i) (fun n d => mSet j (f n d)) := by
  refine dsu_of fun a oe C dx pn hz hfv => ?_
  obtain ⟨t, p, s⟩ := h.out a oe C dx pn hz hfv
  refine ⟨_, pss_one (ps_set (X := X.suite a ((a, oe) :: pn)) hN hj hy p (hs a _) hf), fun n d x σ H Δ E hi sr xr q => ?_⟩
  refine s n d x σ H Δ _ hi sr xr (PostS.bind q fun v Δ1 q1 u x1 H1 k1 sr1 r1 => ?_)
  have q2 : PostS c noW x H E (if j < Δ1.length then .ok .nx (Δ1.set j (.sh v)) else .bad) := q1
  split at q2
  · rename_i hl
    obtain ⟨k2, sr2⟩ := sr1.setSh hio hl r1
    exact q2 _ _ _ (k1.trans k2) sr2
  · exact q2.elim
theorem dsu_ret (h : DX X c i e f) : DSu X c [.Return (some e) pos] (some i) (fun n d => mRet (f n d)) := by
  refine dsu_of fun a oe C dx pn hz hfv => ?_
  obtain ⟨t, p, s⟩ := h.out a oe C dx pn hz hfv
  refine ⟨_, pss_one (ps_ret p), fun n d x σ H Δ E hi sr xr q => ?_⟩
  exact s n d x σ H Δ _ hi sr xr (PostS.bind q fun v Δ1 q1 u x1 H1 k1 sr1 r1 => q1 u σ x1 H1 k1 sr1 r1)
end

/-! ### the clauses, the statement -/
/-- which classes are under which -/
def TxOk (G : Gc) (tx : Str → Str → Option Bool) : Prop := ∀ n m b, tx n m = some b → ∃ C C', G.mg n = some (.ref C) ∧ G.mg m = some (.ref C') ∧ PySem.W.exmOne G.K (.ref C) (.ref C') = some b
inductive DHs (X : Cx) (c : Ct) : List ExceptHandler → List (Str × Option Nat × HMir) → Prop
  | nil : DHs X c [] []
  | bare {x : Str} {b₀ : Stmt} {suite : List Stmt} {np pos' : Pos} {hds : List ExceptHandler} {l : List (Str × Option Nat × HMir)} {h : HMir} (hg : Gl X x) (hm : ∃ C, X.mg x = some (.ref C)) (hdb : (x == ("__debug__" : Str)) = false) (hsu : DSu X c (b₀ :: suite) none h) (r : DHs X c hds l) :
      DHs X c (.ExceptHandler (some (.Name x np)) none (b₀ :: suite) pos' :: hds) ((x, none, h) :: l)
  | as {x n : Str} {i : Nat} {b₀ : Stmt} {suite : List Stmt} {np pos' : Pos} {hds : List ExceptHandler} {l : List (Str × Option Nat × HMir)} {h : HMir} (hg : Gl X x) (hm : ∃ C, X.mg x = some (.ref C)) (hdb : (x == ("__debug__" : Str)) = false) (hi : X.N[i]? = some n) (hln : X.env.kindOf n = some .local) (hio : ∀ p ∈ c.io, p.1 ≠ i)
      (hsu : DSu X c (b₀ :: suite) (some i) h) (r : DHs X c hds l) : DHs X c (.ExceptHandler (some (.Name x np)) (some n) (b₀ :: suite) pos' :: hds) ((x, some i, h) :: l)
section
variable {X : Cx} {c : Ct} {W : WX} {k : Nat} {body : List Stmt} {h₀ : ExceptHandler} {hds : List ExceptHandler} {mh : List (Str × Option Nat × HMir)} {pos : Pos} {fb : M Fl} {tx : Str → Str → Option Bool}
def tB0 (c : Ct) (fb : M Fl) (W : WX) : TS := fun E σ H => ∃ x Δ, SR c x σ H Δ ∧ PostS c W x H E (fb Δ)
theorem hds_ok (o : Ok X c W k) (ht : TxOk c.toGc tx) : ∀ {hds : List ExceptHandler} {mh : List (Str × Option Nat × HMir)}, DHs X c hds mh → ∃ l, HdsG X hds l ∧
    ∀ (D : Ends) n d C dx x σ H Δ, SR c x σ H Δ → ExR c x H n d C dx → PostS c W x H D (mCatch tx mh n d Δ) → wG X.K W D l (.ref C) dx σ H := by
  intro hds mh h
  induction h with
  | nil => exact ⟨[], .nil, fun D n d C dx x σ H Δ sr xr p => p C dx σ x H (Kp.refl _ _) sr xr⟩
  | @bare x b₀ suite np pos' hds l h hg hm hdb hsu r ih =>
    obtain ⟨l', h1, h2⟩ := ih
    obtain ⟨Cx, hm⟩ := hm
    obtain ⟨ts, hts, st⟩ := hsu.out
    refine ⟨(.ref Cx, none, ts) :: l', .bare ⟨hg, hdb, .inl hm⟩ hts h1, fun D n d C dx y σ H Δ sr xr p => ?_⟩
    change PostS c W y H D ((match tx n x with
      | some true => mSuite none (h n d)
      | some false => mCatch tx l n d
      | none => mBad) Δ) at p
    cases e : tx n x with
    | none => rw [e] at p; exact p.elim
    | some b =>
      rw [e] at p
      obtain ⟨C1, C2, g1, g2, ex⟩ := ht n x b e
      rw [xr.1] at g1
      cases g1
      rw [o.hmg, hm] at g2
      cases g2
      refine ⟨b, by rw [← o.hK]; exact ex, fun hb a ha => ?_, fun hb => ?_⟩
      · subst hb
        refine st a C dx n d y σ H Δ D (fun _ z => (by cases z)) ha sr xr ?_
        dsimp only at p
        unfold mSuite at p
        rw [if_pos (show okAt none Δ = true from rfl)] at p
        unfold unAt at p
        dsimp only at p
        cases eh : h n d Δ with
        | ok fl Δ' => rw [eh] at p; cases fl <;> exact p
        | ex n' d' Δ' => rw [eh] at p; exact p.elim
        | bad => rw [eh] at p; exact p.elim
      · subst hb
        exact h2 D n d C dx y σ H Δ sr xr p
  | @as x n0 i b₀ suite np pos' hds l h hg hm hdb hi hln hio hsu r ih =>
    obtain ⟨l', h1, h2⟩ := ih
    obtain ⟨Cx, hm⟩ := hm
    obtain ⟨ts, hts, st⟩ := hsu.out
    refine ⟨(.ref Cx, some i, ts) :: l', .as ⟨hg, hdb, .inl hm⟩ o.nd hi hln hts h1, fun D n d C dx y σ H Δ sr xr p => ?_⟩
    change PostS c W y H D ((match tx n x with
      | some true => mSuite (some i) (h n d)
      | some false => mCatch tx l n d
      | none => mBad) Δ) at p
    cases e : tx n x with
    | none => rw [e] at p; exact p.elim
    | some b =>
      rw [e] at p
      obtain ⟨C1, C2, g1, g2, ex⟩ := ht n x b e
      rw [xr.1] at g1
      cases g1
      rw [o.hmg, hm] at g2
      cases g2
      refine ⟨b, by rw [← o.hK]; exact ex, fun hb a ha => ?_, fun hb => ?_⟩
      · subst hb
        obtain ⟨k1, sr1⟩ := sr.setUn hio (some (.ref a))
        dsimp only at p
        unfold mSuite at p
        by_cases hok : okAt (some i) Δ = true
        case neg => rw [if_neg hok] at p; exact p.elim
        rw [if_pos hok] at p
        have hil : i < σ.length := by
          rw [sr.len]
          exact of_decide_eq_true hok
        refine st a C dx n d _ _ H _ _ (fun j z => by cases z; exact List.getElem?_set_self hil) ha sr1 (ExG.kp sr k1 xr) ?_
        unfold unAt at p
        dsimp only at p
        cases eh : h n d (Δ.set i .un) with
        | ok fl Δ' =>
          rw [eh] at p
          cases fl with
          | nx =>
            intro σ' x' H' k' s'
            obtain ⟨k2, sr2⟩ := s'.setUn hio none
            exact p _ _ _ ((k1.trans k').trans k2) sr2
          | bk =>
            intro σ' x' H' k' s'
            obtain ⟨k2, sr2⟩ := s'.setUn hio none
            exact p _ _ _ ((k1.trans k').trans k2) sr2
          | ct =>
            intro σ' x' H' k' s'
            obtain ⟨k2, sr2⟩ := s'.setUn hio none
            exact p _ _ _ ((k1.trans k').trans k2) sr2
          | rt v => exact fun v σ' x' H' k' s' => p v σ' x' H' (k1.trans k') s'
          | rf v => exact fun v σ' x' H' k' s' => p v σ' x' H' (k1.trans k') s'
        | ex n' d' Δ' => rw [eh] at p; exact p.elim
        | bad => rw [eh] at p; exact p.elim
      · subst hb
        exact h2 D n d C dx y σ H Δ sr xr p
theorem ds_try (o : Ok X c W k) (ht : TxOk c.toGc tx) (hs : X.stack = X.env :: X.outer) (hf : X.env.frame = some X.env.locals)
    (hb : ∀ (W' : WX) (pn : List (Addr × Obj)) (xe : Value → Shared → Prop), Takes (X.tr pn xe) W' → PassesOwn (model X.prog X.w) X.A X.env xe → DB (X.tr pn xe) c W' body fb) (hh : DHs X c (h₀ :: hds) mh) : DS X c W (.Try body (h₀ :: hds) [] [] pos) (mTry fb (mCatch tx mh)) := by
  obtain ⟨l, hl, hw⟩ := hds_ok o ht hh
  refine ⟨_, ps_tryG (tb := tB0 c fb) hs hf o.tk (fun W' pn xe tk po => ?_) hl, fun x σ H Δ E sr q => ⟨x, Δ, sr, ?_⟩⟩
  · obtain ⟨t, p, s⟩ := (hb W' pn xe tk po).out
    exact ⟨fun pins st σ H D I ⟨x, Δ, sr, q⟩ => p.run pins st σ H D I (s x σ H Δ D sr q)⟩
  · unfold mTry at q
    cases e : fb Δ with
    | ok fl Δ' => rw [e] at q; exact q
    | ex n d Δ' =>
      rw [e] at q
      exact fun C dx σ' x' H' k' s' xr => hw E n d C dx x' σ' H' Δ' s' xr (PostS.step q k')
    | bad => rw [e] at q; exact q
end
end DL

namespace DL
open PySem L2 PySem.Spec PyProof.Rows

/-- the def at a place of a class's body -/
def clsAt (s : Stmt) (i : Nat) : Stmt := match s with
  | .ClassDef (body := b) .. => b.getD i (.Pass ⟨0, 0, 0, 0⟩)
  | _ => .Pass ⟨0, 0, 0, 0⟩
structure MtAt (K : PySem.W.Frag) (mg : Str → Option Value) (n m qual : Str) (st : Stmt) (ps : List Str) : Prop where
  out : ∃ (C f : Addr) (fd : FuncData), mg n = some (.ref C) ∧ Cls K C ∧ Meth K C m f ∧ Fun K m qual st f fd ∧ Binds K fd ps []
structure PrAt (K : PySem.W.Frag) (mg : Str → Option Value) (n m qual : Str) (st : Stmt) (ps : List Str) : Prop where
  out : ∃ (C p f : Addr) (fd : FuncData), mg n = some (.ref C) ∧ Cls K C ∧ PropOf K C m p f ∧ (PySem.W.clsIn K C).isSome = true ∧ Fun K m qual st f fd ∧ Binds K fd ps []
structure CmAt (K : PySem.W.Frag) (mg : Str → Option Value) (n m qual : Str) (st : Stmt) (ps : List Str) : Prop where
  out : ∃ (C p f : Addr) (mc : Value) (fd : FuncData), mg n = some (.ref C) ∧ ClX.CRead K C mc ∧ ClX.CMet K C mc m p f ∧ Fun K m qual st f fd ∧ Binds K fd ps []
structure SmAt (K : PySem.W.Frag) (mg : Str → Option Value) (n m qual : Str) (st : Stmt) (ps : List Str) : Prop where
  out : ∃ (C p f : Addr) (mc : Value) (fd : FuncData), mg n = some (.ref C) ∧ ClX.CRead K C mc ∧ SMet K C mc m p f ∧ Fun K m qual st f fd ∧ Binds K fd ps []
structure InAt (K : PySem.W.Frag) (mg : Str → Option Value) (n qual : Str) (st : Stmt) (ps : List Str) : Prop where
  out : ∃ (C f : Addr) (fd : FuncData), mg n = some (.ref C) ∧ ObjK K C ∧ Mk K C f ∧ Fun K "__init__" qual st f fd ∧ Binds K fd ps []
section
variable {P : Program} {w : World} {K : PySem.W.Frag} {mg : Str → Option Value} {base : Heap} {T : List (Addr × Str)} {n m qual : Str} {st : Stmt} {N ps : List Str} {io : List Nat} {k : Nat} {fb : M Fl}
/-- what each derivation of a def's body shows -/
abbrev BodyD (P : Program) (w : World) (K : PySem.W.Frag) (mg : Str → Option Value) (base : Heap) (T : List (Addr × Str)) (qual : Str) (st : Stmt) (N : List Str) (io : List Nat) (k : Nat) (fb : M Fl) : Prop :=
  ∀ (f : Addr) (cd : Value) (A : Around) (outer : List Env) (s : Shared) (H : Hp) (E : XK) (H0 : Hp) (A0 : Addr → Prop) (ios : List (Nat × Addr)) (W : WX), Ok (cxD P w K mg base N qual (defScope st) f cd A outer s H E) ⟨⟨K, mg, T⟩, H0, A0, ios⟩ W k → ios.map (·.1) = io →
      DB (cxD P w K mg base N qual (defScope st) f cd A outer s H E) ⟨⟨K, mg, T⟩, H0, A0, ios⟩ W (defBody st) fb
theorem dfn_body {nm : Str} {f : Addr} {fd : FuncData} (F : Fun K nm qual st f fd) (S : FnScope N ps (defScope st)) (hb : BodyD P w K mg base T qual st N io k fb) : DFn P w K mg base T (k + 1) f fd ps io (mDef N.length io fb) := by
  refine dfn_of F S fun cd A outer s H E c W o hT hio _ => ?_
  obtain ⟨⟨K', mg', T'⟩, H0, A0, ios⟩ := c
  have e1 : K' = K := o.hK
  have e2 : mg' = mg := o.hmg
  have e3 : T' = T := hT
  subst e1 e2 e3
  exact hb f cd A outer s H E H0 A0 ios W o hio
theorem mtd_mk (F : MtAt K mg n m qual st ps) (S : FnScope N ps (defScope st)) (hb : BodyD P w K mg base T qual st N io k fb) : MtD P w K mg base T n m (k + 1) ps io (mDef N.length io fb) := by
  obtain ⟨C, f, fd, hm, cl, mt, F, b⟩ := F.out
  exact ⟨C, f, fd, hm, cl, mt, b, dfn_body F S hb⟩
theorem prd_mk (F : PrAt K mg n m qual st ps) (S : FnScope N ps (defScope st)) (hb : BodyD P w K mg base T qual st N io k fb) : PrD P w K mg base T n m (k + 1) ps io (mDef N.length io fb) := by
  obtain ⟨C, p, f, fd, hm, cl, mt, hc, F, b⟩ := F.out
  exact ⟨C, p, f, fd, hm, cl, mt, hc, b, dfn_body F S hb⟩
theorem cmd_mk (F : CmAt K mg n m qual st ps) (S : FnScope N ps (defScope st)) (hb : BodyD P w K mg base T qual st N io k fb) : CmD P w K mg base T n m (k + 1) ps io (mDef N.length io fb) := by
  obtain ⟨C, p, f, mc, fd, hm, r, cm, F, b⟩ := F.out
  exact ⟨C, p, f, mc, fd, hm, r, cm, b, dfn_body F S hb⟩
theorem smd_mk (F : SmAt K mg n m qual st ps) (S : FnScope N ps (defScope st)) (hb : BodyD P w K mg base T qual st N io k fb) : SmD P w K mg base T n m (k + 1) ps io (mDef N.length io fb) := by
  obtain ⟨C, p, f, mc, fd, hm, r, cm, F, b⟩ := F.out
  exact ⟨C, p, f, mc, fd, hm, r, cm, b, dfn_body F S hb⟩
theorem ind_mk (F : InAt K mg n qual st ps) (S : FnScope N ps (defScope st)) (hb : BodyD P w K mg base T qual st N [0] k fb) : InD P w K mg base T n (k + 1) ps (mDef N.length [0] fb) := by
  obtain ⟨C, f, fd, hm, ok, mk, F, b⟩ := F.out
  exact ⟨C, f, fd, hm, ok, mk, b, dfn_body F S hb⟩
end

/-! ### from what the top has written -/
/-- the text's facts of an own class with a dict -/
structure ClK (K : PySem.W.Frag) (C : Addr) : Prop where
  pg : PySem.W.plainGet K C Str.empty = true
  hd : PySem.W.hasDictIn K C = true
  po : PySem.W.plainOver K C = true
  sa : PySem.W.findIn K (.ref C) "__setattr__" = some (some (.builtin "object.__setattr__"))
  ha : PySem.W.findIn K (.ref C) "__class__" = some (some (.builtin "object.__class__"))
  hn : PySem.W.specialIn K (.builtin "object.__class__") "__get__" = some (some (.builtin "getset_descriptor.__get__"))
  ht : PySem.W.takesIn K (.builtin "object.__class__") = some true
  hm : PySem.W.mroIn K C (.type "object") = some true
  k1 : PySem.W.subIn K (.ref C) (.type "NoneType") = some false
  k2 : PySem.W.subIn K (.ref C) (.type "bool") = some false
  k3 : PySem.W.subIn K (.ref C) (.type "int") = some false
  k4 : PySem.W.subIn K (.ref C) (.type "str") = some false
  k5 : PySem.W.subIn K (.ref C) (.type "list") = some false
  k6 : PySem.W.subIn K (.ref C) (.type "tuple") = some false
  k7 : PySem.W.subIn K (.ref C) (.type "dict") = some false
  ic : PySem.W.isClsIn K C = true
  ty : PySem.W.typeIn K (.ref C) = some (.type "type")
theorem ClK.cls {K : PySem.W.Frag} {C : Addr} (c : ClK K C) : Cls K C := ⟨c.pg, c.hd, c.po, c.sa⟩
theorem kit_ref {K : PySem.W.Frag} {C : Addr} {T : String} (hT : PySem.W.kitMeta T = true) (h : PySem.W.subIn K (.ref C) (.type T) = some false) : PySem.W.kitOne K (.ref C) (.type T) = some false := by
  have e : ((Value.ref C : Value) == .type T) = false := rfl
  unfold PySem.W.kitOne
  rw [e, if_neg Bool.false_ne_true]
  show (if PySem.W.kitMeta T = true then PySem.W.subIn K (.ref C) (.type T) else none) = some false
  rw [if_pos hT]
  exact h
theorem ClK.obj {K : PySem.W.Frag} {C : Addr} (c : ClK K C) : ObjK K C := ⟨c.cls, c.ha, c.hn, c.ht, c.hm, fun T hT => by
  simp only [tyNames, List.mem_cons, List.mem_nil_iff, or_false] at hT
  rcases hT with rfl | rfl | rfl | rfl | rfl | rfl | rfl
  · exact kit_ref (by decide +kernel) c.k1
  · exact kit_ref (by decide +kernel) c.k2
  · exact kit_ref (by decide +kernel) c.k3
  · exact kit_ref (by decide +kernel) c.k4
  · exact kit_ref (by decide +kernel) c.k5
  · exact kit_ref (by decide +kernel) c.k6
  · exact kit_ref (by decide +kernel) c.k7⟩
theorem kit_cl {K : PySem.W.Frag} {C : Addr} {t : Value} {b : Bool} (hi : PySem.W.isClsIn K C = true) (ht : PySem.W.typeIn K (.ref C) = some (.type "type")) (hne : (t == .ref C) = false) (h : PySem.W.subIn K t (.ref C) = some b) : PySem.W.kitOne K t (.ref C) = some b := by
  unfold PySem.W.kitOne
  rw [hne, if_neg Bool.false_ne_true]
  have e2 : ((PySem.W.clsIn K C).isSome && PySem.W.typeIn K (.ref C) == some (.type "type")) = true := by
    have h2 : (PySem.W.clsIn K C).isSome = true := hi
    rw [h2, ht] <;> rfl
  show (if ((PySem.W.clsIn K C).isSome && PySem.W.typeIn K (.ref C) == some (.type "type")) = true then PySem.W.subIn K t (.ref C) else none) = some b
  rw [if_pos e2]
  exact h
theorem kit_self {K : PySem.W.Frag} {C : Addr} : PySem.W.kitOne K (.ref C) (.ref C) = some true := by
  unfold PySem.W.kitOne
  rw [if_pos (by simp)]
theorem ClK.blt {K : PySem.W.Frag} {C : Addr} (c : ClK K C) : ∀ k ∈ tyNames, PySem.W.kitOne K (.type k) (.ref C) = some false := fun k hk => by
  refine kit_cl c.ic c.ty rfl ?_
  simp only [tyNames, List.mem_cons, List.mem_nil_iff, or_false] at hk
  have key : ∀ {l : List Value}, PySem.W.subIn K (.type k) (.ref C) = some (l.contains (.ref C)) → (∀ v ∈ l, ∃ n, v = .type n) → PySem.W.subIn K (.type k) (.ref C) = some false := fun {l} e h => by
    rw [e]
    congr 1
    cases q : l.contains (.ref C) with
    | false => rfl
    | true =>
      obtain ⟨n, hn⟩ := h _ (by simpa using q)
      cases hn
  rcases hk with rfl | rfl | rfl | rfl | rfl | rfl | rfl <;> exact key (l := _) (by unfold PySem.W.subIn; rfl) fun v hv => by
    obtain ⟨n, _, rfl⟩ := List.mem_map.mp hv
    exact ⟨n, rfl⟩
abbrev tl_ValueError : List Value := PySem.HandSPX.veTail
abbrev tl_RuntimeError : List Value := [.type "RuntimeError", .type "Exception", .type "BaseException", .type "object"]
abbrev tl_OverflowError : List Value := [.type "OverflowError", .type "ArithmeticError", .type "Exception", .type "BaseException", .type "object"]
abbrev tl_IndexError : List Value := [.type "IndexError", .type "LookupError", .type "Exception", .type "BaseException", .type "object"]
/-- the isinstance table of the program's classes -/
def tbG (n m : Str) : Option Bool := if n = m then (if n = "Effect" ∨ n = "Yard" ∨ n = "Session" then some true else none) else if n = "KeptSession" ∧ m = "Session" then some true else none
/-- a class of the program is there as it is said, or not there -/
def ThereK (K : PySem.W.Frag) (mg : Str → Option Value) (n : Str) : Prop := (∃ C, mg n = some (.ref C) ∧ ClK K C) ∨ mg n = none
theorem tb_ok {G : Gc} (h1 : ThereK G.K G.mg "Effect") (h2 : ThereK G.K G.mg "Yard") (h3 : ThereK G.K G.mg "Session") (h4 : ∀ C E, G.mg "KeptSession" = some (.ref C) → G.mg "Session" = some (.ref E) → PySem.W.kitOne G.K (.ref C) (.ref E) = some true) : TbOk G tbG := by
  have th : ∀ {m : Str} {E : Addr}, (m = "Effect" ∨ m = "Yard" ∨ m = "Session") → G.mg m = some (.ref E) → ClK G.K E := fun {m E} hm e => by
    have key : ∀ {m : Str}, ThereK G.K G.mg m → G.mg m = some (.ref E) → ClK G.K E := fun {m} t e => by
      rcases t with ⟨C, hC, c⟩ | t
      · rw [e] at hC; cases hC; exact c
      · rw [e] at t; cases t
    rcases hm with rfl | rfl | rfl
    · exact key h1 e
    · exact key h2 e
    · exact key h3 e
  refine ⟨fun n m b C E hb hC hE => ?_, fun m E hb hE => ?_⟩
  · unfold tbG at hb
    split at hb
    · rename_i e
      subst e
      rw [hC] at hE
      cases hE
      split at hb
      · cases hb; exact kit_self
      · cases hb
    · split at hb
      · rename_i e
        obtain ⟨rfl, rfl⟩ := e
        cases hb
        exact h4 C E hC hE
      · cases hb
  · unfold tbG at hb
    rw [if_pos rfl] at hb
    split at hb
    · rename_i e
      exact (th e hE).blt
    · cases hb
end DL

namespace DL
open PySem L2
theorem rNil : D.lst [] = rowD [] := rfl
theorem rOne {n : Int} : D.lst [.int n] = rowD [n] := rfl
@[simp] theorem dAdd_row {a b : List Int} : dAdd (rowD a) (rowD b) = if a.length + b.length ≤ lim then some (rowD (a ++ b)) else none := by
  simp [rowD]
@[simp] theorem dCat_row {a b : List Int} : dCat (rowD a) (rowD b) = if a.length + b.length ≤ lim then some (rowD (a ++ b)) else none := by
  simp [rowD]
@[simp] theorem dIx_row {a : List Int} {i : Int} : dIx (rowD a) (.int i) = (atI a i).map D.int := by
  simp [rowD, atI_map]
@[simp] theorem dLen_row {a : List Int} : dLen [rowD a] = some (.int a.length) := by simp [rowD]
@[simp] theorem dListN_row {a : List Int} : dListN [rowD a] = some (rowD a) := (rfl)
@[simp] theorem dRev_row {a : List Int} : dRev (rowD a) = some (rowD a.reverse) := by simp [rowD]
@[simp] theorem dItems_row {a : List Int} : dItems (rowD a) = some (a.map D.int) := (rfl)
theorem cutG_map {α β : Type} (f : α → β) (xs : List α) (lo hi : Option Int) : cutG (xs.map f) lo hi = (cutG xs lo hi).map f := by
  simp [cutG, List.map_take, List.map_drop]
@[simp] theorem dCut_row {a : List Int} {lo hi : Option Int} : dCut (rowD a) lo hi = some (rowD (cutG a lo hi)) := by
  simp [rowD, cutG_map]
@[simp] theorem dCutN_row {a : List Int} {lo hi : Option Int} : dCutN (rowD a) lo hi = some (rowD (cutG a lo hi)) := by
  simp [rowD, cutG_map]
theorem rep_flat_len {α : Type} (a : List α) (k : Nat) : (List.replicate k a).flatten.length = k * a.length := by
  simp [List.length_flatten]
@[simp] theorem dMul_row {a : List Int} {k : Int} : dMul (rowD a) (.int k) = if a.length * k.toNat ≤ lim ∧ -1000000 ≤ k ∧ k ≤ 1000000 then some (rowD (List.replicate k.toNat a).flatten) else none := by
  simp [rowD, List.map_flatten]
@[simp] theorem dRep_row {a : List Int} {k : Int} : dRep (rowD a) (.int k) = if a.length * k.toNat ≤ lim ∧ -1000000 ≤ k ∧ k ≤ 1000000 then some (rowD (List.replicate k.toNat a).flatten) else none := by
  simp [rowD, List.map_flatten]
@[simp] theorem eqD_row' {a b : List Int} : eqD (rowD a) (rowD b) = some (decide (a = b)) := eqD_row
@[simp] theorem eqD_rowNil {a : List Int} : eqD (rowD a) (.lst []) = some (decide (a = [])) := eqD_row (b := [])
@[simp] theorem isNon_row {a : List Int} : isNon (rowD a) = false := (rfl)
@[simp] theorem isi_row_list {tb : Str → Str → Option Bool} {a : List Int} : isiOne tb (rowD a) (.ty "list") = some true := isi_lst_list
@[simp] theorem isi_row_tuple {tb : Str → Str → Option Bool} {a : List Int} : isiOne tb (rowD a) (.ty "tuple") = some false := isi_lst_tuple
@[simp] theorem cutG_tl {α : Type} {x : α} {xs : List α} : cutG (x :: xs) (some 1) none = xs := by
  simp only [cutG, HT.sIx, List.length_cons]
  have e : min (Int.toNat 1) (xs.length + 1) = 1 := by omega
  rw [if_neg (by omega), e]
  simp
@[simp] theorem cutG_to {α : Type} {xs : List α} {n : Nat} : cutG xs none (some (n : Int)) = xs.take n := by
  simp only [cutG, HT.sIx]
  rw [if_neg (by omega)]
  simp
@[simp] theorem cutG_from {α : Type} {xs : List α} {n : Nat} : cutG xs (some (n : Int)) none = xs.drop n := by
  simp only [cutG, HT.sIx]
  rw [if_neg (by omega)]
  simp
  rcases Nat.le_total n xs.length with h | h
  · rw [Nat.min_eq_left h, List.take_of_length_le (by simp)]
  · rw [Nat.min_eq_right h, List.drop_eq_nil_of_le h]; simp
theorem isi_lt {tb : Str → Str → Option Bool} {d : D} {k : String} (h : kindOf d = some k) : dIsi tb [d, .tup [.ty "list", .ty "tuple"]] = some (.bl (isiT k "list" || isiT k "tuple")) := by
  have e : dIsi tb [d, .tup [.ty "list", .ty "tuple"]] = (isiAny d ["list", "tuple"]).map D.bl := by cases d <;> rfl
  rw [e]
  unfold isiAny
  have e2 : (["list", "tuple"] : List String).all (fun T => decide (T ∈ tyNames)) = true := by decide +kernel
  rw [if_pos e2, h]
  simp
@[simp] theorem isi_lt_lst {tb : Str → Str → Option Bool} {xs : List D} : dIsi tb [.lst xs, .tup [.ty "list", .ty "tuple"]] = some (.bl true) := isi_lt (k := "list") rfl
@[simp] theorem isi_lt_tup {tb : Str → Str → Option Bool} {xs : List D} : dIsi tb [.tup xs, .tup [.ty "list", .ty "tuple"]] = some (.bl true) := isi_lt (k := "tuple") rfl
/-- a step -/
structure Stp where
  put : Bool
  left : Bool
  n : Int
deriving DecidableEq
def wD (b : Bool) : Str := if b then "put" else "take"
def eD (b : Bool) : Str := if b then "left" else "right"
@[simp] theorem wD_t : wD true = "put" := (rfl)
@[simp] theorem wD_f : wD false = "take" := (rfl)
@[simp] theorem eD_t : eD true = "left" := (rfl)
@[simp] theorem eD_f : eD false = "right" := (rfl)
@[simp] theorem eD_inj {a b : Bool} : (eD a = eD b) = (a = b) := by cases a <;> cases b <;> simp
@[simp] theorem wD_inj {a b : Bool} : (wD a = wD b) = (a = b) := by cases a <;> cases b <;> simp
@[simp] theorem wD_put {a : Bool} : (wD a = "put") = (a = true) := by cases a <;> simp
@[simp] theorem eD_left {a : Bool} : (eD a = "left") = (a = true) := by cases a <;> simp
def stD (s : Stp) : D := .tup [.str (wD s.put), .str (eD s.left), .int s.n]
/-- steps -/
def stpsD (ss : List Stp) : D := .lst (ss.map stD)
@[simp] theorem dItems_steps {a : List Stp} : dItems (stpsD a) = some (a.map stD) := (rfl)
@[simp] theorem dLen_steps {a : List Stp} : dLen [stpsD a] = some (.int a.length) := by simp [stpsD]
@[simp] theorem isi_steps_list {tb : Str → Str → Option Bool} {a : List Stp} : isiOne tb (stpsD a) (.ty "list") = some true := isi_lst_list
@[simp] theorem dRep_steps {a : List Stp} {k : Int} : dRep (stpsD a) (.int k) = if a.length * k.toNat ≤ lim ∧ -1000000 ≤ k ∧ k ≤ 1000000 then some (stpsD (List.replicate k.toNat a).flatten) else none := by
  simp [stpsD, List.map_flatten]
@[simp] theorem dMul_steps {a : List Stp} {k : Int} : dMul (stpsD a) (.int k) = if a.length * k.toNat ≤ lim ∧ -1000000 ≤ k ∧ k ≤ 1000000 then some (stpsD (List.replicate k.toNat a).flatten) else none := by
  simp [stpsD, List.map_flatten]
@[simp] theorem dAdd_steps {a b : List Stp} : dAdd (stpsD a) (stpsD b) = if a.length + b.length ≤ lim then some (stpsD (a ++ b)) else none := by
  simp [stpsD]
@[simp] theorem dCat_steps {a b : List Stp} : dCat (stpsD a) (stpsD b) = if a.length + b.length ≤ lim then some (stpsD (a ++ b)) else none := by
  simp [stpsD]
@[simp] theorem dRev_steps {a : List Stp} : dRev (stpsD a) = some (stpsD a.reverse) := by simp [stpsD]
@[simp] theorem isi_lt_steps {tb : Str → Str → Option Bool} {xs : List Stp} : dIsi tb [stpsD xs, .tup [.ty "list", .ty "tuple"]] = some (.bl true) := isi_lt_lst
/-- an answer -/
def Is (v : D) (d : D) (_ : Bool) (es : List D) : Prop := d = v ∧ es = []
/-- a two-part answer or None -/
def sideD : Option (List Int × List Int) → D
  | none => .non
  | some (a, b) => .tup [rowD a, rowD b]
def longD : Option (List Int × List Int × List Int × List Int) → D
  | none => .non
  | some (p, x, s, y) => .tup [rowD p, rowD x, rowD s, rowD y]
/-- a step at one end, on what is needed and what is given, the outermost first -/
def oStep (b : Bool) (o : List Int × List Int) (s : Stp) : Option (List Int × List Int) :=
  if s.left = b then (if s.put then some (o.1, s.n :: o.2) else match o.2 with
    | [] => some (o.1 ++ [s.n], [])
    | g :: gs => if g = s.n then some (o.1, gs) else none) else some o
def oRun (b : Bool) : List Stp → List Int × List Int → Option (List Int × List Int)
  | [], o => some o
  | s :: ss, o => (oStep b o s).bind (oRun b ss)
def ordS (b : Bool) (ss : List Stp) : Option (List Int × List Int) := (oRun b ss ([], [])).map fun o => if b then o else (o.1.reverse, o.2.reverse)
def longP (ss : List Stp) : Option (List Int × List Int × List Int × List Int) := match ordS true ss, ordS false ss with
  | some (p, x), some (s, y) => some (p, x, s, y)
  | _, _ => none
theorem oStep_len {b : Bool} {o o' : List Int × List Int} {s : Stp} (h : oStep b o s = some o') : o'.1.length ≤ o.1.length + 1 ∧ o'.2.length ≤ o.2.length + 1 := by
  unfold oStep at h
  split at h
  · split at h
    · cases h; simp
    · split at h
      · cases h; simp [*]
      · split at h
        · cases h; simp [*]; omega
        · cases h
  · cases h; omega
/-- a comprehension over typed things -/
theorem wp_turns_mapA {α : Type} {Δ : SD} {E : EX} {vs : List Nat} {t : D → M Unit} {ft : M Bool} {fe : M D} {xs : List α} {cv : α → D} {P : List D → SD → Prop} (F : α → D)
    (step : ∀ a ∈ xs, wp (t (cv a)) (wipeD Δ vs) (K := ⟨(fun _ Δ1 => wp ft Δ1 (K := ⟨(fun b Δ2 => b = true ∧ wp fe Δ2 (K := ⟨(fun e Δ3 => e = F a ∧ wipeD Δ3 vs = wipeD Δ vs), E⟩)), E⟩)), noE⟩))
    (fin : P (xs.map F) (wipeD Δ vs)) : wp (mTurns vs t ft fe (xs.map cv)) Δ (K := ⟨P, E⟩) := by
  refine wp_turns_inv (fun i acc Δ' => i ≤ xs.length ∧ acc = (xs.take i).map F ∧ Δ' = wipeD Δ vs) ⟨Nat.zero_le _, rfl, rfl⟩ (fun i d acc Δ' hd q => ?_) (fun acc Δ' q => ?_)
  · obtain ⟨hi, rfl, rfl⟩ := q
    rw [List.getElem?_map] at hd
    obtain ⟨a, ha, rfl⟩ := Option.map_eq_some_iff.mp hd
    have hlt := (List.getElem?_eq_some_iff.mp ha).1
    have hm : a ∈ xs := List.mem_of_getElem? ha
    have et : xs.take (i + 1) = xs.take i ++ [a] := by
      rw [List.take_add_one, ha]; rfl
    refine wp_mono (step a hm) (fun _ Δ1 q => wp_mono q (fun b Δ2 q2 => ?_) fun _ _ _ z => z) fun _ _ _ z => z
    rw [if_pos q2.1]
    refine wp_mono q2.2 (fun e Δ3 q3 => ⟨hlt, ?_, q3.2⟩) fun _ _ _ z => z
    rw [et, List.map_append, q3.1]
    rfl
  · obtain ⟨_, rfl, rfl⟩ := q
    rw [List.length_map, List.take_length]
    exact fin
theorem rStps {ss : List Stp} : D.lst (ss.map stD) = stpsD ss := rfl
theorem bls_mapA {α : Type} {f : α → Bool} : ∀ {xs : List α}, dBls (xs.map fun a => D.bl (f a)) = some (xs.map f)
  | [] => rfl
  | x :: xs => by
    have e : dBls ((x :: xs).map fun a => D.bl (f a)) = (dBls (xs.map fun a => D.bl (f a))).map (f x :: ·) := rfl
    rw [e, bls_mapA]; rfl
@[simp] theorem bls_rep {b : Bool} {n : Nat} : dBls (List.replicate n (D.bl b)) = some (List.replicate n b) := by
  have e := bls_mapA (f := fun _ : Unit => b) (xs := List.replicate n ())
  simpa using e
/-- an answer whose object is new -/
def IsF (v : D) (d : D) (fr : Bool) (es : List D) : Prop := d = v ∧ fr = true ∧ es = []
@[simp] theorem isLst_steps {ss : List Stp} : isLst (stpsD ss) = true := (rfl)
@[simp] theorem isLst_row {ss : List Int} : isLst (rowD ss) = true := (rfl)
@[simp] theorem gApp_steps {ss : List Stp} {s : Stp} : gApp (stD s) (stpsD ss) = if ss.length < lim then some ((), stpsD (ss ++ [s])) else none := by simp [stpsD]
@[simp] theorem gApp_row {ss : List Int} {n : Int} : gApp (.int n) (rowD ss) = if ss.length < lim then some ((), rowD (ss ++ [n])) else none := by simp [rowD]
theorem stD_fold {w e : Bool} {n : Int} : D.tup [.str (wD w), .str (eD e), .int n] = stD ⟨w, e, n⟩ := rfl
theorem sNil : D.lst [] = stpsD [] := rfl
@[simp] theorem dSum_lst {ds : List D} : dSum [.lst ds] = (dInts ds).map fun ns => D.int ns.sum := (rfl)
@[simp] theorem dInts_nil : dInts [] = some [] := (rfl)
@[simp] theorem dInts_cons {i : Int} {ds : List D} : dInts (.int i :: ds) = (dInts ds).map (i :: ·) := (rfl)
@[simp] theorem dInts_map {ns : List Int} : dInts (ns.map D.int) = some ns := by
  induction ns with
  | nil => rfl
  | cons n ns ih => rw [List.map_cons, dInts_cons, ih]; rfl
/-- a row after a step -/
def stepped (r : List Int) (s : Stp) : Option (List Int) :=
  if s.put then some (if s.left then s.n :: r else r ++ [s.n])
  else if s.left then (match r with
    | [] => none
    | x :: xs => if x = s.n then some xs else none)
  else (match r.getLast? with
    | none => none
    | some x => if x = s.n then some r.dropLast else none)
def runS (r : List Int) : List Stp → Option (List Int)
  | [] => some r
  | s :: ss => (stepped r s).bind fun r' => runS r' ss
def rowO : Option (List Int) → D
  | none => .non
  | some r => rowD r
theorem stepped_len {r r' : List Int} {s : Stp} (h : stepped r s = some r') : r'.length ≤ r.length + 1 := by
  unfold stepped at h
  split at h
  · cases h; split <;> simp
  · split at h
    · split at h
      · cases h
      · split at h
        · cases h; simp; omega
        · cases h
    · split at h
      · cases h
      · split at h
        · cases h; simp; omega
        · cases h
theorem atI_endx {α : Type} {r : List α} {x : α} : atI (r ++ [x]) (-1) = some x := by
  rw [atI_last (by simp)]; simp
theorem cutG_endx {α : Type} {r : List α} {x : α} : cutG (r ++ [x]) none (some (-1)) = r := by
  simp only [cutG, HT.sIx]
  rw [if_pos (by omega)]
  have e : ((-1 : Int) + ((r ++ [x]).length : Nat)).toNat = r.length := by simp; omega
  rw [e]
  simp
def StB (k : Int) (ss : List Stp) : Prop := ∀ s ∈ ss, 0 ≤ s.n ∧ s.n < k
/-- a side's power, told as (needed, given, unit, times at needed, times at given) -/
abbrev Pow5 : Type := List Int × List Int × List Int × Int × Int
def powD : Option Pow5 → D
  | none => .non
  | some (a, b, c, i, j) => .tup [rowD a, rowD b, rowD c, .int i, .int j]
def outPow (N G : List Int) (e : Int) : Option Pow5 :=
  if e = 0 then some ([], [], [], 0, 0)
  else if N = G then some (N, G, [], 0, 0)
  else if G.take N.length = N then some (N, N, G.drop N.length, 0, e)
  else if N.take G.length = G then some (G, G, N.drop G.length, e, 0)
  else if e = 1 then some (N, G, [], 0, 0) else none
def lpowD : Option (Pow5 × Pow5) → D
  | none => .non
  | some (l, r) => .tup [powD (some l), powD (some r)]
def longPow (p x s y : List Int) (e : Int) : Option (Pow5 × Pow5) := match outPow p x e, outPow s.reverse y.reverse e with
  | some l, some (a, b, c, i, j) => some (l, (a.reverse, b.reverse, c.reverse, i, j))
  | _, _ => none
def stepsOf (p x s y : List Int) : List Stp := ((p.map (Stp.mk false true) ++ x.reverse.map (Stp.mk true true)) ++ s.reverse.map (Stp.mk false false)) ++ y.map (Stp.mk true false)
@[simp] theorem atI_3 {α : Type} {x y z u : α} {xs : List α} : atI (x :: y :: z :: u :: xs) 3 = some u := by
  have h : ixN (x :: y :: z :: u :: xs).length 3 = some 3 := by
    unfold ixN
    rw [if_pos (by decide), if_pos (by simp only [List.length_cons]; omega)]; rfl
  unfold atI; rw [h]; rfl
@[simp] theorem atI_4 {α : Type} {x y z u v : α} {xs : List α} : atI (x :: y :: z :: u :: v :: xs) 4 = some v := by
  have h : ixN (x :: y :: z :: u :: v :: xs).length 4 = some 4 := by
    unfold ixN
    rw [if_pos (by decide), if_pos (by simp only [List.length_cons]; omega)]; rfl
  unfold atI; rw [h]; rfl
/-- rows of items that are not too great -/
def Nb (xs : List Int) : Prop := ∀ x ∈ xs, 0 ≤ x ∧ x < 10 ^ 30
theorem log_nb {x : Int} (h : 0 ≤ x ∧ x < 10 ^ 30) : x.natAbs.log2 < 100 := by
  rcases Nat.eq_zero_or_pos x.natAbs with e | e
  · rw [e]; decide
  · rw [Nat.log2_lt (by omega)]; omega
theorem sh_nb : ∀ {xs : List Int}, Nb xs → shL (xs.map D.int) = true
  | [], _ => rfl
  | x :: xs, h => by
    have h1 := log_nb (h x (List.mem_cons_self ..))
    have h2 := sh_nb (xs := xs) fun y hy => h y (List.mem_cons_of_mem _ hy)
    simp only [List.map_cons, shL, shD, h2, Bool.and_true, decide_eq_true_eq]
    omega
theorem wt_nb : ∀ {xs : List Int}, Nb xs → wtL (xs.map D.int) ≤ 104 * xs.length
  | [], _ => Nat.le_refl _
  | x :: xs, h => by
    have h1 := log_nb (h x (List.mem_cons_self ..))
    have h2 := wt_nb (xs := xs) fun y hy => h y (List.mem_cons_of_mem _ hy)
    simp only [List.map_cons, wtL, wt, List.length_cons]
    omega
theorem pl_row {xs : List Int} : Pl 1 (rowD xs) = true := pl_ints xs
theorem repr_long {p x s y : List Int} (hp : Nb p) (hx : Nb x) (hs : Nb s) (hy : Nb y) (h : p.length ≤ 1000 ∧ x.length ≤ 1000 ∧ s.length ≤ 1000 ∧ y.length ≤ 1000) : ∃ z, dRepr [longD (some (p, x, s, y))] = some (.str z) := by
  refine repr_pl (n := 2) (by omega) ?_ ?_ ?_
  · show List.all [rowD p, rowD x, rowD s, rowD y] (Pl 1) = true
    simp [pl_row]
  · show shL [rowD p, rowD x, rowD s, rowD y] = true
    simp [shL, shD, rowD, sh_nb hp, sh_nb hx, sh_nb hs, sh_nb hy]
  · show wtL [rowD p, rowD x, rowD s, rowD y] + 4 ≤ lim
    have a := wt_nb hp
    have b := wt_nb hx
    have c := wt_nb hs
    have d := wt_nb hy
    simp only [wtL, rowD, wt]
    unfold lim
    omega
theorem longD_inj {a b : List Int × List Int × List Int × List Int} : longD (some a) = longD (some b) ↔ a = b := by
  obtain ⟨p, x, s, y⟩ := a
  obtain ⟨p', x', s', y'⟩ := b
  constructor
  · intro h
    have h' : [rowD p, rowD x, rowD s, rowD y] = [rowD p', rowD x', rowD s', rowD y'] := D.tup.inj h
    simp only [List.cons.injEq, rowD_inj] at h'
    obtain ⟨rfl, rfl, rfl, rfl, _⟩ := h'
    rfl
  · intro h; rw [h]
theorem eqD_long {a b : List Int × List Int × List Int × List Int} : eqD (longD (some a)) (longD (some b)) = some (decide (a = b)) := by
  have pl : ∀ {a : List Int × List Int × List Int × List Int}, Pl 2 (longD (some a)) = true := fun {a} => by
    show List.all [rowD a.1, rowD a.2.1, rowD a.2.2.1, rowD a.2.2.2] (Pl 1) = true
    simp [pl_row]
  rw [eqD_pl (n := 2) (by omega) pl pl]
  congr 1
  rw [Bool.eq_iff_iff, eqB_iff, decide_eq_true_eq, longD_inj]
theorem Nb.nn {xs : List Int} (h : Nb xs) : ∀ x ∈ xs, 0 ≤ x := fun x hx => (h x hx).1
theorem Nb.rev {xs : List Int} (h : Nb xs) : Nb xs.reverse := fun x hx => h x (List.mem_reverse.mp hx)
theorem Nb.app {xs ys : List Int} (h : Nb xs) (h2 : Nb ys) : Nb (xs ++ ys) := fun x hx => by
  rcases List.mem_append.mp hx with q | q
  · exact h x q
  · exact h2 x q
/-- whole rows only -/
def Nn (xs : List Int) : Prop := ∀ x ∈ xs, 0 ≤ x
def NnS (ss : List Stp) : Prop := ∀ s ∈ ss, 0 ≤ s.n
end DL

namespace DL
open PySem L2 DLE PySem.Spec PyProof.Rows
def mXop (g : D → D → Option D) (fa fb : M D) : M D := mBind fa fun x => mBind fb fun y => mOpt (g x y)
section
variable {X : Cx} {c : Ct} {i : Nat} {e ea eb : Expr} {es : List Expr} {pos p1 p2 p3 pos' : Pos} {f fa fb : Str → Option D → M D}
theorem dx_cmp {op : CmpOp} {r : R2} {g : D → D → Option D} (ho : ∀ (a : Addr) (pn : List (Addr × Obj)), OpR (X.suite a pn) (compareOp op) r) (h : OpD c.toGc r g) (ha : DX X c i ea fa) (hb : DX X c i eb fb) (hm : behindInMarks op eb = false) : DX X c i (.Compare ea [op] [eb] pos) (fun n d => mXop g (fa n d) (fb n d)) := by
  refine ⟨fun a oe C dx pn hz hf => ?_⟩
  obtain ⟨ta, pa, sa⟩ := ha.out a oe C dx pn hz hf
  obtain ⟨tb, pb, sb⟩ := hb.out a oe C dx pn hz hf
  refine ⟨_, pe_cmpR (ho a _) pa pb hm, fun n d x σ H Δ Q hs sr xr z => ?_⟩
  refine sa n d x σ H Δ _ hs sr xr (Post.bind z fun v Δ1 z1 vv x1 H1 k1 sr1 r1 => ?_)
  refine sb n d x1 σ H1 Δ1 _ hs sr1 (ExG.kp sr k1 xr) (Post.bind (z1.step k1 fun a Δ q => okV.step k1 q) fun u Δ2 z2 uu x2 H2 k2 sr2 r2 => ?_)
  exact h x2.Av H2 v u vv uu Q sr2.fr (.inl (r1.kp sr1 k2)) (.inl r2) (Post.outV sr2 (z2.step k2 fun a Δ q => okV.step k2 q))
theorem dsu_app {j : Nat} {y : Str} (hK : c.K = X.K) (hN : X.N[j]? = some y) (hv : Vis X.env.scope y) (h : DX X c i e f)
    (hd : (y == ("__debug__" : Str)) = false := by decide) (hcd : (y == ("__classdict__" : Str)) = false := by decide)
    (hbase : ∀ (a : Addr) (pn : List (Addr × Obj)), attributeBase (.Name y p1) "append" (X.suite a pn).env (eval (.Name y p1) (X.suite a pn).env) = eval (.Name y p1) (X.suite a pn).env := by intro _ _; rfl)
    (hfew : ∀ (a : Addr) (pn : List (Addr × Obj)), ((backTo pos (starEach [e] (X.suite a pn).env)).all (fun x => !x.1) && (backToKw pos (keywordEach [] (X.suite a pn).env)).all (fun x => x.1.isSome)
      && decide ([e].length + ([] : List Keyword).length + (if ([] : List Keyword).isEmpty then 0 else 1) < 30)) = true := by intro _ _; rfl)
    (hline : (p2.endLine == pos.line) = true := by rfl) (hs : ∀ (a : Addr) (pn : List (Addr × Obj)), starEach [e] (X.suite a pn).env = (false, eval e (X.suite a pn).env) :: starEach [] (X.suite a pn).env := by intro _ _; rfl)
    (hplain : ∀ (a : Addr) (pn : List (Addr × Obj)), (backTo pos (starEach [] (X.suite a pn).env)).any (·.1) = false := by intro _ _; rfl)
    (hsw : ∀ (a : Addr) (pn : List (Addr × Obj)), swapsWith (.Call (.Attribute (.Name y p1) "append" p2) [e] [] pos) none pos'.line (X.suite a pn).env = pure false := by intro _ _; rfl) :
    DSu X c [.Expr (.Call (.Attribute (.Name y p1) "append" p2) [e] [] pos) pos'] (some i) (fun n d => mDrop (mApp j (f n d))) := by
  refine dsu_of fun a oe C dx pn hz hfv => ?_
  obtain ⟨t, p, s⟩ := h.out a oe C dx pn hz hfv
  refine ⟨_, pss_one (ps_expr (pe_bm (X := X.suite a ((a, oe) :: pn)) PySem.F.plainAttrs_list PySem.F.slot_list_append PySem.F.type_list_append mt_append (pe_var hN hv hd hcd) (pa_cons p pa_nil (hs a _)) (hbase a _) (hfew a _) hline (hs a _) (hplain a _)) (hsw a _)), fun n d x σ H Δ E hi sr xr q => ?_⟩
  have q0 : Post c noW x σ H (fun _ Δ1 => okS c x H E .nx Δ1) (mApp j (f n d) Δ) := PostS.bind q fun v Δ1 q1 => q1
  obtain ⟨d0, e0, hp0, q1⟩ := Post.hold q0
  obtain ⟨al, ha, hσ, ho, _⟩ := sr.owAt e0
  obtain ⟨ds0, rfl⟩ := isLst_some hp0
  obtain ⟨vs0, hH0, _⟩ := ho
  refine ⟨.ref al, hσ, .inl ⟨rfl, vs0, SqL.of hH0⟩, s n d x σ H Δ _ hi sr xr (q1.bind fun v Δ1 q2 vv x1 H1 k1 sr1 r1 => ?_)⟩
  obtain ⟨dl, b, d', e1, eu, q3⟩ := Post.upd q2
  obtain ⟨a', ha', hσ', ho', nav⟩ := sr1.owAt e1
  rw [hσ] at hσ'; cases hσ'
  obtain ⟨ds, rfl, hl, rfl⟩ := gApp_some eu
  obtain ⟨vs, hH, rl⟩ := ho'
  refine ⟨al, vs, vv, rfl, rfl, hH, by rw [repL_length rl]; exact lim_lt hl, ?_⟩
  have kp : Keep c.toGc x1.Av x1.Av H1 (L2.upd H1 al (.lst (vs ++ [vv]))) := Keep.temp _ nav
  obtain ⟨k2, sr2⟩ := sr1.ownUpd (o' := .lst (vs ++ [vv])) (d' := .lst (ds ++ [v])) e1 ha' ⟨_, upd_same, (rl.keep kp).app (by unfold RepL; exact ⟨vv, [], rfl, r1.keep kp, by unfold RepL; rfl⟩)⟩
  exact q3 σ x1 _ (k1.trans k2) sr2
end

/-! the classes that are caught: lists -/
def txOf (l : List (Str × Str × Bool)) (n m : Str) : Option Bool := (l.find? fun t => t.1 == n && t.2.1 == m).map (·.2.2)
theorem tx_nil {G : Gc} : TxOk G (txOf []) := fun _ _ _ h => by simp [txOf] at h
theorem tx_cons {G : Gc} {l : List (Str × Str × Bool)} {n m : Str} {b : Bool} {C C' : Addr} (h1 : G.mg n = some (.ref C)) (h2 : G.mg m = some (.ref C')) (h3 : PySem.W.exmOne G.K (.ref C) (.ref C') = some b) (r : TxOk G (txOf l)) : TxOk G (txOf ((n, m, b) :: l)) := by
  intro n' m' b' h
  unfold txOf at h
  rw [List.find?_cons] at h
  by_cases e : (n == n' && m == m') = true
  · rw [e] at h
    rw [Bool.and_eq_true, beq_iff_eq, beq_iff_eq] at e
    obtain ⟨rfl, rfl⟩ := e
    cases h
    exact ⟨C, C', h1, h2, h3⟩
  · rw [Bool.not_eq_true] at e
    rw [e] at h
    exact r n' m' b' h
theorem ec_nil {K : PySem.W.Frag} {mg : Str → Option Value} : ∀ n ∈ ([] : List Str), EcD K mg n := fun _ h => nomatch h
theorem ec_cons {K : PySem.W.Frag} {mg : Str → Option Value} {m : Str} {ns : List Str} (h : EcD K mg m) (r : ∀ n ∈ ns, EcD K mg n) : ∀ n ∈ m :: ns, EcD K mg n := fun n hn => by
  rcases List.mem_cons.mp hn with rfl | hn
  · exact h
  · exact r n hn
/-! what they answer -/
section
variable {Δ : SD} {E : EX}
@[simp] theorem wp_mraise {n : Str} {fs : M (List AK)} {P : Fl → SD → Prop} : wp (mRaise n fs) Δ (K := ⟨P, E⟩) = wp fs Δ (K := ⟨fun as Δ1 => wp (mVals as) Δ1 (K := ⟨fun ds Δ2 => ∃ d, ds = [d] ∧ E n (some d) Δ2, E⟩), E⟩) := by
  unfold mRaise
  rw [wp_bind]
  refine wp_ext fun as Δ1 => ?_
  rw [wp_bind]
  refine wp_ext fun ds Δ2 => ?_
  unfold wp
  rcases ds with _ | ⟨d, _ | ⟨d2, ds⟩⟩ <;> simp
@[simp] theorem wp_try {f : M Fl} {h : HMir} {P : Fl → SD → Prop} : wp (mTry f h) Δ (K := ⟨P, E⟩) = wp f Δ (K := ⟨P, fun n d Δ1 => wp (h n d) Δ1 (K := ⟨P, E⟩)⟩) := by
  unfold mTry wp
  dsimp only
  cases f Δ <;> rfl
def onTx (o : Option Bool) (a b : Prop) : Prop := match o with
  | some true => a
  | some false => b
  | none => False
@[simp] theorem onTx_t {a b : Prop} : onTx (some true) a b = a := (rfl)
@[simp] theorem onTx_f {a b : Prop} : onTx (some false) a b = b := (rfl)
theorem wp_catch {tx : Str → Str → Option Bool} {m n : Str} {o : Option Nat} {h : HMir} {r : List (Str × Option Nat × HMir)} {d : Option D} {P : Fl → SD → Prop} : wp (mCatch tx ((m, o, h) :: r) n d) Δ (K := ⟨P, E⟩) = onTx (tx n m) (wp (mSuite o (h n d)) Δ (K := ⟨P, E⟩)) (wp (mCatch tx r n d) Δ (K := ⟨P, E⟩)) := by
  show wp (match tx n m with
    | some true => mSuite o (h n d)
    | some false => mCatch tx r n d
    | none => mBad) Δ (K := ⟨P, E⟩) = _
  cases tx n m with
  | none => unfold wp; rfl
  | some b => cases b <;> (unfold wp; rfl)
@[simp] theorem wp_catchN {tx : Str → Str → Option Bool} {n : Str} {d : Option D} {P : Fl → SD → Prop} : wp (mCatch tx [] n d) Δ (K := ⟨P, E⟩) = E n d Δ := by unfold wp; rfl
@[simp] theorem unAt_some {i : Nat} : unAt (some i) Δ = Δ.set i .un := (rfl)
@[simp] theorem unAt_none : unAt none Δ = Δ := (rfl)
@[simp] theorem okAt_some {i : Nat} : (okAt (some i) Δ = true) = (i < Δ.length) := by simp [okAt]
@[simp] theorem okAt_none : (okAt none Δ = true) = True := by simp [okAt]
@[simp] theorem wp_suite {o : Option Nat} {f : M Fl} {P : Fl → SD → Prop} : wp (mSuite o f) Δ (K := ⟨P, E⟩) = (okAt o Δ = true ∧ wp f (unAt o Δ) (K := ⟨fun fl Δ1 => match fl with
    | .nx => P .nx (unAt o Δ1)
    | .bk => P .bk (unAt o Δ1)
    | .ct => P .ct (unAt o Δ1)
    | .rt d => P (.rt d) Δ1
    | .rf d => P (.rf d) Δ1, noE⟩)) := by
  unfold wp mSuite
  by_cases h : okAt o Δ = true
  · rw [if_pos h]
    cases f (unAt o Δ) with
    | ok fl Δ' => cases fl <;> simp [h]
    | ex n d Δ' => simp
    | bad => simp
  · rw [if_neg h]; simp [h]
@[simp] theorem wp_mval {ns : List Str} {n : Str} {d : Option D} {P : D → SD → Prop} : wp (mVal ns n d) Δ (K := ⟨P, E⟩) = (inNames ns n = true ∧ wp (mOpt d) Δ (K := ⟨P, E⟩)) := by
  unfold mVal
  by_cases h : inNames ns n = true
  · rw [if_pos h]; simp [h]
  · rw [if_neg h]; simp [h]
@[simp] theorem wp_mxl {f : M (List D)} {P : D → SD → Prop} : wp (mXl f) Δ (K := ⟨P, E⟩) = wp f Δ (K := ⟨fun ds Δ1 => ds.length ≤ lim ∧ P (.lst ds) Δ1, E⟩) := by
  unfold mXl
  rw [wp_bind]
  refine wp_ext fun ds Δ1 => ?_
  by_cases h : ds.length ≤ lim <;> simp [h]
@[simp] theorem wp_mx1 {g : List D → Option D} {f : M D} {P : D → SD → Prop} : wp (mX1 g f) Δ (K := ⟨P, E⟩) = wp f Δ (K := ⟨fun v Δ1 => wp (mOpt (g [v])) Δ1 (K := ⟨P, E⟩), E⟩) := by
  unfold mX1
  rw [wp_bind]
@[simp] theorem wp_mxop {g : D → D → Option D} {fa fb : M D} {P : D → SD → Prop} : wp (mXop g fa fb) Δ (K := ⟨P, E⟩) = wp fa Δ (K := ⟨fun v Δ1 => wp fb Δ1 (K := ⟨fun u Δ2 => wp (mOpt (g v u)) Δ2 (K := ⟨P, E⟩), E⟩), E⟩) := by
  unfold mXop
  rw [wp_bind]
  refine wp_ext fun _ _ => ?_
  rw [wp_bind]
end
end DL

namespace DL
open PySem L2 PySem.Spec PyProof.Rows
section
variable {prog : Program} {w : World} {A : Around} {E : Value → Shared → Prop} {s : Shared} {K : PySem.W.Frag} {x C f : Addr} {ox : Obj} {od : Option Obj}
theorem lenO_run {Q : Value → Shared → Prop} (X : K.In s.heap) (I : PySem.W.InstAt s.heap x ox C od) (hs : PySem.W.findIn K (.ref C) "__len__" = some (some (.ref f))) (hf : PySem.W.isFn K (.ref f) = true)
    (h : wpAny (model prog w) A.in1 (call (.ref f) [.ref x]) (fun r s1 => ∃ n u, r = Value.int n u ∧ 0 ≤ n ∧ n < 2 ^ 63 ∧ Q (.int n s1.toks) { s1 with toks := s1.toks + 1 }) E s) : wpAny (model prog w) A (call (.builtin "len") [.ref x]) Q E s := by
  refine Calls.call_function_entry kind_len plain_len entry_len (args_len1 _) ?_
  unfold Builtin.«len»
  refine wpAny_bind (m := oneArg "len" _) (wpAny_pure ?_)
  refine wpAny_bind (m := callSpecial? (.ref x) (PySem.Str.ofString "__len__")) (PySem.W.special_fn X I hs (beq_iff_eq.mp hf) (wpAny_mono h (fun r s1 hr => ?_) fun _ _ y => y))
  obtain ⟨n, u, rfl, h0, h1, q⟩ := hr
  refine wpAny_bind (wpAny_holding (wpAny_pure ?_))
  refine wpAny_bind (wpAny_letGo ?_)
  show wpAny _ _ (if n < 0 then _ else _) _ _ _
  rw [if_neg (by omega)]
  show wpAny _ _ (if n ≥ 2 ^ 63 then _ else _) _ _ _
  rw [if_neg (by omega)]
  exact wpAny_bind (wpAny_mkInt (wpAny_pure ⟨_, rfl, q⟩))
end
section
variable {X : Cx} {c : Ct} {W : WX} {k kf : Nat} {C f : Addr} {ps : List Str} {io : List Nat} {g : List D → RD} {n : Str} {ob : Expr} {fo : M AK} {pos p : Pos}
def rLenO (C : Addr) (sp : Sp) : List V → Hp → VK → Prop := fun xs H Q => match xs with
  | [v] => ∃ a dx us, v = .ref a ∧ H a = some (.ins C dx us) ∧ sp [v] H (fun z H' => ∃ i : Int, z = .int i ∧ 0 ≤ i ∧ i < 2 ^ 63 ∧ Q z H') fun _ _ _ => False
  | _ => False
theorem cr_lenO {sp : Sp} (F : DRn X.prog X.w X.K X.mg X.base c.T kf f sp) (o : Ok X c W k) (hk : kf + 1 ≤ k) (hm : Meth X.K C "__len__" f) : CallR X (.builtin "len") (rLenO C sp) := by
  intro pins s σ H xs us Q I r h
  match xs, h, r with
  | [v], h, r =>
  obtain ⟨a, dx, fs, rfl, ea, q⟩ := h
  obtain ⟨u, rfl, ru⟩ := r.one
  cases (show u = Value.ref a from ru)
  obtain ⟨mA, O, _, _, _, _⟩ := ins_get I.hok ea
  obtain ⟨od, J, _⟩ := O.look
  refine lenO_run I.kIn J hm.at_ hm.fn (wpAny_call (codeAny_mono (F.run X.A.in1 X.stack s H [.ref a] [.ref a] _ _ ((o.room.mono hk).in1) (fun h => show X.A.in1.guards = some [] from o.gd (by omega)) I.env0.in1 (.cons rfl .nil) q) fun r s' hq => ?_))
  cases r with
  | error er =>
    obtain ⟨_, _, _, _, _, _, _, _, _, _, _, _, z⟩ := hq
    exact z.elim
  | ok fl =>
    cases fl with
    | ret u =>
      obtain ⟨v, H', I3, rv, i, rfl, h0, h1, q3⟩ := I.after hq
      obtain ⟨t, e⟩ := (show ∃ t, u = Value.int i t from rv)
      cases e
      exact ⟨i, t, rfl, h0, h1, .int i, H', I3.tok _, ⟨_, rfl⟩, q3⟩
    | next => exact hq.elim
    | brk => exact hq.elim
    | cont => exact hq.elim
def lenD : D → Option D
  | .int i => if 0 ≤ i ∧ i < 2 ^ 60 then some (.int i) else none
  | _ => none
def mLenO (n : Str) (g : List D → RD) (fo : M AK) : M D := mBind fo fun a => mBind (mGet a) fun d => mBind (mOpt (if chkC n d = true then some () else none)) fun _ => mBind (mNoX (callRes 1 [] g [a])) fun r => mOpt (lenD r.1)
theorem de_lenO {x0 : Str} (F : MtD X.prog X.w X.K X.mg X.base c.T n "__len__" kf [x0] [] g) (o : Ok X c W k) (hk : kf + 1 ≤ k) (hg : Gl X "len") (hm : X.mg "len" = none) (hv : bootBuiltins "len" = some (.builtin "len")) (ho : DO X c W ob fo)
    (he : starEach [ob] X.env = (false, eval ob X.env) :: starEach [] X.env := by rfl) : DE X c W (.Call (.Name "len" p) [ob] [] pos) (mLenO n g fo) := by
  obtain ⟨C, f, fd, hC, cl, hmt, hb, dfn⟩ := F.out
  obtain ⟨ta, pa, sa⟩ := ho.out
  refine ⟨_, pe_callB (cr_lenO (dfn.raw hb) o hk hmt) hg hm hv (pa_cons pa pa_nil he) (by decide) (by decide) he rfl, fun x σ H Δ Q sr q => ?_⟩
  have key : ∀ {x : Sx} {H : Hp} {d : D} {Δ2 : SD}, Post c W x σ H (okV c x σ H Q) (mOpt (lenD d) Δ2) → okV c x σ H (fun z H' => ∃ i : Int, z = .int i ∧ 0 ≤ i ∧ i < 2 ^ 63 ∧ Q z H') d Δ2 := by
    intro x H d Δ2 z
    cases d with
    | int i =>
      have z : Post c W x σ H (okV c x σ H Q) (mOpt (if 0 ≤ i ∧ i < 2 ^ 60 then some (.int i) else none) Δ2) := z
      split at z
      · rename_i hi
        intro v x' H' k' s' r'
        have e : v = .int i := by unfold Rep at r'; exact r'
        exact ⟨i, e, hi.1, by omega, z v x' H' k' s' r'⟩
      · exact z.elim
    | _ => exact z.elim
  refine prop_ask (okr := fun x H => okV c x σ H Q) (Q := fun z H' => ∃ i : Int, z = .int i ∧ 0 ≤ i ∧ i < 2 ^ 63 ∧ Q z H') (kk := fun r => mOpt (lenD r.1)) o hC sa sr q (fun d Δ k z => okV.step k z) key (fun z => okF.okV (key z))
end
end DL

namespace DL
open PySem L2 PySem.Spec PyProof.Rows

theorem RepL.erase {G : Gc} {Av : Addr → Prop} {H : Hp} {ds : List D} {vs : List V} (r : RepL G Av H ds vs) (j : Nat) : RepL G Av H (ds.eraseIdx j) (vs.eraseIdx j) := by
  rw [List.eraseIdx_eq_take_drop_succ, List.eraseIdx_eq_take_drop_succ]
  exact (r.take j).app (r.drop (j + 1))
/-! ### x.pop(i), x.pop() -/
def gPopAt (k : D) : D → Option (D × D)
  | .lst ds => match k with
    | .int i => if -1000000 ≤ i ∧ i ≤ 1000000 then (ixN ds.length i).bind fun j => (ds[j]?).map fun d => (d, .lst (ds.eraseIdx j)) else none
    | _ => none
  | _ => none
def gPop : D → Option (D × D)
  | .lst ds => (ds[ds.length - 1]?).map fun d => (d, .lst ds.dropLast)
  | _ => none
def mPopAt (i : Nat) (fk : M AK) : M D := mBind (mHold isLst i) fun _ => mBind fk fun a => mBind (mGet a) fun k => mBind (mUpd i (gPopAt k)) fun d => mPure d
def mPop (i : Nat) : M D := mBind (mHold isLst i) fun _ => mBind (mUpd i gPop) fun d => mPure d
theorem gPopAt_some {k x x' y : D} (h : gPopAt k x = some (y, x')) : ∃ ds i j, k = .int i ∧ x = .lst ds ∧ (-1000000 ≤ i ∧ i ≤ 1000000) ∧ ixN ds.length i = some j ∧ ds[j]? = some y ∧ x' = .lst (ds.eraseIdx j) := by
  unfold gPopAt at h
  split at h
  · rename_i ds
    split at h
    · rename_i i
      split at h
      · rename_i hi
        rw [Option.bind_eq_some_iff] at h
        obtain ⟨j, ej, h⟩ := h
        rw [Option.map_eq_some_iff] at h
        obtain ⟨d, ed, h⟩ := h
        cases h
        exact ⟨ds, i, j, rfl, rfl, hi, ej, ed, rfl⟩
      · cases h
    · cases h
  · cases h
theorem gPop_some {x x' y : D} (h : gPop x = some (y, x')) : ∃ ds, x = .lst ds ∧ ds[ds.length - 1]? = some y ∧ x' = .lst ds.dropLast := by
  unfold gPop at h
  split at h
  · rename_i ds
    rw [Option.map_eq_some_iff] at h
    obtain ⟨d, ed, h⟩ := h
    cases h
    exact ⟨ds, rfl, ed, rfl⟩
  · cases h
section
variable {X : Cx} {c : Ct} {W : WX} {e : Expr} {fk : M AK} {pos p1 p2 p3 : Pos} {i : Nat} {n : Str}
theorem de_popAt (hN : X.N[i]? = some n) (hv : Vis X.env.scope n) (h : DO X c W e fk)
    (hd : (n == ("__debug__" : Str)) = false := by decide) (hcd : (n == ("__classdict__" : Str)) = false := by decide)
    (hbase : attributeBase (.Name n p1) "pop" X.env (eval (.Name n p1) X.env) = eval (.Name n p1) X.env := by rfl)
    (hfew : ((backTo pos (starEach [e] X.env)).all (fun q => !q.1) && (backToKw pos (keywordEach [] X.env)).all (fun q => q.1.isSome)
      && decide ([e].length + ([] : List Keyword).length + (if ([] : List Keyword).isEmpty then 0 else 1) < 30)) = true := by rfl)
    (hline : (p2.endLine == pos.line) = true := by rfl) (hs : starEach [e] X.env = (false, eval e X.env) :: starEach [] X.env := by rfl) (hplain : (backTo pos (starEach [] X.env)).any (·.1) = false := by rfl) :
    DE X c W (.Call (.Attribute (.Name n p1) "pop" p2) [e] [] pos) (mPopAt i fk) := by
  obtain ⟨t, p, s⟩ := h.out
  refine ⟨_, pe_bm PySem.F.plainAttrs_list PySem.F.slot_list_pop PySem.F.type_list_pop mt_popAt (pe_var hN hv hd hcd) (pa_cons p pa_nil hs) hbase hfew hline hs hplain, fun x σ H Δ Q sr q => ?_⟩
  obtain ⟨d0, e0, hp0, q1⟩ := Post.hold q
  obtain ⟨a, ha, hσ, ho, _⟩ := sr.owAt e0
  obtain ⟨ds0, rfl⟩ := isLst_some hp0
  obtain ⟨vs0, hH0, _⟩ := ho
  refine ⟨.ref a, hσ, .inl ⟨rfl, vs0, SqL.of hH0⟩, s x σ H Δ _ sr (q1.bind fun ak Δ1 q2 v x1 H1 k1 sr1 r1 => ?_)⟩
  obtain ⟨dk, rk, q3⟩ := Post.get sr1 r1 (q2.step k1 fun a Δ q => okV.step k1 q)
  obtain ⟨dl, b, d', e1, eu, q4⟩ := Post.upd q3
  obtain ⟨a', ha', hσ', ho', nav⟩ := sr1.owAt e1
  rw [hσ] at hσ'; cases hσ'
  obtain ⟨ds, z, j, rfl, rfl, hz, ej, ed, rfl⟩ := gPopAt_some eu
  obtain ⟨vs, hH, rl⟩ := ho'
  obtain ⟨y, ey, ry⟩ := rl.at ed
  have ej' : ixN vs.length z = some j := by rw [repL_length rl]; exact ej
  have hk := (ixN_seq ej').1
  rw [rep_int rk]
  refine ⟨a, vs, z, j, y, rfl, rfl, hH, by omega, by omega, hk, ey, ?_⟩
  have kp : Keep c.toGc x1.Av x1.Av H1 (L2.upd H1 a (.lst (vs.eraseIdx j))) := Keep.temp _ nav
  obtain ⟨k2, sr2⟩ := sr1.ownUpd (o' := .lst (vs.eraseIdx j)) (d' := .lst (ds.eraseIdx j)) e1 ha' ⟨_, upd_same, (rl.keep kp).erase j⟩
  exact q4 y x1 _ k2 sr2 (ry.keep kp)
theorem de_pop (hN : X.N[i]? = some n) (hv : Vis X.env.scope n)
    (hd : (n == ("__debug__" : Str)) = false := by decide) (hcd : (n == ("__classdict__" : Str)) = false := by decide)
    (hbase : attributeBase (.Name n p1) "pop" X.env (eval (.Name n p1) X.env) = eval (.Name n p1) X.env := by rfl)
    (hline : (p2.endLine == pos.line) = true := by rfl) :
    DE X c W (.Call (.Attribute (.Name n p1) "pop" p2) [] [] pos) (mPop i) := by
  refine ⟨_, pe_bm0 PySem.F.plainAttrs_list PySem.F.slot_list_pop PySem.F.type_list_pop mt_pop (pe_var hN hv hd hcd) hbase hline, fun x σ H Δ Q sr q => ?_⟩
  obtain ⟨d0, e0, hp0, q1⟩ := Post.hold q
  obtain ⟨a, ha, hσ, ho, _⟩ := sr.owAt e0
  obtain ⟨ds0, rfl⟩ := isLst_some hp0
  obtain ⟨vs0, hH0, _⟩ := ho
  refine ⟨.ref a, hσ, .inl ⟨rfl, vs0, SqL.of hH0⟩, ?_⟩
  obtain ⟨dl, b, d', e1, eu, q4⟩ := Post.upd q1
  obtain ⟨a', ha', hσ', ho', nav⟩ := sr.owAt e1
  rw [hσ] at hσ'; cases hσ'
  obtain ⟨ds, rfl, ed, rfl⟩ := gPop_some eu
  obtain ⟨vs, hH, rl⟩ := ho'
  obtain ⟨y, ey, ry⟩ := rl.at ed
  refine ⟨a, vs, y, rfl, rfl, hH, by rw [repL_length rl]; exact ey, ?_⟩
  have kp : Keep c.toGc x.Av x.Av H (L2.upd H a (.lst vs.dropLast)) := Keep.temp _ nav
  have rl2 : RepL c.toGc x.Av (L2.upd H a (.lst vs.dropLast)) ds.dropLast vs.dropLast := by
    have e1 : ds.dropLast = ds.take (ds.length - 1) := List.dropLast_eq_take
    have e2 : vs.dropLast = vs.take (ds.length - 1) := by rw [List.dropLast_eq_take, repL_length rl]
    rw [e1]
    exact cast (congrArg (RepL c.toGc x.Av (L2.upd H a (.lst vs.dropLast)) (ds.take (ds.length - 1))) e2.symm) ((rl.keep kp).take _)
  obtain ⟨k2, sr2⟩ := sr.ownUpd (o' := .lst vs.dropLast) (d' := .lst ds.dropLast) e1 ha' ⟨_, upd_same, rl2⟩
  exact q4 y x _ k2 sr2 (ry.keep kp)
end

/-! ### list(range(n)), list(range(m, n)) -/
def mLRng (g : List D → Option (List D)) (f : M (List AK)) : M D := mBind (mRng g f) fun ds => if ds.length ≤ lim then mPure (.lst ds) else mBad
theorem rg_ints {G : Gc} {Av : Addr → Prop} {H : Hp} {lo hi : Int} : RepL G Av H (intsFrom lo (hi - lo).toNat) (rgV lo hi) := by
  have h := mkL_ints (G := G) (Av := Av) (H := H) ((List.range (hi - lo).toNat).map fun i => lo + (i : Nat))
  rw [List.map_map, List.map_map] at h
  exact h
section
variable {X : Cx} {c : Ct} {W : WX} {e e2 : Expr} {fs : M (List AK)} {fa fb : M AK} {p p' pos pos' : Pos}
theorem df_lrng1 (hc : X.calm = true) (hl : Gl X "list") (hml : X.mg "list" = none) (hg : Gl X "range") (hm : X.mg "range" = none) (h : DO X c W e fa) (hs : starEach [e] X.env = (false, eval e X.env) :: starEach [] X.env := by rfl)
    (hs2 : starEach [.Call (.Name "range" p') [e] [] pos'] X.env = (false, eval (.Call (.Name "range" p') [e] [] pos') X.env) :: starEach [] X.env := by rfl) :
    DF X c W (.Call (.Name "list" p) [.Call (.Name "range" p') [e] [] pos'] [] pos) (mLRng dRng1 (mCons fa mNil)) := by
  obtain ⟨t, pt, s⟩ := h.out
  refine ⟨_, pe_listRg hc hl hml (prg_1 hg hm pt hs) hs2, fun x σ H Δ Q sr q => ?_⟩
  have q0 : Post c W x σ H (okF c x σ H Q) (mBind fa (fun a => mBind (mGet a) fun d => mBind (mOpt (dRng1 [d])) fun ds => if ds.length ≤ lim then mPure (.lst ds) else mBad) Δ) := by
    refine cast (congrArg _ ?_) q
    simp only [mLRng, mRng, mCons, mNil, mBind, mPure]
    cases fa Δ with
    | ok a Δ1 =>
      dsimp only
      simp only [mGets, mBind, mPure]
      cases mGet a Δ1 <;> rfl
    | ex n d Δ1 => rfl
    | bad => rfl
  refine s x σ H Δ _ sr (q0.bind fun a Δ1 q1 v x1 H1 k1 sr1 r1 => ?_)
  obtain ⟨d, rd, q2⟩ := Post.get sr1 r1 (q1.step k1 fun a Δ q => okF.step k1 q)
  unfold mBind at q2
  cases ed : dRng1 [d] with
  | none => rw [ed] at q2; exact q2.elim
  | some ds =>
    rw [ed] at q2
    unfold dRng1 at ed
    split at ed
    · rename_i j e1
      cases e1
      split at ed
      · rename_i hj
        cases ed
        rw [rep_int rd]
        dsimp only [mOpt, mPure] at q2
        split at q2
        · rename_i hlim
          rw [intsFrom_length] at hlim
          refine ⟨j, rfl, ⟨by omega, by omega, by omega, by omega, by unfold lim at hlim; omega⟩, fun a ha => ?_⟩
          obtain ⟨k2, sr2, h0, nr⟩ := sr1.alloc ha (Ex.new (o := .lst (rgV 0 j)) ha)
          have rr := rg_ints (G := c.toGc) (Av := fun b => x1.Av b ∧ b ≠ a) (H := L2.upd H1 a (.lst (rgV 0 j))) (lo := 0) (hi := j)
          rw [Int.sub_zero] at rr
          exact q2 a _ _ k2 (sr2 (by rw [upd_same]; intro z; cases z)) h0 ha (fun z => z.2 rfl) nr ⟨_, upd_same, rr⟩
        · exact q2.elim
      · cases ed
    · cases ed
theorem df_lrng2 (hc : X.calm = true) (hl : Gl X "list") (hml : X.mg "list" = none) (hg : Gl X "range") (hm : X.mg "range" = none) (h : DO X c W e fa) (h2 : DO X c W e2 fb) (hs : starEach [e, e2] X.env = (false, eval e X.env) :: starEach [e2] X.env := by rfl)
    (hs1 : starEach [e2] X.env = (false, eval e2 X.env) :: starEach [] X.env := by rfl) (hp : (backTo pos' (starEach [e2] X.env)).any (·.1) = false := by rfl)
    (hs2 : starEach [.Call (.Name "range" p') [e, e2] [] pos'] X.env = (false, eval (.Call (.Name "range" p') [e, e2] [] pos') X.env) :: starEach [] X.env := by rfl) :
    DF X c W (.Call (.Name "list" p) [.Call (.Name "range" p') [e, e2] [] pos'] [] pos) (mLRng dRng2 (mCons fa (mCons fb mNil))) := by
  obtain ⟨t, pt, s⟩ := h.out
  obtain ⟨t2, pt2, s2⟩ := h2.out
  refine ⟨_, pe_listRg hc hl hml (prg_2 hg hm pt pt2 hs hs1 hp) hs2, fun x σ H Δ Q sr q => ?_⟩
  have q0 : Post c W x σ H (okF c x σ H Q) (mBind fa (fun a => mBind fb fun b => mBind (mGet a) fun d => mBind (mGet b) fun d2 => mBind (mOpt (dRng2 [d, d2])) fun ds => if ds.length ≤ lim then mPure (.lst ds) else mBad) Δ) := by
    refine cast (congrArg _ ?_) q
    simp only [mLRng, mRng, mCons, mNil, mBind, mPure]
    cases fa Δ with
    | ok a Δ1 =>
      dsimp only
      cases fb Δ1 with
      | ok b Δ2 =>
        dsimp only
        simp only [mGets, mBind, mPure]
        cases mGet a Δ2 with
        | ok d Δ3 =>
          dsimp only
          cases mGet b Δ3 <;> rfl
        | ex n d Δ3 => rfl
        | bad => rfl
      | ex n d Δ1 => rfl
      | bad => rfl
    | ex n d Δ1 => rfl
    | bad => rfl
  refine s x σ H Δ _ sr (q0.bind fun a Δ1 q1 v x1 H1 k1 sr1 r1 => ?_)
  refine s2 x1 σ H1 Δ1 _ sr1 ((q1.step k1 fun a Δ q => okF.step k1 q).bind fun b Δ2 q2 u x2 H2 k2 sr2 r2 => ?_)
  have q3 := q2.step k2 fun a Δ q => okF.step k2 q
  obtain ⟨d, rd, q4⟩ := Post.get sr2 (r1.kp sr1 k2) q3
  obtain ⟨d2, rd2, q5⟩ := Post.get sr2 r2 q4
  unfold mBind at q5
  cases ed : dRng2 [d, d2] with
  | none => rw [ed] at q5; exact q5.elim
  | some ds =>
    rw [ed] at q5
    unfold dRng2 at ed
    split at ed
    · rename_i i j e1
      cases e1
      split at ed
      · rename_i hj
        cases ed
        rw [rep_int rd, rep_int rd2]
        dsimp only [mOpt, mPure] at q5
        split at q5
        · rename_i hlim
          rw [intsFrom_length] at hlim
          refine ⟨i, j, rfl, rfl, ⟨by omega, by omega, by omega, by omega, by unfold lim at hlim; omega⟩, fun a ha => ?_⟩
          obtain ⟨k2, sr3, h0, nr⟩ := sr2.alloc ha (Ex.new (o := .lst (rgV i j)) ha)
          exact q5 a _ _ k2 (sr3 (by rw [upd_same]; intro z; cases z)) h0 ha (fun z => z.2 rfl) nr ⟨_, upd_same, rg_ints⟩
        · exact q5.elim
      · cases ed
    · cases ed
end

/-! ### o[i] op= e -/
def rGetL (K : PySem.W.Frag) : V → V → Hp → VK → Prop := fun x y H Q => ∃ p xs i v, x = .ref p ∧ y = .int i ∧ SqL K H p xs ∧ 0 ≤ i ∧ i < 1000000000 ∧ xs[i.toNat]? = some v ∧ Q v H
theorem pget_list {X : Cx} : PGet X (rGetL X.K) := by
  intro pins s σ H x y v u Q I rx ry h
  obtain ⟨p, xs, i, z, rfl, rfl, hq, h0, h1, he, q⟩ := h
  cases rx
  obtain ⟨t, rfl⟩ := ry
  obtain ⟨its, r, pl, hz⟩ := I.list hq
  obtain ⟨w, ew, rw'⟩ := r.get he
  exact wpAny_getItem_list pl.isList h0 (by omega) (by simpa using ew) ⟨z, H, I, rw', q⟩
def mAugIx (g : D → D → Option D) (i : Nat) (fk fe : M AK) : M Fl := mBind (mHold isLst i) fun _ => mBind fk fun a => mBind (mGet a) fun k => mBind (mUpd i fun d => (dIxN d k).map fun v => (v, d)) fun old =>
  mBind fe fun b => mBind (mGet b) fun y => mBind (mOpt (g old y)) fun z => mBind (mUpd i fun d => (gSetL d k z).map fun d' => ((), d')) fun _ => mPure .nx
where
  dIxN : D → D → Option D
  | .lst ds, .int j => if 0 ≤ j ∧ j < 1000000000 then ds[j.toNat]? else none
  | _, _ => none
theorem set_self {Δ : SD} {i : Nat} {z : SC} (h : Δ[i]? = some z) : Δ.set i z = Δ := by
  apply List.ext_getElem?
  intro j
  by_cases e : j = i
  · subst e
    have hl : j < Δ.length := (List.getElem?_eq_some_iff.mp h).1
    rw [List.getElem?_set_self hl, h]
  · rw [List.getElem?_set_ne (Ne.symm e)]
section
variable {X : Cx} {c : Ct} {W : WX} {e ei : Expr} {fe fk : M AK} {pos p1 p2 p3 : Pos} {i : Nat} {n : Str} {op : Operator} {t : TIp} {g : D → D → Option D}
theorem ds_augIx (ho : PIp X op t) (hd : OpD c.toGc t g) (hK : c.K = X.K) (hN : X.N[i]? = some n) (hv : Vis X.env.scope n) (hk : DO X c W ei fk) (he : DO X c W e fe)
    (hdb : (n == ("__debug__" : Str)) = false := by decide) (hcd : (n == ("__classdict__" : Str)) = false := by decide)
    (ha : ∀ ov iv new, augStore ei ov iv new = (do holding [new, ov, iv] (setItem ov iv new); release [new, ov, iv] []; pure .next) := by intros; rfl) :
    DS X c W (.AugAssign (.Subscript (.Name n p1) ei p2) op e pos) (mAugIx g i fk fe) := by
  obtain ⟨te, pe, se⟩ := he.out
  obtain ⟨tk, pk, sk⟩ := hk.out
  refine ⟨_, ps_augS (pe_var hN hv hdb hcd) pk pget_list pe ho set_list ha, fun x σ H Δ E sr q => ?_⟩
  obtain ⟨d0, e0, hp0, q1⟩ := Post.hold (q.toPost (σ := σ))
  obtain ⟨a, ha0, hσ, ho0, _⟩ := sr.owAt e0
  refine ⟨.ref a, hσ, sk x σ H Δ _ sr (q1.bind fun ak Δ1 q2 v x1 H1 k1 sr1 r1 => ?_)⟩
  obtain ⟨k, rk, q3⟩ := Post.get sr1 r1 (q2.stepS k1)
  obtain ⟨d, old, d1, e1, eu, q4⟩ := Post.upd q3
  obtain ⟨a1, ha1, hσ1, ho1, nav1⟩ := sr1.owAt e1
  rw [hσ] at hσ1; cases hσ1
  rw [Option.map_eq_some_iff] at eu
  obtain ⟨old', eo, eq⟩ := eu
  cases eq
  have e1' := set_self e1
  rw [e1'] at q4
  unfold mAugIx.dIxN at eo
  split at eo
  case h_2 => cases eo
  rename_i ds j
  split at eo
  case isFalse => cases eo
  rename_i hj
  obtain ⟨vs, hH, rl⟩ := ho1
  obtain ⟨y, ey, ry⟩ := rl.at eo
  rw [rep_int rk]
  refine ⟨a, vs, j, y, rfl, rfl, SqL.of hH, hj.1, hj.2, ey, ?_⟩
  refine se x1 σ H1 Δ1 _ sr1 (q4.bind fun b Δ2 q5 u x2 H2 k2 sr2 r2 => ?_)
  obtain ⟨dy, rdy, q6⟩ := Post.get sr2 r2 (q5.stepS k2)
  refine hd x2.Av H2 old dy y u _ sr2.fr (.inl (ry.kp sr1 k2)) rdy ?_
  unfold mBind at q6
  cases eg : g old dy with
  | none => rw [eg] at q6; exact q6.elim
  | some z =>
    rw [eg] at q6
    intro w H3 ex rz
    have sr3 := sr2.ex ex
    have q7 := q6.stepS (Kp.ex ex x2)
    obtain ⟨d2, b2, d3, e3, eu2, q8⟩ := Post.upd q7
    obtain ⟨a3, ha3, hσ3, ho3, nav3⟩ := sr3.owAt e3
    rw [hσ] at hσ3; cases hσ3
    rw [Option.map_eq_some_iff] at eu2
    obtain ⟨d4, eset, eq⟩ := eu2
    cases eq
    refine set_listD x2.Av H3 a d2 (.int j) z d3 (.int j) w _ nav3 ho3 (.inl mk_int) rz eset fun o' hown => ?_
    obtain ⟨k4, sr4⟩ := sr3.ownUpd e3 ha3 hown
    exact q8 σ x2 _ k4 sr4
end

/-! ### isinstance(e, C), e the exception that a suite holds -/
/-- what the text says of a class whose exceptions are asked for their kind -/
structure EiD (K : PySem.W.Frag) (C : Addr) : Prop where
  xf : XfC K C
  ic : (PySem.W.clsIn K C).isSome = true
  ha : PySem.W.findIn K (.ref C) "__class__" = some (some (.builtin "object.__class__"))
  hm : PySem.W.mroIn K C (.type "object") = some true
  hn : PySem.W.specialIn K (.builtin "object.__class__") "__get__" = some (some (.builtin "getset_descriptor.__get__"))
  ht : PySem.W.takesIn K (.builtin "object.__class__") = some true
/-- a table of such answers -/
def EiOk (G : Gc) (cv : Value) (l : List (Str × Bool)) : Prop := ∀ n b, l.lookup n = some b → ∃ C, G.mg n = some (.ref C) ∧ EiD G.K C ∧ PySem.W.kitOne G.K (.ref C) cv = some b
theorem ei_nil {G : Gc} {cv : Value} : EiOk G cv [] := fun _ _ h => nomatch h
theorem ei_cons {G : Gc} {cv : Value} {l : List (Str × Bool)} {n : Str} {b : Bool} {C : Addr} (h1 : G.mg n = some (.ref C)) (h2 : EiD G.K C) (h3 : PySem.W.kitOne G.K (.ref C) cv = some b) (r : EiOk G cv l) : EiOk G cv ((n, b) :: l) := by
  intro m k h
  rw [List.lookup_cons] at h
  split at h
  · rename_i e
    cases h
    have e' : m = n := by simpa using e
    subst e'
    exact ⟨C, h1, h2, h3⟩
  · exact r m k h
def mIsE (l : List (Str × Bool)) (n : Str) (d : Option D) : M D := match d with
  | none => mBad
  | some _ => mOpt ((l.lookup n).map D.bl)
def rIsX (K : PySem.W.Frag) (D a : Addr) : List V → Hp → VK → Prop := fun xs H Q => ∃ (w : V) (cv : Value) (b : Bool) (dd : Addr) (fs : List (Str × V)), xs = [.ref a, w] ∧ (∀ u, RelV w u → u = cv) ∧ PySem.W.kitOne K (.ref D) cv = some b ∧ H dd = some (.xd fs) ∧ Q (.bl b) H
theorem call_isX {X : Cx} {a D dd : Addr} {oe : Obj} {pn : List (Addr × Obj)} (Z : EiD X.K D) (hz : Zc (.ref D) (some dd) oe) (hf : ∃ vs, oe.data = .fields vs) : CallR (X.suite a ((a, oe) :: pn)) (.builtin "isinstance") (fun xs H Q => ∃ (w : V) (cv : Value) (b : Bool) (fs : List (Str × V)), xs = [.ref a, w] ∧ (∀ u, RelV w u → u = cv) ∧ PySem.W.kitOne X.K (.ref D) cv = some b ∧ H dd = some (.xd fs) ∧ Q (.bl b) H) := by
  intro pins s σ H xs us Q I r ⟨w, cv, b, fs, exs, hcv, hb, hd, q⟩
  subst exs
  obtain ⟨u1, u2, rfl, r1, r2⟩ := vals2 r
  cases r1
  rw [hcv u2 r2]
  have pin := (I.pin (a, oe) (List.mem_append.mpr (.inl List.mem_cons_self))).1
  have hx : ObjOk X.prog X.w H s.heap dd (.xd fs) := I.hok dd _ hd
  obtain ⟨mA, hns, hr⟩ := hx
  obtain ⟨od, ho, hl⟩ := lookIn_ns hns
  obtain ⟨vs, hv⟩ := hf
  have J : PySem.W.InstAt s.heap a oe D (some od) := ⟨pin, hz.1, by unfold PySem.W.notCls; rw [hv] <;> rfl, by rw [hz.2]; exact ho⟩
  have T := PySem.W.kitx_exc (x := a) (ox := oe) (od := some od) Z.ic Z.xf.ga Z.xf.gg Z.xf.exC Z.ha Z.hn Z.ht Z.hm
  refine PySem.W.kia_one T I.kIn J hb (fun z => by cases z) fun tk => ?_
  exact ⟨.bl b, H, I.kept (t' := tk) (fun _ _ z => z), rfl, q⟩
section
variable {X : Cx} {c : Ct} {i : Nat} {p0 p1 p2 pos : Pos}
theorem dx_isi {x : Str} {l : List (Str × Bool)} {ec : Expr} {w : V} {cv : Value} (hG : c.toGc = ⟨X.K, X.mg, c.T⟩) (hl : EiOk ⟨X.K, X.mg, []⟩ cv l) (hw : ∀ u, RelV w u → u = cv) (hec : ∀ (a : Addr) (pn : List (Addr × Obj)), PE (X.suite a pn) ec (tC w))
    (hg : Gl X "isinstance") (hm : X.mg "isinstance" = none) (hN : X.N[i]? = some x) (hv : Vis X.env.scope x) (hd : (x == ("__debug__" : Str)) = false := by decide) (hcd : (x == ("__classdict__" : Str)) = false := by decide)
    (h1 : ∀ (a : Addr) (pn : List (Addr × Obj)), starEach [.Name x p1, ec] (X.suite a pn).env = (false, eval (.Name x p1) (X.suite a pn).env) :: starEach [ec] (X.suite a pn).env := by intro _ _; rfl)
    (h2 : ∀ (a : Addr) (pn : List (Addr × Obj)), starEach [ec] (X.suite a pn).env = (false, eval ec (X.suite a pn).env) :: starEach [] (X.suite a pn).env := by intro _ _; rfl)
    (h3 : ∀ (a : Addr) (pn : List (Addr × Obj)), (backTo pos (starEach [ec] (X.suite a pn).env)).any (·.1) = false := by intro _ _; rfl) :
    DX X c i (.Call (.Name "isinstance" p0) [.Name x p1, ec] [] pos) (mIsE l) := by
  refine ⟨fun a oe C dx pn hz hf => ?_⟩
  by_cases hC : (∃ dd, dx = some dd) ∧ ∃ n b, l.lookup n = some b ∧ X.mg n = some (.ref C)
  case neg =>
    refine ⟨fun _ _ _ => False, ⟨fun _ _ _ _ _ _ h => h.elim⟩, fun n d y σ H Δ Q hs sr xr p => ?_⟩
    unfold mIsE at p
    cases d with
    | none => exact p
    | some d =>
      dsimp only at p
      cases e : l.lookup n with
      | none => rw [e] at p; exact p
      | some b =>
        refine hC ⟨?_, n, b, e, by have h := xr.1; rw [hG] at h; exact h⟩
        obtain ⟨q, v, e1, _⟩ := xr.2
        exact ⟨q, e1⟩
  obtain ⟨⟨dd, rfl⟩, n, b, hn, hmn⟩ := hC
  obtain ⟨C', hm', Z, kb⟩ := hl n b hn
  have hm2 : X.mg n = some (.ref C') := hm'
  rw [hmn] at hm2
  cases hm2
  refine ⟨_, pe_callB (X := X.suite a ((a, oe) :: pn)) (call_isX Z hz hf) hg hm (by decide +kernel) (pa_cons (pe_var (X := X.suite a ((a, oe) :: pn)) hN hv hd hcd) (pa_cons (hec a _) pa_nil (h2 a _)) (h1 a _)) (by decide) (by decide) (h1 a _) (h3 a _), fun n' d y σ H Δ Q hs sr xr p => ?_⟩
  unfold mIsE at p
  cases d with
  | none => exact p.elim
  | some d =>
    dsimp only at p
    obtain ⟨q, v, e1, hq, hh, r⟩ := xr.2
    cases e1
    cases e : l.lookup n' with
    | none => rw [e] at p; exact p.elim
    | some b' =>
      rw [e] at p
      obtain ⟨C', hm', Z', kb'⟩ := hl n' b' e
      have hx : X.mg n' = some (.ref C) := by have h := xr.1; rw [hG] at h; exact h
      have hm2 : X.mg n' = some (.ref C') := hm'
      rw [hx] at hm2
      cases hm2
      exact ⟨.ref a, hs, w, cv, b', _, rfl, hw, kb', hh, p (.bl b') y H (Kp.refl _ _) sr mk_bl⟩
end

/-- the answers of isinstance for a class of the text; for a built-in one -/
def EiC (K : PySem.W.Frag) (mg : Str → Option Value) (x : Str) (l : List (Str × Bool)) : Prop := ∃ C, mg x = some (.ref C) ∧ EiOk ⟨K, mg, []⟩ (.ref C) l
def EiB (K : PySem.W.Frag) (mg : Str → Option Value) (x : Str) (l : List (Str × Bool)) : Prop := mg x = none ∧ ∃ T, bootBuiltins x = some (.type T) ∧ EiOk ⟨K, mg, []⟩ (.type T) l
section
variable {X : Cx} {c : Ct} {i : Nat} {p0 p1 p2 pos : Pos}
theorem dx_isC {x y : Str} {l : List (Str × Bool)} (hG : c.toGc = ⟨X.K, X.mg, c.T⟩) (hl : EiC X.K X.mg y l) (hgy : Gl X y)
    (hg : Gl X "isinstance") (hm : X.mg "isinstance" = none) (hN : X.N[i]? = some x) (hv : Vis X.env.scope x) (hd : (x == ("__debug__" : Str)) = false := by decide) (hcd : (x == ("__classdict__" : Str)) = false := by decide) (hdy : (y == ("__debug__" : Str)) = false := by decide) :
    DX X c i (.Call (.Name "isinstance" p0) [.Name x p1, .Name y p2] [] pos) (mIsE l) := by
  obtain ⟨C, hy, hl⟩ := hl
  exact dx_isi (w := .ref C) (cv := .ref C) hG hl (fun u h => h) (fun a pn => pe_glob (X := X.suite a pn) hgy hy (show RelV (.ref C) (.ref C) from rfl) hdy) hg hm hN hv hd hcd
theorem dx_isB {x y : Str} {l : List (Str × Bool)} (hG : c.toGc = ⟨X.K, X.mg, c.T⟩) (hl : EiB X.K X.mg y l) (hgy : Gl X y)
    (hg : Gl X "isinstance") (hm : X.mg "isinstance" = none) (hN : X.N[i]? = some x) (hv : Vis X.env.scope x) (hd : (x == ("__debug__" : Str)) = false := by decide) (hcd : (x == ("__classdict__" : Str)) = false := by decide) (hdy : (y == ("__debug__" : Str)) = false := by decide) (hny : y ≠ "__name__" := by decide) :
    DX X c i (.Call (.Name "isinstance" p0) [.Name x p1, .Name y p2] [] pos) (mIsE l) := by
  obtain ⟨hy, T, hb, hl⟩ := hl
  exact dx_isi (w := .ty T) (cv := .type T) hG hl (fun u h => h) (fun a pn => pe_bltn (X := X.suite a pn) hgy hy hb (show RelV (.ty T) (.type T) from rfl) hny hdy) hg hm hN hv hd hcd
end
/-! ### what the mirrors answer -/
section
variable {Δ : SD} {E : EX}
@[simp] theorem wp_popAt {i : Nat} {fk : M AK} {P : D → SD → Prop} : wp (mPopAt i fk) Δ (K := ⟨P, E⟩) = wp (mHold isLst i) Δ (K := ⟨(fun _ Δ1 => wp fk Δ1 (K := ⟨(fun a Δ2 => wp (mGet a) Δ2 (K := ⟨(fun k Δ3 => wp (mUpd i (gPopAt k)) Δ3 (K := ⟨P, E⟩)), E⟩)), E⟩)), E⟩) := by
  unfold mPopAt
  repeat (first | rfl | rw [wp_bind] | rw [wp_pure] | refine wp_ext fun _ _ => ?_)
@[simp] theorem wp_pop {i : Nat} {P : D → SD → Prop} : wp (mPop i) Δ (K := ⟨P, E⟩) = wp (mHold isLst i) Δ (K := ⟨(fun _ Δ1 => wp (mUpd i gPop) Δ1 (K := ⟨P, E⟩)), E⟩) := by
  unfold mPop
  repeat (first | rfl | rw [wp_bind] | rw [wp_pure] | refine wp_ext fun _ _ => ?_)
@[simp] theorem gPopAt_lst {ds : List D} {i : Int} : gPopAt (.int i) (.lst ds) = if -1000000 ≤ i ∧ i ≤ 1000000 then (ixN ds.length i).bind fun j => (ds[j]?).map fun d => (d, .lst (ds.eraseIdx j)) else none := (rfl)
@[simp] theorem gPop_lst {ds : List D} : gPop (.lst ds) = (ds[ds.length - 1]?).map fun d => (d, .lst ds.dropLast) := (rfl)
@[simp] theorem wp_lrng {g : List D → Option (List D)} {f : M (List AK)} {P : D → SD → Prop} : wp (mLRng g f) Δ (K := ⟨P, E⟩) = wp (mRng g f) Δ (K := ⟨fun ds Δ1 => ds.length ≤ lim ∧ P (.lst ds) Δ1, E⟩) := by
  unfold mLRng
  rw [wp_bind]
  refine wp_ext fun ds Δ1 => ?_
  by_cases h : ds.length ≤ lim <;> simp [h]
@[simp] theorem dIxN_lst {ds : List D} {i : Int} : mAugIx.dIxN (.lst ds) (.int i) = if 0 ≤ i ∧ i < 1000000000 then ds[i.toNat]? else none := (rfl)
@[simp] theorem wp_augIx {g : D → D → Option D} {i : Nat} {fk fe : M AK} {P : Fl → SD → Prop} : wp (mAugIx g i fk fe) Δ (K := ⟨P, E⟩) = wp (mHold isLst i) Δ (K := ⟨(fun _ Δ1 => wp fk Δ1 (K := ⟨(fun a Δ2 => wp (mGet a) Δ2 (K := ⟨(fun k Δ3 => wp (mUpd i fun d => (mAugIx.dIxN d k).map fun v => (v, d)) Δ3 (K := ⟨(fun old Δ4 => wp fe Δ4 (K := ⟨(fun b Δ5 => wp (mGet b) Δ5 (K := ⟨(fun y Δ6 => wp (mOpt (g old y)) Δ6 (K := ⟨(fun z Δ7 => wp (mUpd i fun d => (gSetL d k z).map fun d' => ((), d')) Δ7 (K := ⟨(fun _ Δ8 => P .nx Δ8), E⟩)), E⟩)), E⟩)), E⟩)), E⟩)), E⟩)), E⟩)), E⟩) := by
  unfold mAugIx
  repeat (first | rfl | rw [wp_bind] | rw [wp_pure] | refine wp_ext fun _ _ => ?_)
@[simp] theorem wp_isE {l : List (Str × Bool)} {n : Str} {d : D} {P : D → SD → Prop} : wp (mIsE l n (some d)) Δ (K := ⟨P, E⟩) = wp (mOpt ((l.lookup n).map D.bl)) Δ (K := ⟨P, E⟩) := by unfold wp; rfl
end
end DL

namespace DL
open PySem L2 PySem.Spec PyProof.Rows PySem.Calls

abbrev tupItO (t : Addr) : Obj := { cls := .type "tuple_iterator", data := .fields #[.ref t, .int 0 0] }
abbrev enumO (p : Addr) : Obj := { cls := .type "enumerate", data := .fields #[.none, .bool false, .ref p, rawInt 0, .none, .none] }
theorem meets_enumT (t : Addr) (its : Array Value) (ot : Obj) (hcls : ot.cls = .type "tuple") (m : Nat) (hdat : ot.data = .seq its m) :
    Meets (Builtin.«enumerate.__new__» ⟨[.type "enumerate", .ref t], []⟩) (fun _ R s => s.heap.get? t = some ot ∧
      R (.ok (.ret (.ref (s.heap.push (tupItO t)).objs.size))) { s with heap := (s.heap.push (tupItO t)).push (enumO s.heap.objs.size) }) :=
  .of_wp fun prog w A R s hyp => by
    obtain ⟨hp, gs, dr, tk, os⟩ := s
    obtain ⟨ht, hyp⟩ := hyp
    have hsub := sub_enumerate
    have hT : Heap.IsTuple (Shared.heap ⟨hp, gs, dr, tk, os⟩) t its := ⟨_, ht, hcls, m, hdat⟩
    have hT2 : Heap.IsTuple hp t its := ⟨_, ht, hcls, m, hdat⟩
    obtain ⟨oc, od, oda, osl⟩ := ot
    dsimp only at hcls hdat
    subst hcls hdat
    wp_walk using wpAny_loadPart' ht
    refine wpAny_stack_any fun st => wpAny_pure ?_
    split
    · rename_i q _ _ _ _ _
      cases (q == Value.type "enumerate") with
      | false =>
        wp_walk using wpAny_loadPart' ht, wpAny_pyIter_tuple hT
        exact ⟨_, rfl, hyp⟩
      | true =>
        wp_walk using wpAny_loadPart' ht, wpAny_pyIter_tuple hT
        exact ⟨_, rfl, hyp⟩
    · wp_walk using wpAny_loadPart' ht, wpAny_pyIter_tuple hT
      exact ⟨_, rfl, hyp⟩
theorem call_enumT {prog : Program} {w : World} {A : Around} {E : Value → Shared → Prop} {s : Shared} {t : Addr} {its : Array Value} {Q : Value → Shared → Prop} (hT : s.heap.IsTuple t its)
    (hyp : ∀ h', IsEnum h' (s.heap.objs.size + 1) s.heap.objs.size 0 .none → h'.IsTupleIter s.heap.objs.size t 0 → (∀ b o, s.heap.get? b = some o → h'.get? b = some o) → Q (.ref (s.heap.objs.size + 1)) { s with heap := h' }) :
    wpAny (model prog w) A (call (.type "enumerate") [.ref t]) Q E s := by
  obtain ⟨ot, ht, hcls, m, hdat⟩ := hT
  refine callType_new F.called_enumerate (by decide) (F.typeCall_enumerate_1 _) (F.newCall_enumerate_1 _) (fun ob => F.args_object_init_2 ob _) F.entry_enumerate_new (meets_enumT t its ot hcls m hdat) ⟨ht, ?_⟩
  have sz : (s.heap.push (tupItO t)).objs.size = s.heap.objs.size + 1 := Heap.size_push ..
  show _ ∧ _
  rw [sz]
  have he : IsEnum ((s.heap.push (tupItO t)).push (enumO s.heap.objs.size)) (s.heap.objs.size + 1) s.heap.objs.size 0 .none := by
    have q := Heap.get?_push_size (s.heap.push (tupItO t)) (o := enumO s.heap.objs.size) rfl
    rw [sz] at q
    exact q
  have hi : ((s.heap.push (tupItO t)).push (enumO s.heap.objs.size)).get? s.heap.objs.size = some (tupItO t) := Heap.get?_push_of_some _ (Heap.get?_push_size _ rfl)
  exact ⟨⟨_, he, rfl⟩, hyp _ he ⟨_, hi, rfl, rfl⟩ fun b o q => Heap.get?_push_of_some _ (Heap.get?_push_of_some _ q)⟩

/-- the tuple at a, its items in new pairs with their numbers -/
def IteT (K : PySem.W.Frag) (a : Addr) : It where
  go := fun i H => ∃ (vs : List V) (v : V), SqT K H a vs ∧ vs[i]? = some v
  yld := fun i H r H' => ∃ T v, r = .ref T ∧ H T = none ∧ H' = upd H T (.tup [.int (i : Nat), v]) ∧ ∀ vs, SqT K H a vs → vs[i]? = some v
  stop := fun i H => ∃ vs : List V, SqT K H a vs ∧ vs.length ≤ i
theorem turn_enumT {P : Program} {w : World} {K : PySem.W.Frag} {elts : List Expr} {kk : Nat} {tpos : Pos} (a e it : Addr) (ne0 : a ≠ it) (ne1 : a ≠ e) :
    Turn P w K (.Tuple elts kk tpos) (IteT K a) [e, it] e (fun i hp => (∃ old, IsEnum hp e it ((i : Nat) : Int) old) ∧ hp.IsTupleIter it a i ∧ e ≠ it) where
  mem := List.mem_cons_self
  obj := fun i hp st b hb => by
    obtain ⟨⟨old, he⟩, ⟨ob, ho, hcl, hda⟩, _⟩ := st
    have two : b = e ∨ b = it := by simpa using hb
    rcases two with rfl | rfl
    · exact ⟨_, he, fun v q => nomatch q⟩
    · exact ⟨ob, ho, fun v q => by rw [hda] at q; cases q⟩
  keep := fun i hp hp' st kp => by
    obtain ⟨⟨old, he⟩, ⟨ob, ho, hcl, hda⟩, hne⟩ := st
    exact ⟨⟨old, kp e (by simp) _ he⟩, ⟨ob, kp it (by simp) _ ho, hcl, hda⟩, hne⟩
  item := by
    intro X e1 e2 e3 hc i pins s σ H E I hf st hg
    subst e1 e2 e3
    obtain ⟨⟨old, he⟩, hit, hne⟩ := st
    obtain ⟨vs, v, hq, hv⟩ := hg
    obtain ⟨its, rv, tp, _⟩ := I.tuple hq
    obtain ⟨u, hu, ru⟩ := rv.get hv
    have el : e < s.heap.objs.size := Heap.lt_size he
    have il : it < s.heap.objs.size := by obtain ⟨_, q, _⟩ := hit; exact Heap.lt_size q
    have lt : i < its.toArray.size := by
      have := (List.getElem?_eq_some_iff.mp hu).1
      simpa using this
    have hA : X.A.in1.handled = none := I.ok.hd hc
    have notin : e ∉ [it, a] := by
      intro q
      rcases List.mem_cons.mp q with q | q
      · exact hne q
      · exact ne1 (List.mem_singleton.mp q).symm
    refine wpAny_pyNext_enum_itemD (Draws.tuple hA it a ne0 its.toArray) he ⟨hit, tp⟩ lt hne notin fun y h' tk hy ho st' hT sz hk => ?_
    have yu : y = u := by
      have q : its[i]? = some y := by simpa using hy
      rw [hu] at q; exact (Option.some.inj q).symm
    subst yu
    refine ⟨_, rfl, wpAny_letOwnedTupleGo_enum (s := { s with heap := h', toks := tk + 1 }) ho fun h2 he2 sb => ?_⟩
    have hT2 : h2.get? s.heap.objs.size = some { cls := .type "tuple", data := .seq #[.int i tk, y] } := (sb.2 _ (Nat.ne_of_gt el)).trans hT
    have fresh : ObjOk X.prog X.w (upd H s.heap.objs.size (.tup [.int (i : Nat), v])) h2 s.heap.objs.size (.tup [.int (i : Nat), v]) := by
      refine ⟨by show 2 ≤ sizeLine; decide, [.int i tk, y], .cons ⟨_, rfl⟩ (.cons ru .nil), ?_⟩
      exact ⟨_, hT2, rfl, _, rfl⟩
    have J : Inv X pins σ (upd H s.heap.objs.size (.tup [.int (i : Nat), v])) { s with heap := h2, toks := tk + 1 } := by
      refine I.turnedNew (ch := [e, it]) (fun b ob hb q => ?_) hf (Nat.le_refl _) fresh
      have nb1 : b ≠ e := fun z => hb (by simp [z])
      have nb2 : b ≠ it := fun z => hb (by simp [z])
      exact (sb.2 b nb1).trans (hk b ob nb1 nb2 q)
    have hit2 : h2.IsTupleIter it a (i + 1) := by
      obtain ⟨ob, q1, q2⟩ := st'.1
      exact ⟨ob, (sb.2 it (Ne.symm hne)).trans q1, q2⟩
    refine ⟨.ref s.heap.objs.size, _, J, rfl, ⟨_, v, rfl, I.hok.fresh (Nat.le_refl _), rfl, fun ws hw => by rw [I.tuple_inj hw hq]; exact hv⟩, ⟨⟨y, ?_⟩, hit2, hne⟩, fun b hb => ?_⟩
    · have ei : ((i + 1 : Nat) : Int) = (i : Int) + 1 := by omega
      rw [ei]
      exact he2
    · have lb : b < s.heap.objs.size := by
        have two : b = e ∨ b = it := by simpa using hb
        rcases two with rfl | rfl
        · exact el
        · exact il
      rw [upd_ne (Nat.ne_of_lt lb)]
      exact (hf b hb).1
  done := by
    intro X e1 e2 e3 hc i pins s σ H E I hf st hg
    subst e1 e2 e3
    obtain ⟨⟨old, he⟩, hit, hne⟩ := st
    obtain ⟨vs, hq, hv⟩ := hg
    obtain ⟨its, rv, tp, _⟩ := I.tuple hq
    obtain ⟨g0, g1, g2, g3, g4, g5⟩ := hf it (by simp)
    have hA : X.A.in1.handled = none := I.ok.hd hc
    have hl := rv.length
    refine enum_end (A := X.A) hA he hit tp (by simpa using (by omega : its.length ≤ i)) fun h' eb => ?_
    exact ⟨rfl, I.turned (t' := s.toks) (fun b o hb q => eb b o hb q) g0 g1 g3 g4 g5⟩
  self := fun A i s Q E st hyp => by
    obtain ⟨⟨_, he⟩, _⟩ := st
    exact wpAny_pyIter_enum he hyp
where
  enum_end {P : Program} {w : World} {A : Around} {E : Value → Shared → Prop} {s : Shared} {e it a : Addr} {i : Nat} {its : Array Value} {old : Value} {Q : Option Value → Shared → Prop} (hA : A.in1.handled = none) (he : IsEnum s.heap e it ((i : Nat) : Int) old) (hit : s.heap.IsTupleIter it a i) (tp : s.heap.IsTuple a its) (hl : its.size ≤ i)
      (hQ : ∀ h', Heap.ExtBut it s.heap h' → Q none { s with heap := h' }) : wpAny (model P w) A (pyNext (.ref e)) Q E s := by
    have hT : s.TypeIs (.ref e) "enumerate" := ⟨_, he, rfl⟩
    unfold pyNext
    refine wpAny_bind (wpAny_attempt (wpAny_callSpecial?_slot (name := Str.ofString "__next__") hT F.slot_enumerate_next (wpAny_call_entry F.slot_enumerate_next hT F.entry_enumerate_next ?_ (F.args_enumerate_next_1 _))))
    show wpAny _ _ (field (.ref e) 2 >>= _) _ _ _
    refine wpAny_bind (wpAny_field he rfl (x := .ref it) rfl ?_)
    refine wpAny_bind (wpAny_nextOf_tuple_end hA hit tp (by simp [hl]) fun h' x ex isx => ?_)
    obtain ⟨ob, ho, hcl⟩ := isx
    refine wpAny_bind (wpAny_isInstance (T := "StopIteration") (b := true) ⟨ob, ho, hcl⟩ isSubtype_stop ?_)
    exact wpAny_pure (hQ _ ex)
def iEnumT (K : PySem.W.Frag) (ta : TA) : TI := fun σ H R => ta σ H fun us H1 => ∃ a vs, us = [.ref a] ∧ SqT K H1 a vs ∧ R (IteT K a) H1
theorem pi_enumT {X : Cx} {e : Expr} {ta : TA} {p pos tpos : Pos} {elts : List Expr} {kk : Nat} (hg : Gl X "enumerate") (hm : X.mg "enumerate" = none) (ha : PA X [e] ta) (hs : starEach [e] X.env = [(false, eval e X.env)] := by rfl) :
    PI X (.Tuple elts kk tpos) (.Call (.Name "enumerate" p) [e] [] pos) (iEnumT X.K ta) := by
  refine ⟨fun pins s σ H R I hyp => Call_ (ld_blt I hg hm boot_enumerate ?_)⟩
  refine PyProof.Rows.callWith_type1 (thn (ha.run pos pins s σ H _ I hyp) fun us s1 ⟨ws, H1, I1, r1, a, vs, ew, hq, q⟩ => ?_) hs rfl
  subst ew
  cases r1 with
  | cons ra rr =>
    cases rr
    cases ra
    obtain ⟨its, rv, tp, _⟩ := I1.tuple hq
    refine call_enumT tp fun h' he hit hk => wpAny_pyIter_enum he ?_
    have I2 : Inv X pins σ H1 { s1 with heap := h' } := I1.kept (t' := s1.toks) hk
    have al : a < s1.heap.objs.size := by obtain ⟨_, q1, _⟩ := tp; exact Heap.lt_size q1
    refine ⟨s1.heap.objs.size + 1, [s1.heap.objs.size + 1, s1.heap.objs.size], _, _, H1, rfl, I2, turn_enumT a (s1.heap.objs.size + 1) s1.heap.objs.size (Nat.ne_of_lt al) (Nat.ne_of_lt (Nat.lt_succ_of_lt al)), ⟨⟨.none, he⟩, hit, Nat.succ_ne_self _⟩, fun b hb => ?_, q⟩
    have le : s1.heap.objs.size ≤ b := by
      have two : b = s1.heap.objs.size + 1 ∨ b = s1.heap.objs.size := by simpa using hb
      rcases two with rfl | rfl
      · exact Nat.le_succ _
      · exact Nat.le_refl _
    exact I1.fpOk le (I1.hok.fresh le)

theorem it_enumT {c : Ct} {x : Sx} {σ : L2.St} {H : Hp} {Δ : SD} (sr : SR c x σ H Δ) {a : Addr} {vs : List V} {ds : List D} (ha : x.Av a) (hh : H a = some (.tup vs)) (r : RepL c.toGc x.Av H ds vs) : ItOk c x H (IteT c.K a) (enumD 0 ds) := by
  intro x' σ' H' Δ' i k sr'
  have kp := sr.keep k
  have q : SqT c.K H' a vs := SqT.of (kp.tup a vs ha hh)
  have r' := r.keep kp
  refine ⟨fun hi => ⟨vs, q, by rw [repL_length r, ← enumD_length ds 0]; exact hi⟩, fun d hd => ?_⟩
  rw [enumD_at, Option.map_eq_some_iff] at hd
  obtain ⟨d', hd', rfl⟩ := hd
  obtain ⟨v, hv, rv⟩ := r'.at hd'
  refine ⟨⟨vs, v, q, hv⟩, fun u H'' y => ?_⟩
  obtain ⟨T, w, rfl, hT, rfl, y⟩ := y
  have e := y vs q
  rw [hv] at e; cases e
  rw [Nat.zero_add]
  exact mk_pair sr'.fr hT mk_int rv
def dEnumX : D → Option (List D)
  | .lst ds => some (enumD 0 ds)
  | .tup ds => some (enumD 0 ds)
  | _ => none
def mEnumX (f : M D) : M (List D) := mBind f fun d => mOpt (dEnumX d)
section
variable {X : Cx} {c : Ct} {W : WX} {e : Expr} {fe : M D} {p pos tpos : Pos}
theorem di_enumX {elts : List Expr} {kk : Nat} (hK : c.K = X.K) (hg : Gl X "enumerate") (hm : X.mg "enumerate" = none) (h : DE X c W e fe) (hs : starEach [e] X.env = [(false, eval e X.env)] := by rfl) : DI X c W (.Tuple elts kk tpos) (.Call (.Name "enumerate" p) [e] [] pos) (mEnumX fe) := by
  have pa := pa_cons h.pe pa_nil (by rw [hs]; rfl)
  refine ⟨_, PI.or (pi_enum hg hm pa hs) (pi_enumT hg hm pa hs), fun x σ H Δ R sr q => ?_⟩
  unfold mEnumX mBind at q
  cases ef : fe Δ with
  | bad => rw [ef] at q; exact q.elim
  | ex n d Δ1 =>
    rw [ef] at q
    exact .inl ⟨x, Δ, sr, by rw [ef]; exact q⟩
  | ok d Δ1 =>
    rw [ef] at q
    cases d with
    | lst ds =>
      refine .inl ⟨x, Δ, sr, ?_⟩
      rw [ef]
      intro v x1 H1 k1 sr1 r
      obtain ⟨a, vs, rfl, ha, hh, rl⟩ := lst_sh r
      rw [← hK]
      exact ⟨a, vs, rfl, SqL.of hh, q _ x1 H1 k1 sr1 (it_enum sr1 ha hh rl)⟩
    | tup ds =>
      refine .inr ⟨x, Δ, sr, ?_⟩
      rw [ef]
      intro v x1 H1 k1 sr1 r
      unfold Rep at r
      obtain ⟨a, vs, rfl, ha, hh, rl⟩ := r
      rw [← hK]
      exact ⟨a, vs, rfl, SqT.of hh, q _ x1 H1 k1 sr1 (it_enumT sr1 ha hh rl)⟩
    | _ => exact q.elim
variable {Δ : SD} {E : EX}
@[simp] theorem wp_enumX {f : M D} {P : List D → SD → Prop} : wp (mEnumX f) Δ (K := ⟨P, E⟩) = wp f Δ (K := ⟨(fun d Δ1 => wp (mOpt (dEnumX d)) Δ1 (K := ⟨P, E⟩)), E⟩) := by
  unfold mEnumX
  repeat (first | rfl | rw [wp_bind] | rw [wp_pure] | refine wp_ext fun _ _ => ?_)
@[simp] theorem dEnumX_lst {ds : List D} : dEnumX (.lst ds) = some (enumD 0 ds) := (rfl)
@[simp] theorem dEnumX_tup {ds : List D} : dEnumX (.tup ds) = some (enumD 0 ds) := (rfl)
end
end DL

namespace DL
open PySem L2 PySem.Spec PyProof.Rows

def dReprX : List D → Option D
  | [.dct []] => some (.str "{}")
  | ds => dRepr ds
def rRepr0 : List V → Hp → VK → Prop := fun xs H Q => ∃ a, xs = [V.ref a] ∧ Rd H a (.dK []) ∧ Q (.str "{}") H
theorem call_repr0 {X : Cx} (hg : X.A.guards = some []) (hu : X.A.units + 64 < cLine) : CallR X (.builtin "repr") rRepr0 := by
  intro pins s σ H xs us Q I r ⟨a, e, hd, q⟩
  subst e
  obtain ⟨u, rfl, rv⟩ := vals1 r
  cases rv
  obtain ⟨_, hns, vs, kv, o, es, ep, ho, ex, hda, _, pr, _⟩ := dk_rd I.hok hd
  have ev : vs = [] := by cases kv; rfl
  subst ev
  have ee : es.toList = [] := by
    revert pr
    generalize es.toList = l
    intro pr
    cases l with
    | nil => rfl
    | cons q l => cases pr
  have rd : Reads s.heap (.ref a) (.dict []) [a] := by
    have z := Reads.dict (h := s.heap) (a := a) (o := o) (es := es) (n := ep) (kvs := []) (as := []) (bs := []) ho ex.1 hda (by rw [ee]; exact .nil) (by rw [ee]; exact .nil)
    exact z
  have hdep : (PyData.dict []).depth ≤ 2 := by decide
  refine repr_of_reads' rd rfl (fun _ hm => ?_) hg (by omega) (fun _ _ e => e) (fun h' u tk hk => ⟨.str "{}", H, I.kept hk, ⟨_, rfl⟩, q⟩) (by decide)
  rw [List.mem_singleton] at hm
  rw [hm] at hns
  simp at hns
theorem call_reprX {X : Cx} (hg : X.A.guards = some []) (hu : X.A.units + 64 < cLine) : CallR X (.builtin "repr") (fun xs H Q => rRepr0 xs H Q ∨ rReprD X.K xs H Q) := (call_repr0 hg hu).or (call_reprD hg hu)
theorem d_reprX {G : Gc} : CaD G (fun xs H Q => rRepr0 xs H Q ∨ rReprD G.K xs H Q) dReprX := by
  intro Av H ds vs Q fr r q
  unfold dReprX at q
  split at q
  · obtain ⟨v, rfl, r1⟩ := rl_one r
    refine .inl ?_
    rcases r1 with r1 | ⟨a, rfl, us, hh, rk⟩
    · unfold Rep at r1
      obtain ⟨a, us, rfl, _, hh, rk⟩ := r1
      unfold RepK at rk
      subst rk
      exact ⟨a, rfl, hh, outV.now (G := G) (Av := Av) q mk_str⟩
    · unfold RepK at rk
      subst rk
      exact ⟨a, rfl, .inl hh, outV.now (G := G) (Av := Av) q mk_str⟩
  · exact .inr (d_repr Av H ds vs Q fr r q)
@[simp] theorem dReprX_lst {x : List D} : dReprX [.lst x] = dRepr [.lst x] := (rfl)
@[simp] theorem dReprX_tup {x : List D} : dReprX [.tup x] = dRepr [.tup x] := (rfl)
@[simp] theorem dReprX_int {x : Int} : dReprX [.int x] = dRepr [.int x] := (rfl)
@[simp] theorem dReprX_str {x : Str} : dReprX [.str x] = dRepr [.str x] := (rfl)
@[simp] theorem dReprX_bl {x : Bool} : dReprX [.bl x] = dRepr [.bl x] := (rfl)
@[simp] theorem dReprX_non : dReprX [.non] = dRepr [.non] := (rfl)
@[simp] theorem dReprX_row {x : List Int} : dReprX [rowD x] = dRepr [rowD x] := (rfl)
@[simp] theorem dReprX_stps {x : List Stp} : dReprX [stpsD x] = dRepr [stpsD x] := (rfl)
theorem dReprX_of {d z : D} (h : dRepr [d] = some z) : dReprX [d] = some z := by
  unfold dReprX
  split
  · rename_i e
    cases e
    cases h
  · exact h

/-- one thing with itself -/
theorem eqD_self {d : D} {p : PyData} (e : toPy d = some p) (h : p.depth ≤ 64) : eqD d d = some true := by
  have k : eqP d d = some true := by
    unfold eqP
    rw [e]
    dsimp only
    rw [if_pos ⟨h, h⟩, SeqAt.eqv_refl p (canLay_of e)]
  cases d with
  | str x => simp
  | _ => exact k
theorem toPyL_some {ds : List D} (h : ∀ d ∈ ds, ∃ p, toPy d = some p ∧ p.depth ≤ 10) : ∃ ps, toPyL ds = some ps ∧ PyData.depthAll ps ≤ 10 := by
  induction ds with
  | nil => exact ⟨[], rfl, Nat.zero_le _⟩
  | cons d ds ih =>
    obtain ⟨p, e, hp⟩ := h d (List.mem_cons_self ..)
    obtain ⟨ps, es, hps⟩ := ih fun x hx => h x (List.mem_cons_of_mem _ hx)
    exact ⟨p :: ps, by simp [toPyL, e, es], by simp only [PyData.depthAll]; omega⟩
theorem eqD_selfL {ds : List D} (h : ∀ d ∈ ds, ∃ p, toPy d = some p ∧ p.depth ≤ 10) : eqD (.lst ds) (.lst ds) = some true := by
  obtain ⟨ps, e, hd⟩ := toPyL_some h
  exact eqD_self (p := .list ps) (by simp [toPy, e]) (by simp only [PyData.depth]; omega)
theorem py_str {x : Str} (h : PyData.strOk x = true) : ∃ p, toPy (.str x) = some p ∧ p.depth ≤ 10 := ⟨.str x, by simp [toPy, h], by simp [PyData.depth]⟩
theorem py_bl {b : Bool} : ∃ p, toPy (.bl b) = some p ∧ p.depth ≤ 10 := ⟨.bool b, rfl, by simp [PyData.depth]⟩
theorem py_int {i : Int} : ∃ p, toPy (.int i) = some p ∧ p.depth ≤ 10 := ⟨.int i, rfl, by simp [PyData.depth]⟩

/-! ### answers of closed calls, by the kernel -/
def okBl (b : Bool) : RD → Bool
  | .ok (.bl x) _ [] => x == b
  | _ => false
theorem okBl_wp {b : Bool} {r : RD} (h : okBl b r = true) : wpR r (K := ⟨Is (.bl b), noF⟩) := by
  unfold okBl at h
  split at h
  · rename_i x fr
    have e : x = b := by simpa using h
    subst e
    unfold wpR
    exact ⟨rfl, rfl⟩
  · cases h
/-- the text of closed data -/
def reprOf (d : D) : Str := match dReprX [d] with
  | some (.str z) => z
  | _ => Str.empty
def reprB (d : D) : Bool := match dReprX [d] with
  | some (.str z) => z.cps.toList.all (fun k => decide (k < 0x110000))
  | _ => false
theorem reprB_ok {d : D} (h : reprB d = true) : dReprX [d] = some (.str (reprOf d)) ∧ PyData.strOk (reprOf d) = true := by
  unfold reprB at h
  unfold reprOf
  split at h
  · rename_i z e
    rw [e]
    refine ⟨rfl, ?_⟩
    unfold PyData.strOk
    rw [← Array.all_toList]
    exact h
  · cases h

/-! texts whose signs are signs -/
theorem ok_app {a b : Str} : PyData.strOk (a ++ b) = (PyData.strOk a && PyData.strOk b) := by
  unfold PyData.strOk
  rw [← Array.all_toList, ← Array.all_toList, ← Array.all_toList]
  have e : (a ++ b).cps.toList = a.cps.toList ++ b.cps.toList := by
    show (a.cps ++ b.cps).toList = _
    rw [Array.toList_append]
  rw [e, List.all_append]
theorem ok_string (x : String) : PyData.strOk (x : Str) = true := by
  unfold PyData.strOk
  rw [← Array.all_toList, List.all_eq_true]
  intro k hk
  rw [Str.ofString_eq_toList] at hk
  have e : k ∈ x.toList.map Char.toNat := by simpa using hk
  obtain ⟨c, _, rfl⟩ := List.mem_map.mp e
  have v := c.valid
  refine decide_eq_true ?_
  rcases v with v | v
  · exact Nat.lt_trans v (by decide)
  · exact v.2
theorem ok_from : ∀ (ts : List Str) (k : Nat) (acc : Str), PyData.strOk acc = true → (∀ t ∈ ts, PyData.strOk t = true) → PyData.strOk (textFrom k acc ts) = true
  | [], _, _, h, _ => h
  | t :: ts, k, acc, h, ht => ok_from ts (k + 1) _ (by rw [ok_app, ok_app, h, ht t (List.mem_cons_self ..), ok_string]; rfl) fun u hu => ht u (List.mem_cons_of_mem _ hu)
theorem ok_list {ts : List Str} (h : ∀ t ∈ ts, PyData.strOk t = true) : PyData.strOk (listText ts) = true := by
  unfold listText
  rw [ok_app, ok_from ts 0 _ (ok_string _) h, ok_string]
  rfl
theorem ok_join : ∀ {ts : List Str}, (∀ t ∈ ts, PyData.strOk t = true) → PyData.strOk (Str.join ", " ts) = true
  | [], _ => by decide +kernel
  | [x], h => h x (List.mem_cons_self ..)
  | x :: y :: r, h => by
    show PyData.strOk (x ++ ", " ++ Str.join ", " (y :: r)) = true
    rw [ok_app, ok_app, h x (List.mem_cons_self ..), ok_string, ok_join fun t ht => h t (List.mem_cons_of_mem _ ht)]
    rfl
theorem ok_tup {ts : List Str} (h : ∀ t ∈ ts, PyData.strOk t = true) : PyData.strOk (tupleText ts) = true := by
  unfold tupleText
  rw [ok_app, ok_app, ok_string, ok_join h, ok_string]
  rfl
mutual
/-- every text within is shown by signs -/
def txs : D → Bool
  | .str x => PyData.strOk (reprText x)
  | .lst ds => txsL ds
  | .tup ds => txsL ds
  | _ => true
def txsL : List D → Bool
  | [] => true
  | d :: ds => txs d && txsL ds
end
mutual
theorem txs_shown : ∀ {d : D} {p : PyData}, toPy d = some p → txs d = true → PyData.strOk p.shown = true
  | .non, p, e, _ => by cases e; exact ok_string _
  | .bl b, p, e, _ => by cases e; cases b <;> exact ok_string _
  | .int i, p, e, _ => by cases e; exact ok_string _
  | .str x, p, e, h => by
    simp only [toPy] at e
    split at e
    · cases e; simpa only [PyData.shown, txs] using h
    · cases e
  | .lst xs, p, e, h => by
    simp only [toPy, Option.map_eq_some_iff] at e
    obtain ⟨ps, e1, rfl⟩ := e
    simp only [PyData.shown]
    exact ok_list (txsL_shown e1 (by simpa only [txs] using h))
  | .tup xs, p, e, h => by
    simp only [toPy, Option.map_eq_some_iff] at e
    obtain ⟨ps, e1, rfl⟩ := e
    simp only [PyData.shown]
    exact ok_tup (txsL_shown e1 (by simpa only [txs] using h))
  | .dct _, p, e, _ => by cases e
  | .dcT _, p, e, _ => by cases e
  | .dcN _, p, e, _ => by cases e
  | .obj _ _, p, e, _ => by cases e
  | .scr _, p, e, _ => by cases e
  | .cls _, p, e, _ => by cases e
  | .ty _, p, e, _ => by cases e
theorem txsL_shown : ∀ {ds : List D} {ps : List PyData}, toPyL ds = some ps → txsL ds = true → ∀ t ∈ PyData.shownAll ps, PyData.strOk t = true
  | [], ps, e, _, t, ht => by cases e; exact nomatch ht
  | d :: ds, ps, e, h, t, ht => by
    simp only [toPyL, Option.bind_eq_some_iff, Option.map_eq_some_iff] at e
    obtain ⟨p, e1, qs, e2, rfl⟩ := e
    simp only [txsL, Bool.and_eq_true] at h
    simp only [PyData.shownAll, List.mem_cons] at ht
    rcases ht with rfl | ht
    · exact txs_shown e1 h.1
    · exact txsL_shown e2 h.2 t ht
end
/-- data has a text, of signs -/
def ReprG (d : D) : Prop := ∃ z, dReprX [d] = some (.str z) ∧ PyData.strOk z = true
theorem dRepr_okS {d : D} {z : Str} (h : dRepr [d] = some (.str z)) (ho : txs d = true) : PyData.strOk z = true := by
  have h' : (toPy d).bind (fun p => if reprOk p = true then some (D.str p.shown) else none) = some (.str z) := h
  rw [Option.bind_eq_some_iff] at h'
  obtain ⟨p, e, h2⟩ := h'
  split at h2
  · cases h2; exact txs_shown e ho
  · cases h2
/-- .. of plain data, by sizes -/
def bigB (d : D) : Bool := Pl 20 d && shD d && decide (wt d ≤ lim) && txs d
def reprGB (d : D) : Bool := bigB d || reprB d
theorem reprGB_ok {d : D} (h : reprGB d = true) : ReprG d := by
  unfold reprGB at h
  rw [Bool.or_eq_true] at h
  rcases h with h | h
  · unfold bigB at h
    simp only [Bool.and_eq_true, decide_eq_true_eq] at h
    obtain ⟨⟨⟨h1, h2⟩, h3⟩, h4⟩ := h
    obtain ⟨z, hz⟩ := repr_pl (by omega) h1 h2 h3
    refine ⟨z, dReprX_of hz, ?_⟩
    cases d with
    | dct _ => cases hz
    | _ => exact dRepr_okS hz h4
  · obtain ⟨a, b⟩ := reprB_ok h
    exact ⟨_, a, b⟩
/-! ### comprehensions over typed things, with a test -/
theorem wp_turns_filtA {α : Type} {Δ : SD} {E : EX} {vs : List Nat} {t : D → M Unit} {ft : M Bool} {fe : M D} {xs : List α} {cv : α → D} {P : List D → SD → Prop} (F : α → Bool) (G : α → D)
    (step : ∀ a ∈ xs, wp (t (cv a)) (wipeD Δ vs) (K := ⟨(fun _ Δ1 => wp ft Δ1 (K := ⟨(fun b Δ2 => b = F a ∧ (F a = true → wp fe Δ2 (K := ⟨(fun e Δ3 => e = G a ∧ wipeD Δ3 vs = wipeD Δ vs), E⟩)) ∧ (F a = false → wipeD Δ2 vs = wipeD Δ vs)), E⟩)), noE⟩))
    (fin : P ((xs.filter F).map G) (wipeD Δ vs)) : wp (mTurns vs t ft fe (xs.map cv)) Δ (K := ⟨P, E⟩) := by
  refine wp_turns_inv (fun i acc Δ' => i ≤ xs.length ∧ acc = ((xs.take i).filter F).map G ∧ Δ' = wipeD Δ vs) ⟨Nat.zero_le _, rfl, rfl⟩ (fun i d acc Δ' hd q => ?_) (fun acc Δ' q => ?_)
  · obtain ⟨hi, rfl, rfl⟩ := q
    rw [List.getElem?_map] at hd
    obtain ⟨a, ha, rfl⟩ := Option.map_eq_some_iff.mp hd
    have hlt := (List.getElem?_eq_some_iff.mp ha).1
    have hm : a ∈ xs := List.mem_of_getElem? ha
    have et : xs.take (i + 1) = xs.take i ++ [a] := by
      rw [List.take_add_one, ha]; rfl
    refine wp_mono (step a hm) (fun _ Δ1 q => wp_mono q (fun b Δ2 q2 => ?_) fun _ _ _ z => z) fun _ _ _ z => z
    obtain ⟨rfl, q3, q4⟩ := q2
    cases hF : F a with
    | true =>
      rw [if_pos rfl]
      refine wp_mono (q3 hF) (fun e Δ3 q5 => ⟨hlt, ?_, q5.2⟩) fun _ _ _ z => z
      rw [et, List.filter_append, List.map_append, q5.1]
      simp [hF]
    | false =>
      rw [if_neg (by simp)]
      refine ⟨hlt, ?_, q4 hF⟩
      rw [et, List.filter_append, List.map_append]
      simp [hF]
  · obtain ⟨_, rfl, rfl⟩ := q
    rw [List.length_map, List.take_length]
    exact fin

/-! ### sizes of data that is shown -/
def Cz (n w : Nat) (d : D) : Prop := Pl n d = true ∧ shD d = true ∧ wt d ≤ w
theorem cz_all {n w : Nat} {ds : List D} (h : ∀ d ∈ ds, Cz n w d) : ds.all (Pl n) = true ∧ shL ds = true ∧ wtL ds ≤ ds.length * (w + 2) := by
  induction ds with
  | nil => exact ⟨rfl, rfl, Nat.zero_le _⟩
  | cons d ds ih =>
    obtain ⟨a1, a2, a3⟩ := ih fun x hx => h x (List.mem_cons_of_mem _ hx)
    obtain ⟨b1, b2, b3⟩ := h d (List.mem_cons_self ..)
    refine ⟨by rw [List.all_cons, b1, a1]; rfl, by simp only [shL, b2, a2]; rfl, ?_⟩
    simp only [wtL, List.length_cons, Nat.succ_mul]
    omega
theorem cz_lst {n w m k : Nat} {ds : List D} (h : ∀ d ∈ ds, Cz n w d) (hl : ds.length ≤ m) (hk : m * (w + 2) + 4 ≤ k) : Cz (n + 1) k (.lst ds) := by
  obtain ⟨a1, a2, a3⟩ := cz_all h
  have h2 : ds.length * (w + 2) ≤ m * (w + 2) := Nat.mul_le_mul_right _ hl
  exact ⟨a1, by simpa only [shD] using a2, by simp only [wt]; omega⟩
theorem cz_tup {n w m k : Nat} {ds : List D} (h : ∀ d ∈ ds, Cz n w d) (hl : ds.length ≤ m) (hk : m * (w + 2) + 4 ≤ k) : Cz (n + 1) k (.tup ds) := by
  obtain ⟨a1, a2, a3⟩ := cz_all h
  have h2 : ds.length * (w + 2) ≤ m * (w + 2) := Nat.mul_le_mul_right _ hl
  exact ⟨a1, by simpa only [shD] using a2, by simp only [wt]; omega⟩
theorem pl_up {n : Nat} {d : D} (h : Pl n d = true) : Pl (n + 1) d = true := by
  induction n generalizing d with
  | zero => cases d <;> first | exact h | cases h
  | succ n ih =>
    cases d with
    | lst ds =>
      have h' : ds.all (Pl n) = true := h
      show ds.all (Pl (n + 1)) = true
      rw [List.all_eq_true] at h' ⊢
      exact fun x hx => ih (h' x hx)
    | tup ds =>
      have h' : ds.all (Pl n) = true := h
      show ds.all (Pl (n + 1)) = true
      rw [List.all_eq_true] at h' ⊢
      exact fun x hx => ih (h' x hx)
    | _ => exact h
theorem Cz.up {n w k : Nat} {d : D} (h : Cz n w d) (hk : w ≤ k) : Cz (n + 1) k d := ⟨pl_up h.1, h.2.1, Nat.le_trans h.2.2 hk⟩
theorem Cz.le {n w k : Nat} {d : D} (h : Cz n w d) (hk : w ≤ k) : Cz n k d := ⟨h.1, h.2.1, Nat.le_trans h.2.2 hk⟩
theorem Cz.repr {n w : Nat} {d : D} (h : Cz n w d) (hn : n ≤ 50 := by omega) (hw : w ≤ lim := by decide) : ∃ x, dRepr [d] = some (.str x) := repr_pl hn h.1 h.2.1 (Nat.le_trans h.2.2 hw)
theorem cz_int {i : Int} (h : 0 ≤ i ∧ i < 10 ^ 30) : Cz 0 110 (.int i) := by
  have z := log_nb h
  exact ⟨rfl, by simp only [shD]; exact decide_eq_true (by omega), by simp only [wt]; omega⟩
theorem cz_non : Cz 0 110 .non := ⟨rfl, rfl, by decide⟩
theorem cz_word {x : Str} (h : x = "put" ∨ x = "take" ∨ x = "left" ∨ x = "right") : Cz 0 110 (.str x) := by
  rcases h with rfl | rfl | rfl | rfl <;> exact ⟨by show PyData.strOk _ = true; simp, rfl, by decide +kernel⟩
theorem cz_row {m k : Nat} {r : List Int} (h : Nb r) (hl : r.length ≤ m) (hk : m * 112 + 4 ≤ k) : Cz 1 k (rowD r) := cz_lst (n := 0) (w := 110) (m := m) (fun d hd => by
  obtain ⟨i, hi, rfl⟩ := List.mem_map.mp hd
  exact cz_int (h i hi)) (by simpa using hl) hk
theorem cz_st {s : Stp} (h : 0 ≤ s.n ∧ s.n < 10 ^ 30) : Cz 1 340 (stD s) := cz_tup (n := 0) (w := 110) (m := 3) (fun d hd => by
  simp only [List.mem_cons, List.not_mem_nil, or_false] at hd
  rcases hd with rfl | rfl | rfl
  · exact cz_word (by cases s.put <;> simp)
  · exact cz_word (by cases s.left <;> simp)
  · exact cz_int h) (by simp) (by omega)
theorem cz_stps {m k : Nat} {ss : List Stp} (h : ∀ s ∈ ss, 0 ≤ s.n ∧ s.n < 10 ^ 30) (hl : ss.length ≤ m) (hk : m * 342 + 4 ≤ k) : Cz 2 k (stpsD ss) := cz_lst (n := 1) (w := 340) (m := m) (fun d hd => by
  obtain ⟨s, hs, rfl⟩ := List.mem_map.mp hd
  exact cz_st (h s hs)) (by simpa using hl) hk

theorem pl_st {s : Stp} : Pl 1 (stD s) = true := by
  obtain ⟨p, l, n⟩ := s
  cases p <;> cases l <;> simp [stD, Pl, Sc]
theorem pl_stps {ss : List Stp} : Pl 2 (stpsD ss) = true := by
  show (ss.map stD).all (Pl 1) = true
  rw [List.all_eq_true]
  intro d hd
  obtain ⟨s, _, rfl⟩ := List.mem_map.mp hd
  exact pl_st
theorem pl_all {α : Type} {n : Nat} {f : α → D} (h : ∀ a, Pl n (f a) = true) {xs : List α} : (xs.map f).all (Pl n) = true := by
  rw [List.all_eq_true]
  intro d hd
  obtain ⟨a, _, rfl⟩ := List.mem_map.mp hd
  exact h a
theorem atI_in {α β : Type} {f : α → β} {xs : List α} {r : Int} (h0 : 0 ≤ r) (h1 : r < xs.length) : ∃ a ∈ xs, atI (xs.map f) r = some (f a) := by
  obtain ⟨j, rfl⟩ := Int.eq_ofNat_of_zero_le h0
  have hj : j < xs.length := by simpa using h1
  refine ⟨xs[j], List.getElem_mem hj, ?_⟩
  have e := atI_nat (xs := xs.map f) (n := j) (by simpa using hj)
  simpa using e
/-! ### rows under steps -/
theorem stepped_all {Q : Int → Prop} {r r' : List Int} {s : Stp} (h : ∀ x ∈ r, Q x) (hs : Q s.n) (e : stepped r s = some r') : ∀ x ∈ r', Q x := by
  unfold stepped at e
  split at e
  · cases e
    split
    · intro x hx
      rcases List.mem_cons.mp hx with rfl | hx
      · exact hs
      · exact h x hx
    · intro x hx
      rcases List.mem_append.mp hx with hx | hx
      · exact h x hx
      · rw [List.mem_singleton] at hx; rw [hx]; exact hs
  · split at e
    · split at e
      · cases e
      · split at e
        · cases e; exact fun x hx => h x (List.mem_cons_of_mem _ hx)
        · cases e
    · split at e
      · cases e
      · split at e
        · cases e; exact fun x hx => h x (List.dropLast_subset _ hx)
        · cases e
theorem runS_all {Q : Int → Prop} : ∀ {ss : List Stp} {r r' : List Int}, (∀ x ∈ r, Q x) → (∀ s ∈ ss, Q s.n) → runS r ss = some r' → ∀ x ∈ r', Q x
  | [], r, r', h, _, e => by cases e; exact h
  | s :: ss, r, r', h, hs, e => by
    rw [runS, Option.bind_eq_some_iff] at e
    obtain ⟨r1, e1, e2⟩ := e
    exact runS_all (stepped_all h (hs s (List.mem_cons_self ..)) e1) (fun x hx => hs x (List.mem_cons_of_mem _ hx)) e2
theorem runS_len : ∀ {ss : List Stp} {r r' : List Int}, runS r ss = some r' → r'.length ≤ r.length + ss.length
  | [], r, r', e => by cases e; exact Nat.le_refl _
  | s :: ss, r, r', e => by
    rw [runS, Option.bind_eq_some_iff] at e
    obtain ⟨r1, e1, e2⟩ := e
    have h1 := stepped_len e1
    have h2 := runS_len e2
    simp only [List.length_cons]
    omega
/-- the law's answer, from what is wanted of it -/
theorem law_key {f : List D → RD} {ns : List Int} (h : wpR (f [.scr ns]) (K := ⟨Is (.bl true), noF⟩)) : ∃ fr, f [.scr ns] = .ok (.bl true) fr [] := by
  unfold wpR at h
  cases hr : f [.scr ns] with
  | ok d fr es => rw [hr] at h; obtain ⟨rfl, rfl⟩ := h; exact ⟨fr, rfl⟩
  | ex n d es => rw [hr] at h; exact h.elim
  | bad => rw [hr] at h; exact h.elim
end DL

namespace DL
open PySem L2
section
variable {α : Type} {Δ : SD} {E : EX}
@[simp] theorem wp_setF {i : Nat} {n f : Str} {fe : M D} {P : Fl → SD → Prop} : wp (mSetF i n f fe) Δ (K := ⟨P, E⟩) = wp fe Δ (K := ⟨(fun v Δ1 => wp (mHold (isObjD n) i) Δ1 (K := ⟨(fun _ Δ2 => wp (mUpd i (gSetF f v)) Δ2 (K := ⟨(fun _ Δ3 => P .nx Δ3), E⟩)), E⟩)), E⟩) := by
  unfold mSetF
  repeat (first | rfl | rw [wp_bind] | rw [wp_pure] | rw [wp_nx] | refine wp_ext fun _ _ => ?_)
@[simp] theorem isObjD_obj {n m : Str} {fs : List (Str × D)} : isObjD n (.obj m fs) = (decide (m = n) && decide (fs.length < 100)) := (rfl)
@[simp] theorem gSetF_obj {n f : Str} {v : D} {fs : List (Str × D)} : gSetF f v (.obj n fs) = some ((), .obj n (putFD f v fs)) := (rfl)
@[simp] theorem wp_noX {f : M α} {P : α → SD → Prop} : wp (mNoX f) Δ (K := ⟨P, E⟩) = wp f Δ (K := ⟨P, noE⟩) := by
  unfold wp mNoX
  cases f Δ <;> rfl
@[simp] theorem wp_chk {b : Bool} {P : Unit → SD → Prop} : wp (mOpt (if b = true then some () else none)) Δ (K := ⟨P, E⟩) = (b = true ∧ P () Δ) := by
  cases b <;> simp
@[simp] theorem wp_mmeth {n m : Str} {np : Nat} {io : List Nat} {g : List D → RD} {fo : M AK} {fs : M (List AK)} {P : D → SD → Prop} : wp (mMeth n m np io g fo fs) Δ (K := ⟨P, E⟩) = wp fo Δ (K := ⟨(fun a Δ1 => wp (mGet a) Δ1 (K := ⟨(fun d Δ2 => chkO n m d = true ∧ wp fs Δ2 (K := ⟨(fun as Δ3 => wp (callRes np io g (a :: as)) Δ3 (K := ⟨(fun r Δ4 => P r.1 Δ4), E⟩)), E⟩)), E⟩)), E⟩) := by
  unfold mMeth
  rw [wp_bind]; refine wp_ext fun a Δ1 => ?_
  rw [wp_bind]; refine wp_ext fun d Δ2 => ?_
  rw [wp_bind, wp_chk]
  congr 1
  repeat (first | rfl | rw [wp_bind] | rw [wp_pure] | rw [wp_nx] | refine wp_ext fun _ _ => ?_)
@[simp] theorem wp_mmethN {n m : Str} {np : Nat} {io : List Nat} {g : List D → RD} {fo : M AK} {fs : M (List AK)} {P : D → SD → Prop} : wp (mMethN n m np io g fo fs) Δ (K := ⟨P, E⟩) = wp fo Δ (K := ⟨(fun a Δ1 => wp (mGet a) Δ1 (K := ⟨(fun d Δ2 => chkO n m d = true ∧ wp fs Δ2 (K := ⟨(fun as Δ3 => wp (callRes np io g (a :: as)) Δ3 (K := ⟨(fun r Δ4 => r.2 = true ∧ P r.1 Δ4), E⟩)), E⟩)), E⟩)), E⟩) := by
  unfold mMethN
  rw [wp_bind]; refine wp_ext fun a Δ1 => ?_
  rw [wp_bind]; refine wp_ext fun d Δ2 => ?_
  rw [wp_bind, wp_chk]
  congr 1
  rw [wp_bind]; refine wp_ext fun as Δ3 => ?_
  rw [wp_bind]; refine wp_ext fun r Δ4 => ?_
  cases r.2 <;> simp
@[simp] theorem wp_mprop {n : Str} {io : List Nat} {g : List D → RD} {fo : M AK} {P : D → SD → Prop} : wp (mProp n io g fo) Δ (K := ⟨P, E⟩) = wp fo Δ (K := ⟨(fun a Δ1 => wp (mGet a) Δ1 (K := ⟨(fun d Δ2 => chkC n d = true ∧ wp (callRes 1 io g [a]) Δ2 (K := ⟨(fun r Δ4 => P r.1 Δ4), noE⟩)), E⟩)), E⟩) := by
  unfold mProp
  rw [wp_bind]; refine wp_ext fun a Δ1 => ?_
  rw [wp_bind]; refine wp_ext fun d Δ2 => ?_
  rw [wp_bind, wp_chk, wp_bind, wp_noX]
  congr 1
  refine wp_ext fun r Δ4 => ?_
  rw [wp_pure]
@[simp] theorem wp_mpropN {n : Str} {io : List Nat} {g : List D → RD} {fo : M AK} {P : D → SD → Prop} : wp (mPropN n io g fo) Δ (K := ⟨P, E⟩) = wp fo Δ (K := ⟨(fun a Δ1 => wp (mGet a) Δ1 (K := ⟨(fun d Δ2 => chkC n d = true ∧ wp (callRes 1 io g [a]) Δ2 (K := ⟨(fun r Δ4 => r.2 = true ∧ P r.1 Δ4), noE⟩)), E⟩)), E⟩) := by
  unfold mPropN
  rw [wp_bind]; refine wp_ext fun a Δ1 => ?_
  rw [wp_bind]; refine wp_ext fun d Δ2 => ?_
  rw [wp_bind, wp_chk, wp_bind, wp_noX]
  congr 1
  refine wp_ext fun r Δ4 => ?_
  cases r.2 <;> simp
theorem wp_mlenO {n : Str} {g : List D → RD} {fo : M AK} {P : D → SD → Prop} : wp (mLenO n g fo) Δ (K := ⟨P, E⟩) = wp fo Δ (K := ⟨(fun a Δ1 => wp (mGet a) Δ1 (K := ⟨(fun d Δ2 => chkC n d = true ∧ wp (callRes 1 [] g [a]) Δ2 (K := ⟨(fun r Δ4 => wp (mOpt (lenD r.1)) Δ4 (K := ⟨P, E⟩)), noE⟩)), E⟩)), E⟩) := by
  unfold mLenO
  rw [wp_bind]; refine wp_ext fun a Δ1 => ?_
  rw [wp_bind]; refine wp_ext fun d Δ2 => ?_
  rw [wp_bind, wp_chk, wp_bind, wp_noX]
@[simp] theorem chkO_obj {n m k : Str} {fs : List (Str × D)} : chkO n m (.obj k fs) = (decide (k = n) && (fs.lookup m).isNone) := (rfl)
@[simp] theorem chkC_obj {n k : Str} {fs : List (Str × D)} : chkC n (.obj k fs) = decide (k = n) := (rfl)
@[simp] theorem dFld_obj {n f k : Str} {fs : List (Str × D)} : dFld n f (.obj k fs) = if k = n then fs.lookup f else none := (rfl)
@[simp] theorem wp_cm {n : Str} {np : Nat} {io : List Nat} {g : List D → RD} {fs : M (List AK)} {P : D → SD → Prop} : wp (mCm n np io g fs) Δ (K := ⟨P, E⟩) = wp fs Δ (K := ⟨(fun as Δ1 => wp (callRes np io g (.v (.cls n) :: as)) Δ1 (K := ⟨(fun r Δ2 => P r.1 Δ2), E⟩)), E⟩) := by
  unfold mCm
  repeat (first | rfl | rw [wp_bind] | rw [wp_pure] | rw [wp_nx] | refine wp_ext fun _ _ => ?_)
@[simp] theorem wp_cmN {n : Str} {np : Nat} {io : List Nat} {g : List D → RD} {fs : M (List AK)} {P : D → SD → Prop} : wp (mCmN n np io g fs) Δ (K := ⟨P, E⟩) = wp fs Δ (K := ⟨(fun as Δ1 => wp (callRes np io g (.v (.cls n) :: as)) Δ1 (K := ⟨(fun r Δ2 => r.2 = true ∧ P r.1 Δ2), E⟩)), E⟩) := by
  unfold mCmN
  rw [wp_bind]; refine wp_ext fun a Δ1 => ?_
  rw [wp_bind]; refine wp_ext fun r Δ2 => ?_
  cases r.2 <;> simp
/-- what is wanted of an __init__ -/
def MkK (P : D → SD → Prop) (Δ : SD) (d : D) (fr : Bool) (es : List D) : Prop := d = .non ∧ fr = false ∧ ∃ o, es = [o] ∧ P o Δ
def MkE (E : EX) (Δ : SD) (m : Str) (d : Option D) (es : List D) : Prop := ∃ o, es = [o] ∧ E m d Δ
@[simp] theorem wp_makeRes {n : Str} {np : Nat} {g : List D → RD} {as : List AK} {P : D → SD → Prop} : wp (mMakeRes n np g as) Δ (K := ⟨P, E⟩) = (as.length + 1 = np ∧ onArgs (callArgs [] Δ 1 as) (K := ⟨fun ds ls => wpR (g (.obj n [] :: ds)) (K := ⟨MkK P Δ, MkE E Δ⟩)⟩)) := by
  unfold wp mMakeRes
  by_cases h : as.length + 1 = np
  case neg => simp [h]
  rw [if_pos h]
  cases e : callArgs [] Δ 1 as with
  | none => simp [onArgs]
  | some r =>
    obtain ⟨ds, ls⟩ := r
    simp only [onArgs, h, true_and]
    unfold wpR MkK MkE
    dsimp only
    cases e2 : g (.obj n [] :: ds) with
    | bad => rfl
    | ex m d es =>
      cases es with
      | nil => simp
      | cons o es => cases es <;> simp
    | ok d fr es =>
      cases d <;> cases fr <;> (cases es with
        | nil => simp
        | cons o es => cases es <;> simp)
@[simp] theorem wp_make {n : Str} {np : Nat} {g : List D → RD} {fs : M (List AK)} {P : D → SD → Prop} : wp (mMake n np g fs) Δ (K := ⟨P, E⟩) = wp fs Δ (K := ⟨(fun as Δ1 => wp (mMakeRes n np g as) Δ1 (K := ⟨P, E⟩)), E⟩) := by
  unfold mMake
  rw [wp_bind]
def isClsD (n : Str) : D → Bool
  | .cls m => decide (m = n)
  | _ => false
@[simp] theorem isClsD_cls {n m : Str} : isClsD n (.cls m) = decide (m = n) := (rfl)
@[simp] theorem wp_slotC {i : Nat} {n : Str} {P : Unit → SD → Prop} : wp (mMakeL.mSlotC i n) Δ (K := ⟨P, E⟩) = onSh Δ[i]? (K := ⟨fun d => isClsD n d = true ∧ P () Δ⟩) := by
  unfold wp mMakeL.mSlotC onSh
  cases Δ[i]? with
  | none => rfl
  | some z =>
    cases z with
    | un => rfl
    | ow d => rfl
    | sh d =>
      cases d with
      | cls m =>
        by_cases h : m = n <;> simp [h]
      | _ => simp [isClsD]
@[simp] theorem wp_makeL {n : Str} {np : Nat} {g : List D → RD} {i : Nat} {fs : M (List AK)} {P : D → SD → Prop} : wp (mMakeL n np g i fs) Δ (K := ⟨P, E⟩) = wp (mMakeL.mSlotC i n) Δ (K := ⟨(fun _ Δ1 => wp fs Δ1 (K := ⟨(fun as Δ2 => wp (mMakeRes n np g as) Δ2 (K := ⟨P, E⟩)), E⟩)), E⟩) := by
  unfold mMakeL
  repeat (first | rfl | rw [wp_bind] | rw [wp_pure] | rw [wp_nx] | refine wp_ext fun _ _ => ?_)
theorem lenD_int {i : Int} : lenD (.int i) = if 0 ≤ i ∧ i < 2 ^ 60 then some (.int i) else none := (rfl)
theorem lenD_nat {n : Nat} (h : n ≤ 1000000) : lenD (.int (n : Nat)) = some (.int (n : Nat)) := by
  have a : (1000000 : Int) < 2 ^ 60 := by decide +kernel
  have b : (n : Int) < 2 ^ 60 := Int.lt_of_le_of_lt (Int.ofNat_le.mpr h) a
  have c : 0 ≤ (n : Int) := Int.natCast_nonneg n
  rw [lenD_int, if_pos (And.intro c b)]
end
theorem eqD_rowO {a b : Option (List Int)} : eqD (rowO a) (rowO b) = some (decide (a = b)) := by
  cases a with
  | none =>
    cases b with
    | none =>
      show eqD .non .non = _
      rw [eqD_pl (n := 1) (by omega) rfl rfl]; simp [eqB]
    | some b =>
      show eqD .non (rowD b) = _
      rw [eqD_pl (n := 1) (by omega) rfl pl_row]; simp [eqB, rowD]
  | some a =>
    cases b with
    | none =>
      show eqD (rowD a) .non = _
      rw [eqD_pl (n := 1) (by omega) pl_row rfl]; simp [eqB, rowD]
    | some b => simp only [rowO, eqD_row]; simp
@[simp] theorem eqD_rowO' {a b : Option (List Int)} : eqD (rowO a) (rowO b) = some (decide (a = b)) := eqD_rowO
@[simp] theorem isNon_rowO' {o : Option (List Int)} : isNon (rowO o) = o.isNone := by cases o <;> rfl
end DL

namespace DL
open PySem L2 PySem.Spec PyProof.Rows

section
variable {prog : Program} {w : World} {A : Around} {E : Value → Shared → Prop} {s : Shared} {l : Addr} {its : List Value} {ns : List Int} {d : Value} {Q : Value → Shared → Prop}
theorem max_rawD (hh : A.handled = none) (hl : s.heap.IsList l its.toArray) (hi : IntsAre its ns)
    (h0 : ns = [] → ∀ h' tk, (∀ b o, s.heap.get? b = some o → h'.get? b = some o) → Q d { s with heap := h', toks := tk })
    (h : 0 < ns.length → ∀ h' tk M t', (∀ b o, s.heap.get? b = some o → h'.get? b = some o) → M ∈ ns → (∀ a, a ∈ ns → a ≤ M) → Q (.int M t') { s with heap := h', toks := tk }) :
    wpAny (model prog w) A (call (.builtin "max") [.ref l] [(Str.ofString "default", d)]) Q E s := by
  obtain ⟨xs, e⟩ := hi.allInts.items
  have hn : numsOf (intItems xs).toList = ns := by rw [← e]; exact hi.numsOf
  rw [nums_intItems] at hn
  subst hn
  rw [e] at hl
  have hs : (intItems xs).size = xs.size := by simp [intItems]
  refine call_max_walkD (PySem.W.iter_listW (A := A.in1) hh hl fun s₂ e W st hfp hw hk => ?_)
  refine ⟨_, _, _, _, _, _, _, s.heap, (fun i j => decide (numAt xs i > numAt xs j)), rfl, W, st, hfp, hw, hk, fun hz s' m => ?_, fun hp => ⟨fun i j vi vj s Q E _ hi hj h => CmpOf.ints_gt (numAt xs) (fun _ _ => intItems_at) i j vi vj s Q E hi hj h, fun v s' hP m => ?_⟩⟩
  · obtain ⟨h', tk, rfl, hk'⟩ := PySem.W.moved_old e rfl m
    refine h0 ?_ h' tk hk'
    rw [hs] at hz
    have : xs = #[] := Array.eq_empty_of_size_eq_zero hz
    rw [this]; rfl
  · obtain ⟨h', tk, rfl, hk'⟩ := PySem.W.moved_old e rfl m
    rw [hs] at hP hp
    obtain ⟨t, rfl⟩ := intItems_at hP
    obtain ⟨h1, h2⟩ := argBest_gt (numAt xs) (xs.size - 1)
    refine h (by rw [List.length_map, Array.length_toList]; exact hp) h' tk _ t hk' ?_ fun a ha => ?_
    · rw [numAt_eq]; exact PySem.getD_mem (by rw [List.length_map, Array.length_toList]; omega)
    · obtain ⟨j, hj, rfl⟩ := mem_getD ha
      rw [List.length_map, Array.length_toList] at hj
      rw [← numAt_eq]; exact h2 j (by omega)
end

/-- max(xs, default=d), xs a list of ints -/
def rMaxK (K : PySem.W.Frag) : V → V → Hp → VK → Prop := fun v d H Q => ∃ (a : Addr) (ns : List Int), v = V.ref a ∧ SqL K H a (ns.map V.int) ∧ (ns = [] → Q d H) ∧ (0 < ns.length → ∀ m, m ∈ ns → (∀ y, y ∈ ns → y ≤ m) → Q (.int m) H)
section
variable {X : Cx} {x : Str} {p pos kpos : Pos} {e d : Expr} {te td : TE}
theorem pe_maxK (hc : X.calm = true) (hg : Gl X x) (hm : X.mg x = none) (hv : bootBuiltins x = some (.builtin "max")) (ha : PE X e te) (hd : PE X d td) (hn : x ≠ "__name__" := by decide) (hdb : (x == ("__debug__" : Str)) = false := by decide)
    (hs : starEach [e] X.env = (false, eval e X.env) :: starEach [] X.env := by rfl)
    (he : backTo pos (starEach [e] X.env) = (false, eval e X.env) :: backTo pos (starEach [] X.env) := by rfl)
    (hplain : (backTo pos (starEach [e] X.env)).any (·.1) = false := by rfl)
    (hall : (backToKw pos (keywordEach [⟨some "default", d, kpos⟩] X.env)).all (·.1.isSome) = true := by rfl)
    (hkw : (backToKw pos (keywordEach [⟨some "default", d, kpos⟩] X.env)).any (·.1.isNone) = false := by rfl) :
    PE X (.Call (.Name x p) [e] [⟨some "default", d, kpos⟩] pos) (tOp (rMaxK X.K) te td) := by
  refine ⟨fun pins s σ H Q I h => ?_⟩
  refine wpAny_Call_Name_kw (ld_blt I hg hm hv ?_ hn hdb)
  refine PyProof.Rows.callWith_kw ?_ he hplain hall hkw
  have pa : PA X [e] (tCons te tNil) := pa_cons ha pa_nil hs
  have pk : PK X [⟨some "default", d, kpos⟩] (tCons td tNil) := pk_cons hd pk_nil
  refine thn (pa.run pos pins s σ H (fun vs H1 => match vs with | [v] => td σ H1 fun u H2 => rMaxK X.K v u H2 Q | _ => False) I ?_) fun us s1 ⟨vs, H1, I1, r1, q1⟩ => ?_
  · exact h
  match vs, r1, q1 with
  | [v], r1, q1 =>
    refine thn (pk.run pos pins s1 σ H1 (fun ws H2 => match ws with | [u] => rMaxK X.K v u H2 Q | _ => False) I1 q1) fun ws s2 ⟨zs, H2, I2, r2, q2⟩ => ?_
    match zs, r2, q2 with
    | [u], r2, q2 =>
      obtain ⟨a, ns, rfl, hs, q0, q2⟩ := q2
      obtain ⟨its, rv, hl, _⟩ := I2.list hs
      rw [Vals.ref1 r1]
      cases r2 with
      | cons ru t =>
        cases t
        exact max_rawD (I2.ok.hd hc) hl.isList rv.ints (fun hz h' tk hk => ⟨u, H2, I2.kept hk, ru, q0 hz⟩) (fun hp h' tk m t' hk h1 h2 => ⟨.int _, H2, I2.kept hk, ⟨_, rfl⟩, q2 hp m h1 h2⟩)
end
def dMaxK : D → D → Option D
  | .lst ds, .int k => (dInts ds).map fun ns => .int ((maxI ns).getD k)
  | _, _ => none
@[simp] theorem dMaxK_lst {ds : List D} {k : Int} : dMaxK (.lst ds) (.int k) = (dInts ds).map fun ns => .int ((maxI ns).getD k) := (rfl)
theorem d_maxK {G : Gc} : OpD G (rMaxK G.K) dMaxK := by
  intro Av H dx dy v u Q fr r1 r2 q
  unfold dMaxK at q
  split at q
  · obtain ⟨a, vs, rfl, hh, rl⟩ := rep_lst r1
    rw [rep_int r2]
    cases e : dInts _ with
    | none => rw [e] at q; exact q.elim
    | some ns =>
      rw [e] at q
      rw [repL_ints e rl] at hh
      refine ⟨a, ns, rfl, SqL.of hh, fun hz => ?_, fun hp k hk hle => ?_⟩
      · subst hz
        exact outV.now (G := G) (Av := Av) q mk_int
      · cases e2 : maxI ns with
        | none =>
          cases ns with
          | nil => exact absurd hp (Nat.lt_irrefl 0)
          | cons n ns => cases e2
        | some m =>
          obtain ⟨h1, h2⟩ := maxI_is e2
          have ek : k = m := Int.le_antisymm (h2 k hk) (hle m h1)
          rw [Option.map_some, e2] at q
          rw [ek]
          exact outV.now (G := G) (Av := Av) q mk_int
  · exact q.elim
section
variable {X : Cx} {c : Ct} {W : WX} {ea eb : Expr} {fa fb : M AK} {pos p kpos : Pos} {nm : Str}
theorem de_maxK (hc : X.calm = true) (hK : X.K = c.toGc.K) (hg : Gl X nm) (hm : X.mg nm = none) (hv : bootBuiltins nm = some (.builtin "max")) (ha : DO X c W ea fa) (hb : DO X c W eb fb) (hn : nm ≠ "__name__" := by decide) (hdb : (nm == ("__debug__" : Str)) = false := by decide)
    (hs : starEach [ea] X.env = (false, eval ea X.env) :: starEach [] X.env := by rfl)
    (he : backTo pos (starEach [ea] X.env) = (false, eval ea X.env) :: backTo pos (starEach [] X.env) := by rfl)
    (hplain : (backTo pos (starEach [ea] X.env)).any (·.1) = false := by rfl)
    (hall : (backToKw pos (keywordEach [⟨some "default", eb, kpos⟩] X.env)).all (·.1.isSome) = true := by rfl)
    (hkw : (backToKw pos (keywordEach [⟨some "default", eb, kpos⟩] X.env)).any (·.1.isNone) = false := by rfl) :
    DE X c W (.Call (.Name nm p) [ea] [⟨some "default", eb, kpos⟩] pos) (mOp dMaxK fa fb) := by
  obtain ⟨ta, pa, sa⟩ := ha.out
  obtain ⟨tb, pb, sb⟩ := hb.out
  exact ⟨_, pe_maxK hc hg hm hv pa pb hn hdb hs he hplain hall hkw, sound_op sa sb (hK ▸ d_maxK)⟩
end
/-! x += y, x *= y of ints -/
def dAddI : D → D → Option D
  | .int i, .int j => some (.int (i + j))
  | _, _ => none
@[simp] theorem dAddI_int {i j : Int} : dAddI (.int i) (.int j) = some (.int (i + j)) := (rfl)
theorem d_addI {G : Gc} : OpD G (rI0 fun i j => .int (i + j)) dAddI := by
  intro Av H dx dy x y Q fr rx ry q
  unfold dAddI at q
  split at q
  · rw [rep_int rx, rep_int ry]; exact ⟨_, _, rfl, rfl, q.now mk_int⟩
  · exact q.elim
def dMulI : D → D → Option D
  | .int i, .int j => if CMul i j then some (.int (i * j)) else none
  | _, _ => none
@[simp] theorem dMulI_int {i j : Int} : dMulI (.int i) (.int j) = if CMul i j then some (.int (i * j)) else none := (rfl)
theorem d_mulI {G : Gc} : OpD G (rI CMul fun i j => .int (i * j)) dMulI := by
  intro Av H dx dy x y Q fr rx ry q
  unfold dMulI at q
  split at q
  · split at q
    · rename_i hc
      rw [rep_int rx, rep_int ry]; exact ⟨_, _, rfl, rfl, hc, q.now mk_int⟩
    · exact q.elim
  · exact q.elim
end DL

namespace DL
open PySem L2
/-- a while by an invariant with a measure -/
theorem wp_while {fc : M Bool} {body : M Fl} {P : Fl → SD → Prop} {E : EX} (I : Nat → SD → Prop) : ∀ {n k : Nat} {Δ : SD}, k < n → I k Δ →
    (∀ k Δ, I k Δ → wp fc Δ (K := ⟨(fun b Δ1 => if b = true then wp body Δ1 (K := ⟨(fun fl Δ2 => match fl with
      | .nx => ∃ j, j < k ∧ I j Δ2
      | .ct => ∃ j, j < k ∧ I j Δ2
      | .bk => P .nx Δ2
      | .rt d => P (.rt d) Δ2
      | .rf d => P (.rf d) Δ2), E⟩) else P .nx Δ1), E⟩)) → wp (mWhile fc body n) Δ (K := ⟨P, E⟩)
  | 0, k, Δ, hk, _, _ => absurd hk (Nat.not_lt_zero _)
  | n + 1, k, Δ, hk, h, step => by
    show wp (mBind fc _) Δ (K := ⟨P, E⟩)
    rw [wp_bind]
    refine wp_mono (step k Δ h) (fun b Δ1 q => ?_) fun _ _ _ z => z
    cases b with
    | false => unfold wp; exact q
    | true =>
      show wp (mBind body _) Δ1 (K := ⟨P, E⟩)
      rw [wp_bind]
      refine wp_mono q (fun fl Δ2 q2 => ?_) fun _ _ _ z => z
      cases fl with
      | nx => obtain ⟨j, hj, q3⟩ := q2; exact wp_while I (by omega) q3 step
      | ct => obtain ⟨j, hj, q3⟩ := q2; exact wp_while I (by omega) q3 step
      | bk => unfold wp; exact q2
      | rt d => unfold wp; exact q2
      | rf d => unfold wp; exact q2
end DL

namespace DL
open PySem L2 PySem.Spec PyProof.Rows
section
variable {X : Cx} {c : Ct} {W : WX} {k kf : Nat} {C f : Addr} {ps : List Str} {g : List D → RD} {n : Str} {ea eb : Expr} {fa fb : M AK} {pos : Pos}
/-- an answer that no operator passes over -/
def PlV (v : V) : Prop := (∃ b, v = .bl b) ∨ ∃ a, v = .ref a
def rOpO (C : Addr) (sp : Sp) : R2 := fun x y H Q => ∃ a dx us b dy gs, x = V.ref a ∧ H a = some (.ins C dx us) ∧ y = V.ref b ∧ H b = some (.ins C dy gs) ∧ sp [.ref a, .ref b] H (fun z H' => PlV z ∧ Q z H') fun _ _ _ => False
theorem cmpBack_of {Q : Value → Shared → Prop} {z : V} {u : Value} {s' : Shared} (r : RelV z u) (h : PlV z) (q : Q u s') : PySem.W.CmpBack Q u s' := by
  rcases h with ⟨b, rfl⟩ | ⟨a, rfl⟩
  · cases (show u = Value.bool b from r)
    exact q
  · cases (show u = Value.ref a from r)
    exact q
theorem opO_back {sp : Sp} {pins : List (Addr × Obj)} {s : Shared} {σ : L2.St} {H : Hp} {Q : VK} {a b : Addr} (F : DRn X.prog X.w X.K X.mg X.base c.T kf f sp) (o : Ok X c W k) (hk : kf ≤ k) (I : Inv X pins σ H s)
    (q : sp [.ref a, .ref b] H (fun z H' => PlV z ∧ Q z H') fun _ _ _ => False) :
    wpAny (model X.prog X.w) X.A (call (.ref f) [.ref a, .ref b]) (PySem.W.CmpBack (EP X pins σ Q)) X.xe s := by
  refine wpAny_call (codeAny_mono (F.run X.A X.stack s H [.ref a, .ref b] [.ref a, .ref b] _ _ (o.room.mono hk) (fun h => o.gd (by omega)) I.env0 (.cons rfl (.cons rfl .nil)) q) fun r s' hq => ?_)
  cases r with
  | error er =>
    obtain ⟨_, _, _, _, _, _, _, _, _, _, _, _, z⟩ := hq
    exact z.elim
  | ok fl =>
    cases fl with
    | ret u =>
      obtain ⟨v, H', I3, rv, hp, q3⟩ := I.after hq
      exact cmpBack_of rv hp ⟨v, H', I3, rv, q3⟩
    | next => exact hq.elim
    | brk => exact hq.elim
    | cont => exact hq.elim
theorem op_eqO {sp : Sp} (F : DRn X.prog X.w X.K X.mg X.base c.T kf f sp) (o : Ok X c W k) (hk : kf ≤ k) (hm : Meth X.K C "__eq__" f) : OpR X (compareOp .Eq) (rOpO C sp) := by
  intro pins s σ H x y v u Q I rx ry h
  obtain ⟨a, dx, us, b, dy, gs, rfl, ea, rfl, eb, q⟩ := h
  cases (show v = Value.ref a from rx)
  cases (show u = Value.ref b from ry)
  obtain ⟨mA, O, _, _, _, _⟩ := ins_get I.hok ea
  obtain ⟨mB, O', _, _, _, _⟩ := ins_get I.hok eb
  obtain ⟨od, J, _⟩ := O.look
  obtain ⟨od', J', _⟩ := O'.look
  obtain ⟨m, hF⟩ := I.fr
  show wpAny (model X.prog X.w) X.A (richCompare .Eq (.ref a) (.ref b)) _ _ s
  exact PySem.W.cmp_K (op := .Eq) (tb := .ref C) (o.room.mono hk).units0 hF I.ok.mod.kin J J'.type (by simp [PySem.W.notFirst]) hm.at_ hm.fn (opO_back F o hk I q)
theorem op_mulO {sp : Sp} (F : DRn X.prog X.w X.K X.mg X.base c.T kf f sp) (o : Ok X c W k) (hk : kf ≤ k) (hc : PySem.W.selfFirst X.K C = true) (hm : Meth X.K C "__mul__" f) : OpR X (binaryOp .Mult) (rOpO C sp) := by
  intro pins s σ H x y v u Q I rx ry h
  obtain ⟨a, dx, us, b, dy, gs, rfl, ea, rfl, eb, q⟩ := h
  cases (show v = Value.ref a from rx)
  cases (show u = Value.ref b from ry)
  obtain ⟨mA, O, _, _, _, _⟩ := ins_get I.hok ea
  obtain ⟨mB, O', _, _, _, _⟩ := ins_get I.hok eb
  obtain ⟨od, J, _⟩ := O.look
  obtain ⟨od', J', _⟩ := O'.look
  obtain ⟨m, hF⟩ := I.fr
  exact PySem.W.binop_K (op := .Mult) hF I.ok.mod.kin J J'.type hc hm.at_ hm.fn (opO_back F o hk I q)
def plD : D → Option D
  | .bl b => some (.bl b)
  | .obj m fs => some (.obj m fs)
  | _ => none
def mOpO (n : Str) (g : List D → RD) (fa fb : M AK) : M D := mBind fa fun a => mBind fb fun b => mBind (mGet a) fun x => mBind (mOpt (if chkC n x = true then some () else none)) fun _ => mBind (mGet b) fun y => mBind (mOpt (if chkC n y = true then some () else none)) fun _ => mBind (mNoX (callRes 2 [] g [a, b])) fun r => mOpt (plD r.1)
theorem opO_sound {ta tb : TE} (o : Ok X c W k) (hC : X.mg n = some (.ref C)) (sa : SoundO c W ta fa) (sb : SoundO c W tb fb) : SoundE c W (tOp (rOpO C (spD ⟨X.K, X.mg, c.T⟩ 2 [] g)) ta tb) (mOpO n g fa fb) := by
  intro x σ H Δ Q sr q
  refine sa x σ H Δ _ sr (Post.bind (ok' := okV c x σ H Q) q fun a Δ1 q1 v x1 H1 k1 sr1 h1 => ?_)
  refine sb x1 σ H1 Δ1 _ sr1 (Post.bind (ok' := okV c x1 σ H1 Q) (q1.step k1 fun a Δ => okV.step k1) fun b Δ2 q2 u x2 H2 k2 sr2 h2 => ?_)
  have h1' := AKOk.kp sr1 k2 h1
  obtain ⟨d, r1, q3⟩ := Post.get sr2 h1' (q2.step k2 fun a Δ => okV.step k2)
  obtain ⟨⟨fl, rfl⟩, q4⟩ := chkC_some q3
  obtain ⟨e, r2, q5⟩ := Post.get sr2 h2 q4
  obtain ⟨⟨gl, rfl⟩, q6⟩ := chkC_some q5
  obtain ⟨p, C', dx, us, rfl, hm, ok, hh, rf⟩ := rep1_obj r1
  obtain ⟨p', C2, dy, gs, rfl, hm2, ok2, hh2, rf2⟩ := rep1_obj r2
  rw [o.hmg, hC] at hm hm2
  cases hm
  cases hm2
  have key : ∀ {x : Sx} {H : Hp} {d : D} {Δ2 : SD}, Post c W x σ H (okV c x σ H Q) (mOpt (plD d) Δ2) → okV c x σ H (fun z H' => PlV z ∧ Q z H') d Δ2 := by
    intro x H d Δ2 z
    cases d with
    | bl b =>
      intro v x' H' k' s' r'
      have e : v = .bl b := by unfold Rep at r'; exact r'
      exact ⟨.inl ⟨b, e⟩, (show okV c x σ H Q (.bl b) Δ2 from z) v x' H' k' s' r'⟩
    | obj m fs =>
      intro v x' H' k' s' r'
      have e : ∃ a, v = .ref a := by
        unfold Rep at r'
        obtain ⟨a, _, _, _, e, _⟩ := r'
        exact ⟨a, e⟩
      exact ⟨.inr e, (show okV c x σ H Q (.obj m fs) Δ2 from z) v x' H' k' s' r'⟩
    | _ => exact z.elim
  exact ⟨p, dx, us, p', dy, gs, rfl, hh, rfl, hh2, call_sp (W := noW) (ps := [n, n]) (as := [a, b]) (gc_eq o) sr2 ⟨_, _, rfl, h1', _, _, rfl, h2, rfl⟩ (Post.noX (post_call q6)) (fun d Δ2 z => key z) (fun d Δ2 z => okF.okV (key z))⟩
theorem de_eqO {x0 y0 : Str} (F : MtD X.prog X.w X.K X.mg X.base c.T n "__eq__" kf [x0, y0] [] g) (o : Ok X c W k) (hk : kf ≤ k) (ha : DO X c W ea fa) (hb : DO X c W eb fb) (hm : behindInMarks .Eq eb = false) : DE X c W (.Compare ea [.Eq] [eb] pos) (mOpO n g fa fb) := by
  obtain ⟨C, f, fd, hC, cl, hmt, hbi, dfn⟩ := F.out
  obtain ⟨ta, pa, sa⟩ := ha.out
  obtain ⟨tb, pb, sb⟩ := hb.out
  exact ⟨_, pe_cmpR (op_eqO (dfn.raw hbi) o hk hmt) pa pb hm, opO_sound o hC sa sb⟩
theorem dt_eqO {x0 y0 : Str} (F : MtD X.prog X.w X.K X.mg X.base c.T n "__eq__" kf [x0, y0] [] g) (o : Ok X c W k) (hk : kf ≤ k) (ha : DO X c W ea fa) (hb : DO X c W eb fb) (hm : behindInMarks .Eq eb = false) : DT X c W (.Compare ea [.Eq] [eb] pos) (mBl (mOpO n g fa fb)) := by
  obtain ⟨C, f, fd, hC, cl, hmt, hbi, dfn⟩ := F.out
  obtain ⟨ta, pa, sa⟩ := ha.out
  obtain ⟨tb, pb, sb⟩ := hb.out
  exact ⟨_, pt_cmpR (op_eqO (dfn.raw hbi) o hk hmt) pa pb hm, fun x σ H Δ Q sr q => opO_sound o hC sa sb x σ H Δ _ sr (q.bind fun d Δ1 q1 => bl_end q1)⟩
theorem de_mulO {x0 y0 : Str} (F : MtD X.prog X.w X.K X.mg X.base c.T n "__mul__" kf [x0, y0] [] g) (hsf : ∀ C, X.mg n = some (.ref C) → PySem.W.selfFirst X.K C = true) (o : Ok X c W k) (hk : kf ≤ k) (ha : DO X c W ea fa) (hb : DO X c W eb fb) : DE X c W (.BinOp ea .Mult eb pos) (mOpO n g fa fb) := by
  obtain ⟨C, f, fd, hC, cl, hmt, hbi, dfn⟩ := F.out
  obtain ⟨ta, pa, sa⟩ := ha.out
  obtain ⟨tb, pb, sb⟩ := hb.out
  exact ⟨_, pe_op (op_mulO (dfn.raw hbi) o hk (hsf C hC) hmt) pa pb, opO_sound o hC sa sb⟩
end
/-! what they answer -/
section
variable {Δ : SD} {E : EX}
theorem wp_opO {n : Str} {g : List D → RD} {fa fb : M AK} {P : D → SD → Prop} : wp (mOpO n g fa fb) Δ (K := ⟨P, E⟩) = wp fa Δ (K := ⟨fun a Δ1 => wp fb Δ1 (K := ⟨fun b Δ2 => wp (mGet a) Δ2 (K := ⟨fun x Δ3 => chkC n x = true ∧ wp (mGet b) Δ3 (K := ⟨fun y Δ4 => chkC n y = true ∧ wp (callRes 2 [] g [a, b]) Δ4 (K := ⟨fun r Δ5 => wp (mOpt (plD r.1)) Δ5 (K := ⟨P, E⟩), noE⟩), E⟩), E⟩), E⟩), E⟩) := by
  unfold mOpO
  rw [wp_bind]; refine wp_ext fun a Δ1 => ?_
  rw [wp_bind]; refine wp_ext fun b Δ2 => ?_
  rw [wp_bind]; refine wp_ext fun x Δ3 => ?_
  rw [wp_bind, wp_chk]; congr 1
  rw [wp_bind]; refine wp_ext fun y Δ4 => ?_
  rw [wp_bind, wp_chk]; congr 1
  rw [wp_bind, wp_noX]
@[simp] theorem plD_bl {b : Bool} : plD (.bl b) = some (.bl b) := (rfl)
@[simp] theorem plD_obj {m : Str} {fs : List (Str × D)} : plD (.obj m fs) = some (.obj m fs) := (rfl)
end
end DL

namespace DL
open PySem L2
theorem Ok.units65 {X : Cx} {c : Ct} {W : WX} {k : Nat} (o : Ok X c W k) : X.A.units + 65 < cLine := by have := o.room.un; omega
def dInDeep (x y : D) : Option D := match toPy x, y with
  | some p, .lst ds => match toPyL ds with
    | some ps => if p.depth ≤ 64 ∧ (PyData.list ps).depth ≤ 64 then some (.bl (ps.any fun z => PyData.eqv z p)) else none
    | none => none
  | _, _ => none
theorem d_inDeep {G : Gc} : OpD G (L2.rInD G.K) dInDeep := by
  intro Av H dx dy x y Q fr rx ry q
  unfold dInDeep at q
  cases e1 : toPy dx with
  | none => rw [e1] at q; exact q.elim
  | some p =>
    rw [e1] at q
    cases dy with
    | lst ds =>
      cases e2 : toPyL ds with
      | none => simp only [e2] at q; exact q.elim
      | some ps =>
        simp only [e2] at q
        have e3 : toPy (.lst ds) = some (.list ps) := by simp [toPy, e2]
        split at q
        · rename_i h
          exact ⟨p, ps, rx.dp e1, ry.dp e3, by simp [SeqAt.shaped, canLay_of e1, h.1], by simp [SeqAt.shaped, canLay_of e3, h.2], outV.now (G := G) (Av := Av) q mk_bl⟩
        · exact q.elim
    | _ => exact q.elim
theorem inDeep_row {r : List Int} {rs : List (List Int)} : dInDeep (rowD r) (.lst (rs.map rowD)) = some (.bl (decide (r ∈ rs))) := by
  obtain ⟨p, e1, d1⟩ := pl_py (n := 1) (d := rowD r) pl_row
  have hall : (rs.map rowD).all (Pl 1) = true := by
    rw [List.all_map, List.all_eq_true]
    exact fun _ _ => pl_row
  obtain ⟨ps, e2, d2⟩ := pl_pyL (fun d => pl_py (n := 1) (d := d)) hall
  unfold dInDeep
  simp only [e1, e2]
  rw [if_pos ⟨by omega, by simp only [PyData.depth]; omega⟩]
  congr 2
  have key : ∀ {rs : List (List Int)} {ps : List PyData}, toPyL (rs.map rowD) = some ps → (ps.any fun z => PyData.eqv z p) = decide (r ∈ rs) := by
    intro rs
    induction rs with
    | nil => intro ps h; cases h; simp
    | cons a rs ih =>
      intro ps h
      rw [List.map_cons] at h
      unfold toPyL at h
      obtain ⟨q, e3, d3⟩ := pl_py (n := 1) (d := rowD a) pl_row
      rw [e3] at h
      cases e4 : toPyL (rs.map rowD) with
      | none => simp [e4] at h
      | some qs =>
        simp [e4] at h
        subst h
        rw [List.any_cons, ih e4]
        have k := pl_eqv (pl_row (xs := a)) (pl_row (xs := r)) e3 e1
        rw [Bool.eq_iff_iff, Bool.or_eq_true, k]
        simp only [decide_eq_true_eq, List.mem_cons]
        constructor
        · rintro (h | h)
          · left
            have h : D.lst (a.map D.int) = D.lst (r.map D.int) := h
            have h2 := D.lst.inj h
            have : ∀ {a r : List Int}, a.map D.int = r.map D.int → r = a := by
              intro a
              induction a with
              | nil => intro r h; cases r with
                | nil => rfl
                | cons => cases h
              | cons x xs ih => intro r h; cases r with
                | nil => cases h
                | cons y ys =>
                  rw [List.map_cons, List.map_cons] at h
                  injection h with h1 h2
                  injection h1 with h1
                  rw [h1, ih h2]
            exact this h2
          · exact .inr h
        · rintro (rfl | h)
          · exact .inl rfl
          · exact .inr h
  exact key e2
/-! len(set(xs)), xs ints, each once -/
def dLenSet : D → Option D
  | .lst ds => (dInts ds).bind fun ns => if ns.Nodup ∧ ns.length ≤ 4000 then some (.int ns.length) else none
  | _ => none
section
variable {X : Cx} {c : Ct} {W : WX} {k : Nat} {e : Expr} {fa : M AK} {p p2 q pos : Pos}
theorem de_lenSet (o : Ok X c W k) (h : DO X c W e fa) (hg : Gl X "len") (hm : X.mg "len" = none) (hg2 : Gl X "set") (hm2 : X.mg "set" = none)
    (na : starEach [e] X.env = (false, eval e X.env) :: starEach [] X.env := by rfl) : DE X c W (.Call (.Name "len" p) [.Call (.Name "set" p2) [e] [] q] [] pos) (mUn dLenSet fa) := by
  obtain ⟨t, pe, s⟩ := h.out
  refine ⟨_, RZ.pe_lenSetI hg hm hg2 hm2 pe o.calm na, fun x σ H Δ Q sr q => s x σ H Δ _ sr (q.bind fun a Δ1 q1 v x1 H1 k1 sr1 h1 => ?_)⟩
  obtain ⟨d, r, q3⟩ := Post.get sr1 h1 (q1.step k1 fun a Δ q => okV.step k1 q)
  cases d with
  | lst ds =>
    have q3 : Post c W x1 σ H1 (okV c x1 σ H1 Q) (mOpt ((dInts ds).bind fun ns => if ns.Nodup ∧ ns.length ≤ 4000 then some (.int ns.length) else none) Δ1) := q3
    cases ei : dInts ds with
    | none => rw [ei] at q3; exact q3.elim
    | some ns =>
      rw [ei, Option.bind_some] at q3
      split at q3
      · rename_i hl
        obtain ⟨l, vs, rfl, hh, rl⟩ := rep_lst r
        have ev := repL_ints ei rl
        subst ev
        have q4 := Post.outV sr1 q3
        rw [← o.hK]
        exact ⟨l, ns, rfl, SqL.of hh, hl.1, hl.2, outV.now (G := c.toGc) (Av := x1.Av) q4 mk_int⟩
      · exact q3.elim
  | _ => exact q3.elim
end
@[simp] theorem dLenSet_row {ns : List Int} : dLenSet (rowD ns) = if ns.Nodup ∧ ns.length ≤ 4000 then some (.int ns.length) else none := by
  show (dInts (ns.map D.int)).bind _ = _
  rw [dInts_map]; rfl
/-! == of lists of typed things -/
theorem mapInj {α : Type} {f : α → D} (inj : ∀ a b, f a = f b → a = b) : ∀ {xs ys : List α}, xs.map f = ys.map f → xs = ys
  | [], [], _ => rfl
  | [], y :: ys, h => by cases h
  | x :: xs, [], h => by cases h
  | x :: xs, y :: ys, h => by
    rw [List.map_cons, List.map_cons] at h
    injection h with h1 h2
    rw [inj x y h1, mapInj inj h2]
theorem rowO_inj {a b : Option (List Int)} (h : rowO a = rowO b) : a = b := by
  cases a <;> cases b
  · rfl
  · cases h
  · cases h
  · rw [rowD_inj.mp h]
theorem pl_rowO {o : Option (List Int)} : Pl 1 (rowO o) = true := by
  cases o with
  | none => rfl
  | some r => exact pl_row
theorem eqD_mapL {α : Type} [DecidableEq α] {f : α → D} {n : Nat} {xs ys : List α} (hn : n ≤ 59) (hf : ∀ a, Pl n (f a) = true) (inj : ∀ a b, f a = f b → a = b) : eqD (.lst (xs.map f)) (.lst (ys.map f)) = some (decide (xs = ys)) := by
  have h : ∀ zs : List α, Pl (n + 1) (.lst (zs.map f)) = true := fun zs => by
    show (zs.map f).all (Pl n) = true
    rw [List.all_map, List.all_eq_true]
    exact fun a _ => hf a
  rw [eqD_pl (n := n + 1) (by omega) (h xs) (h ys)]
  congr 1
  rw [Bool.eq_iff_iff, eqB_iff, decide_eq_true_eq]
  exact ⟨fun e => mapInj inj (D.lst.inj e), fun e => by rw [e]⟩
end DL

namespace DL
open PySem L2
def selIx : D → Option Bool
  | .int z => if z = 0 then some false else if z = 1 then some true else none
  | _ => none
theorem selIx_some {d : D} {b : Bool} (h : selIx d = some b) : d = .int (if b then 1 else 0) := by
  unfold selIx at h
  split at h
  · rename_i z
    split at h
    · rename_i e; cases h; rw [e]; rfl
    · split at h
      · rename_i e; cases h; rw [e]; rfl
      · cases h
  · cases h
def mSelPop (i j : Nat) (fk : M AK) : M D := mBind (mHold isLst i) fun _ => mBind (mHold isLst j) fun _ => mBind fk fun a => mBind (mGet a) fun k => mBind (mOpt (selIx k)) fun b => mBind (mUpd (if b = true then j else i) (gPopAt (.int 0))) fun d => mPure d
section
variable {X : Cx} {c : Ct} {W : WX} {e : Expr} {fk : M AK} {pos p0 p1 p2 lpos spos kpos : Pos} {i j : Nat} {n0 n1 : Str}
theorem de_selPop {kk} (hN0 : X.N[i]? = some n0) (hv0 : Vis X.env.scope n0) (hN1 : X.N[j]? = some n1) (hv1 : Vis X.env.scope n1) (h : DO X c W e fk) (hsl : PlainIx e)
    (hd0 : (n0 == ("__debug__" : Str)) = false := by decide) (hcd0 : (n0 == ("__classdict__" : Str)) = false := by decide)
    (hd1 : (n1 == ("__debug__" : Str)) = false := by decide) (hcd1 : (n1 == ("__classdict__" : Str)) = false := by decide)
    (hst : starEach [.Name n0 p0, .Name n1 p1] X.env = (false, eval (.Name n0 p0) X.env) :: starEach [.Name n1 p1] X.env := by rfl)
    (hst1 : starEach [.Name n1 p1] X.env = (false, eval (.Name n1 p1) X.env) :: starEach [] X.env := by rfl)
    (hbase : attributeBase (.Subscript (.List [.Name n0 p0, .Name n1 p1] lpos) e spos) "pop" X.env (eval (.Subscript (.List [.Name n0 p0, .Name n1 p1] lpos) e spos) X.env) = eval (.Subscript (.List [.Name n0 p0, .Name n1 p1] lpos) e spos) X.env := by rfl)
    (hfew : ((backTo pos (starEach [.Constant (.int 0) kk kpos] X.env)).all (fun q => !q.1) && (backToKw pos (keywordEach [] X.env)).all (fun q => q.1.isSome)
      && decide ([Expr.Constant (.int 0) kk kpos].length + ([] : List Keyword).length + (if ([] : List Keyword).isEmpty then 0 else 1) < 30)) = true := by rfl)
    (hline : (p2.endLine == pos.line) = true := by rfl) (hs : starEach [.Constant (.int 0) kk kpos] X.env = (false, eval (.Constant (.int 0) kk kpos) X.env) :: starEach [] X.env := by rfl) (hplain : (backTo pos (starEach [] X.env)).any (·.1) = false := by rfl) :
    DE X c W (.Call (.Attribute (.Subscript (.List [.Name n0 p0, .Name n1 p1] lpos) e spos) "pop" p2) [.Constant (.int 0) kk kpos] [] pos) (mSelPop i j fk) := by
  obtain ⟨t, p, s⟩ := h.out
  have pl := pe_lst (pos := lpos) (pa_cons (pe_var (X := X) (pos := p0) hN0 hv0 hd0 hcd0) (pa_cons (pe_var (X := X) (pos := p1) hN1 hv1 hd1 hcd1) pa_nil hst1) hst)
  have px := pe_ix (pos := spos) (ix_list (X := X)) pl p hsl
  refine ⟨_, pe_bm PySem.F.plainAttrs_list PySem.F.slot_list_pop PySem.F.type_list_pop mt_popAt px (pa_cons pe_int pa_nil hs) hbase hfew hline hs hplain, fun x σ H Δ Q sr q => ?_⟩
  obtain ⟨d0, e0, hp0, q1⟩ := Post.hold q
  obtain ⟨d1, e1, hp1, q2⟩ := Post.hold q1
  obtain ⟨a0, ha0, hσ0, ho0, _⟩ := sr.owAt e0
  obtain ⟨a1, ha1, hσ1, ho1, _⟩ := sr.owAt e1
  obtain ⟨ds0, rfl⟩ := isLst_some hp0
  obtain ⟨ds1, rfl⟩ := isLst_some hp1
  obtain ⟨vs0, hH0, _⟩ := ho0
  obtain ⟨vs1, hH1, _⟩ := ho1
  refine ⟨.ref a0, hσ0, .ref a1, hσ1, lim_ok (by show 2 ≤ lim; decide), fun pn hpn => ?_⟩
  have ex : Ex H (L2.upd H pn (.lst [.ref a0, .ref a1])) := Ex.new hpn
  have sr' := sr.ex ex
  have kp0 := Kp.ex ex x
  have hno : ∀ l, x.ρ l ≠ some pn := fun l z => (sr.ow l pn z).2.1 hpn
  refine s x σ _ Δ _ sr' (Post.bind (q2.step kp0 fun a Δ => okV.step kp0) fun ak Δ1 q3 v x1 H1 k1 sr1 r1 => ?_)
  obtain ⟨dk, rk, q4⟩ := Post.get sr1 r1 (q3.step k1 fun a Δ => okV.step k1)
  have hpn1 : H1 pn = some (.lst [.ref a0, .ref a1]) := k1.frame pn _ upd_same fx_lst hno
  have fin : ∀ (l : Nat) (al : Addr), σ[l]? = some (some (.ref al)) → Post c W x1 σ H1 (okV c x1 σ H1 Q) (mBind (mUpd l (gPopAt (.int 0))) (fun d => mPure d) Δ1) →
      tyV X.K "list" (.ref al) H1 ∧ ∃ (b : Addr) (xs : List V) (z : Int) (k : Nat) (y : V), V.ref al = .ref b ∧ [V.int 0] = [.int z] ∧ H1 b = some (.lst xs) ∧ -(2 ^ 63) ≤ z ∧ z < 2 ^ 63 ∧ seqIndex? z xs.length = some k ∧ xs[k]? = some y ∧ Q y (L2.upd H1 b (.lst (xs.eraseIdx k))) := by
    intro l al hσl qq
    obtain ⟨dl, b, d', el, eu, q5⟩ := Post.upd qq
    obtain ⟨a', ha', hσ', ho', nav⟩ := sr1.owAt el
    rw [hσl] at hσ'; cases hσ'
    obtain ⟨ds, z, jj, hz1, rfl, hz, ej, ed, rfl⟩ := gPopAt_some eu
    cases hz1
    obtain ⟨vs, hH, rl⟩ := ho'
    obtain ⟨y, ey, ry⟩ := rl.at ed
    have ej' : ixN vs.length 0 = some jj := by rw [repL_length rl]; exact ej
    have hk := (ixN_seq ej').1
    refine ⟨.inl ⟨rfl, vs, SqL.of hH⟩, al, vs, 0, jj, y, rfl, rfl, hH, by omega, by omega, hk, ey, ?_⟩
    have kp : Keep c.toGc x1.Av x1.Av H1 (L2.upd H1 al (.lst (vs.eraseIdx jj))) := Keep.temp _ nav
    obtain ⟨k2, sr2⟩ := sr1.ownUpd (o' := .lst (vs.eraseIdx jj)) (d' := .lst (ds.eraseIdx jj)) el ha' ⟨_, upd_same, (rl.keep kp).erase jj⟩
    exact q5 y x1 _ k2 sr2 (ry.keep kp)
  cases es : selIx dk with
  | none => rw [es] at q4; exact q4.elim
  | some b =>
    rw [es] at q4
    have ed := selIx_some es
    subst ed
    rw [rep_int rk]
    cases b with
    | false => exact ⟨pn, [.ref a0, .ref a1], 0, .ref a0, rfl, rfl, SqL.of hpn1, atI_0, fin i a0 hσ0 q4⟩
    | true => exact ⟨pn, [.ref a0, .ref a1], 1, .ref a1, rfl, rfl, SqL.of hpn1, atI_1, fin j a1 hσ1 q4⟩
end
theorem wp_selPop {i j : Nat} {fk : M AK} {Δ : SD} {E : EX} {P : D → SD → Prop} : wp (mSelPop i j fk) Δ (K := ⟨P, E⟩) = wp (mHold isLst i) Δ (K := ⟨fun _ Δ1 => wp (mHold isLst j) Δ1 (K := ⟨fun _ Δ2 => wp fk Δ2 (K := ⟨fun a Δ3 => wp (mGet a) Δ3 (K := ⟨fun k Δ4 => wp (mOpt (selIx k)) Δ4 (K := ⟨fun b Δ5 => wp (mUpd (if b = true then j else i) (gPopAt (.int 0))) Δ5 (K := ⟨P, E⟩), E⟩), E⟩), E⟩), E⟩), E⟩) := by
  unfold mSelPop
  rw [wp_bind]; refine wp_ext fun _ _ => ?_
  rw [wp_bind]; refine wp_ext fun _ _ => ?_
  rw [wp_bind]; refine wp_ext fun _ _ => ?_
  rw [wp_bind]; refine wp_ext fun _ _ => ?_
  rw [wp_bind]; refine wp_ext fun _ _ => ?_
  rw [wp_bind]; refine wp_ext fun _ _ => ?_
  rw [wp_pure]
/-- a call raises n with v -/
def RaE (n : Str) (v : D) (m : Str) (d : Option D) (es : List D) : Prop := m = n ∧ d = some v ∧ es = []
/-- no answer -/
def noA : D → Bool → List D → Prop := fun _ _ _ => False
end DL

namespace DL
open PySem L2
/-- the module's table x: text keys, text values -/
def KdD (K : PySem.W.Frag) (w : World) (mg : Str → Option Value) (x : Str) (l : List (Str × Str)) : Prop := ∃ p, mg x = some (.ref p) ∧ ∀ q ∈ l, L2.KDct K w p q.1 (.str q.2)
theorem kd_mk {K : PySem.W.Frag} {w : World} {mg : Str → Option Value} {x : Str} {l : List (Str × Str)} {p : Addr} {es : Array DictEntry} {n : Nat} (hp : mg x = some (.ref p)) (hl : K.lookup p = some ⟨.type "dict", none, .dict es n, #[]⟩)
    (hk : PySem.W.KeysLit w.params es.toList) (h : ∀ q ∈ l, ∃ t, PySem.W.nsIn K p q.1 = some (some (.str q.2 t))) : KdD K w mg x l :=
  ⟨p, hp, fun q hq => by obtain ⟨t, e⟩ := h q hq; exact ⟨es, n, _, hl, hk, e, ⟨t, rfl⟩⟩⟩
def dKd (l : List (Str × Str)) : D → Option D
  | .str z => ((l.find? fun q => decide (q.1 = z)).map fun q => D.str q.2)
  | _ => none
def rKd (K : PySem.W.Frag) (w : World) : V → V → Hp → VK → Prop := L2.rIxD K w
section
variable {X : Cx} {c : Ct} {W : WX} {k : Nat} {e : Expr} {fa : M AK} {x : Str} {l : List (Str × Str)} {pos p1 : Pos}
theorem de_kd (kd : KdD X.K X.w X.mg x l) (hg : Gl X x) (h : DO X c W e fa) (hs : PlainIx e) (hdb : (x == ("__debug__" : Str)) = false := by decide) :
    DE X c W (.Subscript (.Name x p1) e pos) (mUn (dKd l) fa) := by
  obtain ⟨p, hp, hl⟩ := kd
  obtain ⟨t, pe, s⟩ := h.out
  refine ⟨_, pe_ix ix_kdict (pe_glob (v := .ref p) hg hp rfl hdb) pe hs, fun y σ H Δ Q sr q => s y σ H Δ _ sr (q.bind fun a Δ1 q1 v x1 H1 k1 sr1 h1 => ?_)⟩
  obtain ⟨d, r, q3⟩ := Post.get sr1 h1 (q1.step k1 fun a Δ q => okV.step k1 q)
  cases d with
  | str z =>
    have q3 : Post c W x1 σ H1 (okV c x1 σ H1 Q) (mOpt ((l.find? fun q => decide (q.1 = z)).map fun q => D.str q.2) Δ1) := q3
    cases ef : l.find? fun q => decide (q.1 = z) with
    | none => rw [ef] at q3; exact q3.elim
    | some kv =>
      rw [ef] at q3
      have hm := List.mem_of_find?_eq_some ef
      have hz := List.find?_some ef
      simp at hz
      rw [rep_str r, ← hz]
      exact ⟨p, kv.1, .str kv.2, rfl, rfl, hl kv hm, (Post.outV sr1 q3) (.str kv.2) H1 (Ex.refl H1) (by unfold Rep; rfl)⟩
  | _ => exact q3.elim
end
/-! [*xs, ..] -/
def stI : D → Option (List D)
  | .lst ds => some ds
  | .tup ds => some ds
  | _ => none
def mStar (fe : M D) (fr : M (List AK)) : M (List AK) := mBind fe fun d => mBind (mOpt (stI d)) fun ds => mBind fr fun as => mPure (ds.map AK.v ++ as)
theorem aks_v {c : Ct} {x : Sx} {σ : L2.St} {H : Hp} : ∀ {ds : List D} {vs : List V} {as : List AK} {us : List V}, RepL c.toGc x.Av H ds vs → AKsOk c x σ H as us → AKsOk c x σ H (ds.map AK.v ++ as) (vs ++ us)
  | [], vs, as, us, h, h2 => by
    unfold RepL at h
    subst h
    exact h2
  | d :: ds, vs, as, us, h, h2 => by
    unfold RepL at h
    obtain ⟨v, r, rfl, h3, h4⟩ := h
    exact ⟨v, r ++ us, rfl, h3, aks_v h4 h2⟩
section
variable {X : Cx} {c : Ct} {W : WX} {e : Expr} {es : List Expr} {fe : M D} {fr : M (List AK)} {p : Pos}
theorem da_star (hK : c.K = X.K) (h : DE X c W e fe) (r : DA X c W es fr) (hs : starEach (.Starred e p :: es) X.env = (true, eval e X.env) :: starEach es X.env := by rfl) : DA X c W (.Starred e p :: es) (mStar fe fr) := by
  obtain ⟨te, pe, se⟩ := h.out
  obtain ⟨tr, pr, sr0⟩ := r.out
  refine ⟨_, StX.pa_star pe pr hs, fun x σ H Δ Q sr q => se x σ H Δ _ sr (q.bind fun d Δ1 q1 v x1 H1 k1 sr1 h1 => ?_)⟩
  have q1 := q1.step k1 fun a Δ => okA.step k1
  have fin : ∀ ds, stI d = some ds → ∀ pp vs, v = V.ref pp → (SqT X.K H1 pp vs ∨ SqL X.K H1 pp vs) → RepL c.toGc x1.Av H1 ds vs → ∃ p xs, v = V.ref p ∧ (SqT X.K H1 p xs ∨ SqL X.K H1 p xs) ∧ tr σ H1 fun ys H2 => Q (xs ++ ys) H2 := by
    intro ds hds pp vs hv hsq hrl
    rw [hds] at q1
    refine ⟨pp, vs, hv, hsq, sr0 x1 σ H1 Δ1 _ sr1 (Post.bind (show Post c W x1 σ H1 (okA c x1 σ H1 Q) (mBind fr (fun as => mPure (ds.map AK.v ++ as)) Δ1) from q1) fun as Δ2 q2 us x2 H2 k2 sr2 h2 => ?_)⟩
    exact (show okA c x1 σ H1 Q (ds.map AK.v ++ as) Δ2 from q2) (vs ++ us) x2 H2 k2 sr2 (aks_v (RepL.kp sr1 k2 hrl) h2)
  cases d with
  | lst ds =>
    unfold Rep at h1
    obtain ⟨a, vs, rfl, _, hh, rl⟩ := h1
    exact fin ds rfl a vs rfl (.inr (SqL.of hh)) rl
  | tup ds =>
    unfold Rep at h1
    obtain ⟨a, vs, rfl, _, hh, rl⟩ := h1
    exact fin ds rfl a vs rfl (.inl (SqT.of hh)) rl
  | _ => exact q1.elim
end
/-! what they answer -/
section
variable {Δ : SD} {E : EX}
@[simp] theorem wp_star {fe : M D} {fr : M (List AK)} {P : List AK → SD → Prop} : wp (mStar fe fr) Δ (K := ⟨P, E⟩) = wp fe Δ (K := ⟨fun d Δ1 => wp (mOpt (stI d)) Δ1 (K := ⟨fun ds Δ2 => wp fr Δ2 (K := ⟨fun as Δ3 => P (ds.map AK.v ++ as) Δ3, E⟩), E⟩), E⟩) := by
  unfold mStar
  rw [wp_bind]; refine wp_ext fun _ _ => ?_
  rw [wp_bind]; refine wp_ext fun _ _ => ?_
  rw [wp_bind]; refine wp_ext fun _ _ => ?_
  rw [wp_pure]
theorem wp_vals {ds : List D} {as : List AK} {P : List D → SD → Prop} : wp (mVals (ds.map AK.v ++ as)) Δ (K := ⟨P, E⟩) = wp (mVals as) Δ (K := ⟨fun es Δ1 => P (ds ++ es) Δ1, E⟩) := by
  induction ds generalizing P with
  | nil => rfl
  | cons d ds ih =>
    rw [List.map_cons, List.cons_append, wp_valsC, ih]
    first | done | rfl
theorem wp_vals0 {ds : List D} {P : List D → SD → Prop} : wp (mVals (ds.map AK.v)) Δ (K := ⟨P, E⟩) = P ds Δ := by
  have := wp_vals (Δ := Δ) (E := E) (ds := ds) (as := []) (P := P)
  rw [List.append_nil] at this
  rw [this, wp_valsN, List.append_nil]
end
end DL

namespace DL
open PySem L2 PySem.Spec PyProof.Rows
section
variable {prog : Program} {w : World} {A : Around} {E : Value → Shared → Prop} {s : Shared}
theorem adjust_rev (n : Nat) : Builtin.Slice.sliceAdjust none none (-1) (n : Int) = ((n : Int) - 1, -1) := by
  unfold Builtin.Slice.sliceAdjust
  rfl
theorem places_rev (n : Nat) : Builtin.Slice.slicePlaces ((n : Int) - 1) (-1) (-1) = n := by
  unfold Builtin.Slice.slicePlaces
  have h1 : ¬ (-1 : Int) > 0 := by omega
  simp only [h1, if_false]
  have e : ∀ z : Int, z / - -1 = z := fun z => by rw [show (- -1 : Int) = 1 from rfl, Int.ediv_one]
  simp only [e]
  split <;> omega
theorem fmap_map {α β : Type} {f : α → Option β} {g : α → β} : ∀ {l : List α}, (∀ m ∈ l, f m = some (g m)) → l.filterMap f = l.map g
  | [], _ => rfl
  | a :: l, h => by
    rw [List.filterMap_cons, h a (List.mem_cons_self ..), List.map_cons]
    dsimp only
    rw [fmap_map fun m hm => h m (List.mem_cons_of_mem _ hm)]
theorem sliceApplied_rev {sl : Addr} {vl vu vs : Value} {n : Nat} {Q : Int × Int × Nat → Shared → Prop} (hs : s.heap.IsSliceOf sl vl vu vs) (pl : IsPart vl none) (pu : IsPart vu none) (ps : IsPart vs (some (-1)))
    (h : Q ((n : Int) - 1, -1, n) s) : wpAny (model prog w) A (Builtin.Slice.sliceApplied (.ref sl) (pure (n : Int))) Q E s := by
  obtain ⟨os, hos, hcs, hds⟩ := id hs
  unfold Builtin.Slice.sliceApplied Builtin.Slice.sliceFields
  refine wpAny_bind (wpAny_bind (wpAny_field hos hds (x := vl) rfl (wpAny_bind (wpAny_field hos hds (x := vu) rfl (wpAny_bind (wpAny_field hos hds (x := vs) rfl (wpAny_pure ?_)))))))
  refine wpAny_bind (HT.slicePart_ ps ?_)
  show wpAny _ _ (if ((-1 : Int) == 0) = true then _ else _) _ _ s
  rw [if_neg (by decide)]
  refine wpAny_bind (HT.slicePart_ pl (wpAny_bind (HT.slicePart_ pu (wpAny_bind (wpAny_pure ?_)))))
  show wpAny _ _ (match Builtin.Slice.sliceAdjust none none (-1) (n : Int) with | (lo, hi) => pure (lo, (-1 : Int), Builtin.Slice.slicePlaces lo hi (-1))) _ _ s
  rw [adjust_rev n]
  show wpAny _ _ (pure ((n : Int) - 1, (-1 : Int), Builtin.Slice.slicePlaces ((n : Int) - 1) (-1) (-1))) _ _ s
  rw [places_rev]
  exact wpAny_pure h
theorem pick_rev (xs : Array Value) : ((List.range xs.size).filterMap fun (m : Nat) => xs[(((xs.size : Int) - 1) + (m : Int) * (-1)).toNat]?).toArray = xs.toList.reverse.toArray := by
  congr 1
  refine List.ext_getElem? fun i => ?_
  have e : ((List.range xs.size).filterMap fun (m : Nat) => xs[(((xs.size : Int) - 1) + (m : Int) * (-1)).toNat]?) = (List.range xs.size).map fun m => xs.toList.getD (xs.size - 1 - m) default := by
    refine fmap_map fun m hm => ?_
    have hm := List.mem_range.mp hm
    have e1 : (((xs.size : Int) - 1) + (m : Int) * (-1)).toNat = xs.size - 1 - m := by omega
    rw [e1]
    have hlt : xs.size - 1 - m < xs.size := by omega
    simp [List.getD, hlt]
  rw [e]
  by_cases hi : i < xs.size
  · rw [List.getElem?_map, List.getElem?_range hi, List.getElem?_reverse (by simpa using hi)]
    have hlt : xs.size - 1 - i < xs.size := by omega
    simp [List.getD, hlt]
  · rw [List.getElem?_eq_none (by simpa using hi), List.getElem?_eq_none (by simpa using hi)]
theorem getItem_tuple_rev {t sl : Addr} {items : Array Value} {vl vu vs : Value} {Q : Value → Shared → Prop} (ht : IsTup s.heap t items) (hs : s.heap.IsSliceOf sl vl vu vs) (pl : IsPart vl none) (pu : IsPart vu none) (ps : IsPart vs (some (-1)))
    (h : Q (.ref s.heap.objs.size) { s with heap := s.heap.push { cls := .type "tuple", data := .seq items.toList.reverse.toArray } })
    (hsz : items.size ≤ sizeLine) : wpAny (model prog w) A (getItem (.ref t) (.ref sl)) Q E s := by
  have htake : sizeOk (.seq items.toList.reverse.toArray) := by
    show items.toList.reverse.toArray.size ≤ sizeLine
    rw [List.size_toArray, List.length_reverse, Array.length_toList]
    exact hsz
  obtain ⟨os, hos, hcs, hds⟩ := id hs
  have hTs : s.TypeIs (.ref sl) "slice" := ⟨os, hos, hcs⟩
  unfold getItem
  try with_reducible refine wpAny_holding ?_
  first | refine wpAny_bind (wpAny_pure ?_) | skip
  refine wpAny_bind (wpAny_sequenceKey ht.typeIs (by decide) ?_)
  refine wpAny_bind (wpAny_callSpecial?_slot (name := Str.ofString "__getitem__") ht.typeIs PyProof.Rows.slot_tuple_getitem
    (wpAny_call_entry PyProof.Rows.slot_tuple_getitem ht.typeIs entry_tuple_getitem ?_ (args_tuple_getitem _ _)))
  show wpAny _ _ (Builtin.Tuple.tupleItemsOf (.ref t) >>= _) _ _ s
  refine wpAny_bind (tupleItemsOf_ ht ?_)
  refine wpAny_bind (wpAny_typeOf hTs ?_)
  rw [if_pos (by decide)]
  refine wpAny_bind (sliceApplied_rev hs pl pu ps ?_)
  have hno : ¬ ((((items.size : Int) - 1) == 0 && (-1 : Int) == 1 && items.size == items.size) = true) := by
    intro q
    rw [Bool.and_eq_true, Bool.and_eq_true] at q
    exact absurd q.1.2 (by decide)
  show wpAny _ _ (if (((items.size : Int) - 1) == 0 && (-1 : Int) == 1 && items.size == items.size) = true then _ else _) _ _ s
  rw [if_neg hno, pick_rev]
  first
    | exact wpAny_bind (m := Builtin.Tuple.tupleExact _) (wpAny_newObj_type (wpAny_pure ⟨_, rfl, wpAny_pure h⟩) htake)
    | exact wpAny_bind (m := Builtin.Tuple.tupleExact _) (wpAny_newObj_type (wpAny_bind (wpAny_pure (wpAny_pure ⟨_, rfl, wpAny_pure h⟩))) htake)
    | exact wpAny_bind (wpAny_bind (m := Builtin.Tuple.tupleExact _) (wpAny_newObj_type (wpAny_pure (wpAny_pure ⟨_, rfl, wpAny_pure h⟩)) htake))
    | exact wpAny_bind (wpAny_bind (m := Builtin.Tuple.tupleExact _) (wpAny_newObj_type (wpAny_pure ⟨_, rfl, wpAny_pure h⟩) htake))
end
def tRevX (K : PySem.W.Frag) (te : TE) : TE := fun σ H Q => te σ H fun x H1 => ∃ a xs, x = .ref a ∧ ((SqL K H1 a xs ∧ ∀ p, H1 p = none → Q (.ref p) (L2.upd H1 p (.lst xs.reverse))) ∨ (SqT K H1 a xs ∧ ∀ p, H1 p = none → Q (.ref p) (L2.upd H1 p (.tup xs.reverse))))
theorem pe_revX {X : Cx} {e : Expr} {te : TE} {k : Nat} {p1 p2 p3 pos : Pos} (he : PE X e te) : PE X (.Subscript e (.Slice none none (some (.UnaryOp .USub (.Constant (.int 1) k p1) p2)) p3) pos) (tRevX X.K te) := by
  refine ⟨fun pins s σ H Q I h => ?_⟩
  refine Subscript_ (thn (he.run pins s σ H _ I h) fun v s1 ⟨x, H1, I1, r1, q1⟩ => ?_)
  obtain ⟨a, xs, ex, q⟩ := q1
  subst ex
  cases r1
  have hst : PO X (some (.UnaryOp .USub (.Constant (.int 1) k p1) p2)) (tPart (tUn (rU fun i => .int (-i)) (tC (.int 1)))) := po_some (pe_un un_neg pe_int)
  refine wpAny_Slice (thn (po_none.run pins s1 σ H1 (fun o H2 => o = none ∧ H2 = H1) I1 ⟨rfl, rfl⟩) fun vl s2 ⟨l, H2, I2, pl, el, e2⟩ => ?_)
  subst el e2
  refine thn (po_none.run pins s2 σ H2 (fun o H3 => o = none ∧ H3 = H2) I2 ⟨rfl, rfl⟩) fun vu s3 ⟨u, H3, I3, pu, eu, e3⟩ => ?_
  subst eu e3
  refine thn (hst.run pins s3 σ H3 (fun o H4 => o = some (-1) ∧ H4 = H3) I3 ⟨1, rfl, -1, rfl, rfl, rfl⟩) fun vs s4 ⟨o, H4, I4, ps, eo, e4⟩ => ?_
  subst eo e4
  have I5 : Inv X pins σ H4 { s4 with heap := s4.heap.push { cls := .type "slice", data := .fields #[vl, vu, vs] } } := I4.kept (t' := s4.toks) fun b ob q => Heap.get?_push_of_some _ q
  show wpAny (model X.prog X.w) X.A (subscriptTail e (.Slice none none (some (.UnaryOp .USub (.Constant (.int 1) k p1) p2)) p3) (.ref a) (.ref s4.heap.objs.size)) (EP X pins σ Q) X.xe { s4 with heap := s4.heap.push { cls := .type "slice", data := .fields #[vl, vu, vs] } }
  rcases q with ⟨hx, q⟩ | ⟨hx, q⟩
  · obtain ⟨its, r, ht, hz⟩ := I5.list hx
    have hlen := r.length
    refine tail_any (ops := [.ref a, .ref s4.heap.objs.size]) ht.isList.typeIs (PySem.slot_list_getitem.lookup) ?_ (by with_unfolding_all rfl)
    refine wpAny_getItem_list_slice ht.isList (Heap.IsSliceOf.new _ vl vu vs) pl pu ps (by decide) ?_ (by rw [List.size_toArray]; omega)
    rw [PySem.W.krv_pick]
    refine ⟨.ref _, _, I5.laid (t' := s4.toks) (o := .lst xs.reverse) (fun b ob q => Heap.get?_push_of_some _ q) (Nat.le_refl _) ?_, rfl, q _ (I5.hok.fresh (Nat.le_refl _))⟩
    exact ⟨by rw [List.length_reverse]; exact hz, _, 0, r.reverse, Heap.get?_push_size _ rfl⟩
  · obtain ⟨its, r, ht, hz⟩ := I5.tuple hx
    have hlen := r.length
    refine tail_any (ops := [.ref a, .ref s4.heap.objs.size]) ht.typeIs (PyProof.Rows.slot_tuple_getitem.lookup) ?_ (by with_unfolding_all rfl)
    refine getItem_tuple_rev ht (Heap.IsSliceOf.new _ vl vu vs) pl pu ps ?_ (by rw [List.size_toArray]; omega)
    refine ⟨.ref _, _, I5.laid (t' := s4.toks) (o := .tup xs.reverse) (fun b ob q => Heap.get?_push_of_some _ q) (Nat.le_refl _) ?_, rfl, q _ (I5.hok.fresh (Nat.le_refl _))⟩
    exact ⟨by rw [List.length_reverse]; exact hz, _, r.reverse, IsTup.new _ _⟩
def dRevX : D → Option D
  | .lst ds => some (.lst ds.reverse)
  | .tup ds => some (.tup ds.reverse)
  | _ => none
@[simp] theorem dRevX_lst {ds : List D} : dRevX (.lst ds) = some (.lst ds.reverse) := (rfl)
@[simp] theorem dRevX_tup {ds : List D} : dRevX (.tup ds) = some (.tup ds.reverse) := (rfl)
section
variable {X : Cx} {c : Ct} {W : WX} {k : Nat} {e : Expr} {fa : M AK} {pos p1 p2 p3 : Pos}
theorem de_revX (o : Ok X c W k) (h : DO X c W e fa) {j : Nat} : DE X c W (.Subscript e (.Slice none none (some (.UnaryOp .USub (.Constant (.int 1) j p1) p2)) p3) pos) (mUn dRevX fa) := by
  obtain ⟨t, pe, s⟩ := h.out
  refine ⟨_, pe_revX pe, fun x σ H Δ Q sr q => s x σ H Δ _ sr (q.bind fun a Δ1 q1 v x1 H1 k1 sr1 h1 => ?_)⟩
  obtain ⟨d, r, q2⟩ := Post.get sr1 h1 (q1.step k1 fun a Δ q => okV.step k1 q)
  cases d with
  | lst ds =>
    obtain ⟨l, vs, rfl, hh, rl⟩ := rep_lst r
    have q3 := Post.outV sr1 q2
    rw [← o.hK]
    exact ⟨l, vs, rfl, .inl ⟨SqL.of hh, fun p hp => newL sr1.fr hp rl.rev q3⟩⟩
  | tup ds =>
    obtain ⟨l, vs, rfl, _, hh, rl⟩ := rep_tup r
    have q3 := Post.outV sr1 q2
    rw [← o.hK]
    exact ⟨l, vs, rfl, .inr ⟨SqT.of hh, fun p hp => newT sr1.fr hp rl.rev q3⟩⟩
  | _ => exact q2.elim
end
section
variable {Δ : SD} {E : EX}
@[simp] theorem wp_chk2 {c : Prop} [Decidable c] {P : Unit → SD → Prop} : wp (mOpt (if c then some () else none)) Δ (K := ⟨P, E⟩) = (c ∧ P () Δ) := by
  by_cases h : c <;> simp [h]
end
def isLstD : D → Bool
  | .lst _ => true
  | _ => false
@[simp] theorem isLstD_lst {ds : List D} : isLstD (.lst ds) = true := (rfl)
theorem hio_nil {l : List (Nat × Addr)} (h : l.map (·.1) = []) : l = [] := List.map_eq_nil_iff.mp h
/-- in its place, or at the end -/
def putA {κ α : Type} [DecidableEq κ] (kvs : List (κ × α)) (k : κ) (v : α) : List (κ × α) :=
  if (kvs.any fun p => decide (p.1 = k)) = true then kvs.map (fun p => if p.1 = k then (p.1, v) else p) else kvs ++ [(k, v)]
theorem putA_len {κ α : Type} [DecidableEq κ] {kvs : List (κ × α)} {k : κ} {v : α} : (putA kvs k v).length ≤ kvs.length + 1 := by
  unfold putA
  split
  · rw [List.length_map]; omega
  · rw [List.length_append]; exact Nat.le_refl _
end DL

-- gives: mDoor mSortVals mSortComp mSortRow mLendT mLendF mWreckP
namespace DL
open PySem L2 PySem.Spec PyProof.Rows

/-- nothing but tables is changed -/
structure Gr (H H1 : Hp) : Prop where
  fx : ∀ b o, H b = some o → Fx o → H1 b = some o
  th : ∀ b, H1 b = none → H b = none
theorem Gr.refl (H : Hp) : Gr H H := ⟨fun _ _ h _ => h, fun _ h => h⟩
section
variable {H H1 : Hp}
theorem Gr.keep {G : Gc} {Av : Addr → Prop} (g : Gr H H1) : Keep G Av Av H H1 :=
  ⟨fun a u _ f h => by
    rcases h with h | ⟨o, h⟩
    · exact .inl (g.fx a _ h f)
    · exact .inr ⟨o, g.fx a _ h fx_frz⟩, fun a vs _ h => g.fx a _ h fx_lst, fun a vs _ h => g.fx a _ h fx_tup, fun a C dx us _ h => g.fx a _ h fx_ins, fun _ _ h _ => h⟩
theorem Own.gr {G : Gc} {Av : Addr → Prop} (g : Gr H H1) {a : Addr} {d : D} (h : Own G Av H a d) : Own G Av H1 a d := by
  cases d <;> first
    | exact h.elim
    | (obtain ⟨vs, h1, h2⟩ := h; exact ⟨vs, g.fx a _ h1 (by first | exact fx_lst | exact fx_dK | exact fx_dT | exact fx_nd), h2.keep g.keep⟩)
    | (obtain ⟨C, dx, us, h0, h1, h2⟩ := h; exact ⟨C, dx, us, h0, g.fx a _ h1 fx_ins, h2.keep g.keep⟩)
variable {c : Ct} {x : Sx} {σ : L2.St} {Δ : SD}
theorem SR.gr (s : SR c x σ H Δ) (g : Gr H H1) (t : LamX.Tabs c.T H1) : Kp x H x H1 ∧ SR c x σ H1 Δ := by
  refine ⟨⟨fun a o h f _ => g.fx a o h f, g.th, fun i a h => .inl ⟨i, h⟩, fun _ h _ => h, fun _ h => .inl h⟩, ?_⟩
  exact {
    len := s.len
    base := fun a o h f n => g.fx a o (s.base a o h f n) f
    tab := t
    trk := fun a h => s.trk a (g.th a h)
    fr := fun p h => s.fr p (g.th p h)
    av := s.av
    a0 := s.a0
    ow := fun i a h => ⟨(s.ow i a h).1, fun q => (s.ow i a h).2.1 (g.th a q), (s.ow i a h).2.2⟩
    inj := s.inj
    slot := fun i => by
      have h := s.slot i
      revert h
      cases Δ[i]? with
      | none => intro _; trivial
      | some z =>
        cases z with
        | un => intro _; trivial
        | sh d => exact fun ⟨v, h1, h2⟩ => ⟨v, h1, h2.keep g.keep⟩
        | ow d => exact fun ⟨a, h0, h1, h2⟩ => ⟨a, h0, h1, h2.gr g⟩
    ios := s.ios }
end

/-! ### what a door holds -/
def capD : SD → List D
  | [] => []
  | z :: r => match z with
    | .sh d => d :: capD r
    | _ => capD r
def capV : SD → L2.St → List V
  | [], _ => []
  | _ :: _, [] => []
  | z :: r, o :: t => match z, o with
    | .sh _, some v => v :: capV r t
    | _, _ => capV r t
def bare1 : SC → SC
  | .sh d => .sh d
  | _ => .un
/-- the slots' shared data, nothing owned -/
def strip (Δ : SD) : SD := Δ.map bare1
def ShOk (G : Gc) (Av : Addr → Prop) (H : Hp) (Δ : SD) (σ : L2.St) : Prop := ∀ (i : Nat) (d : D), Δ[i]? = some (SC.sh d) → ∃ v : V, σ[i]? = some (some v) ∧ Rep G Av H d v
section
variable {G : Gc} {Av Av' : Addr → Prop} {H H' : Hp}
theorem ShOk.tail {z : SC} {Δ : SD} {o : Option V} {σ : L2.St} (h : ShOk G Av H (z :: Δ) (o :: σ)) : ShOk G Av H Δ σ := fun i d e => by
  obtain ⟨v, e1, r⟩ := h (i + 1) d (by simpa using e)
  exact ⟨v, by simpa using e1, r⟩
theorem cap_rep : ∀ {Δ : SD} {σ : L2.St}, ShOk G Av H Δ σ → σ.length = Δ.length → RepL G Av H (capD Δ) (capV Δ σ)
  | [], _, _, _ => by unfold capD capV RepL; rfl
  | z :: Δ, [], _, l => by simp at l
  | z :: Δ, o :: σ, h, l => by
    have ih := cap_rep h.tail (by simpa using l)
    cases z with
    | un => exact ih
    | ow d => exact ih
    | sh d =>
      obtain ⟨v, e, r⟩ := h 0 d rfl
      have eo : o = some v := by simpa using e
      subst eo
      show RepL G Av H (d :: capD Δ) (v :: capV Δ σ)
      unfold RepL
      exact ⟨v, _, rfl, r, ih⟩
theorem cap_ok : ∀ {Δ : SD} {σ : L2.St}, ShOk G Av H Δ σ → σ.length = Δ.length → RepL G Av' H' (capD Δ) (capV Δ σ) → ShOk G Av' H' Δ σ
  | [], _, _, _, _ => fun i d e => by simp at e
  | z :: Δ, [], _, l, _ => by simp at l
  | z :: Δ, o :: σ, h, l, r => by
    intro i d e
    cases z with
    | un =>
      cases i with
      | zero => simp at e
      | succ i =>
        obtain ⟨v, e1, q⟩ := cap_ok h.tail (by simpa using l) r i d (by simpa using e)
        exact ⟨v, by simpa using e1, q⟩
    | ow d' =>
      cases i with
      | zero => simp at e
      | succ i =>
        obtain ⟨v, e1, q⟩ := cap_ok h.tail (by simpa using l) r i d (by simpa using e)
        exact ⟨v, by simpa using e1, q⟩
    | sh d' =>
      obtain ⟨v, e', _⟩ := h 0 d' rfl
      have eo : o = some v := by simpa using e'
      subst eo
      have r' : RepL G Av' H' (d' :: capD Δ) (v :: capV Δ σ) := r
      unfold RepL at r'
      obtain ⟨v', r2, ee, r3, r4⟩ := r'
      cases ee
      cases i with
      | zero =>
        have : d' = d := by simpa using e
        subst this
        exact ⟨v, rfl, r3⟩
      | succ i =>
        obtain ⟨w, e1, q⟩ := cap_ok h.tail (by simpa using l) r4 i d (by simpa using e)
        exact ⟨w, by simpa using e1, q⟩
theorem SR.shok {c : Ct} {x : Sx} {σ : L2.St} {Δ : SD} (s : SR c x σ H Δ) : ShOk c.toGc x.Av H Δ σ := fun i d e => by
  have sl := s.slot i
  rw [e] at sl
  exact sl
end
section
variable {c : Ct} {x x2 : Sx} {σ σ2 : L2.St} {H H2 : Hp} {Δ Δ0 Δ2 : SD}
/-- a door is opened: the maker's shared data, the opener's heap -/
theorem SR.inner (s : SR c x σ H Δ) (hio : c.io = []) (hl : σ2.length = Δ0.length) (sh : ShOk c.toGc x.Av H Δ0 σ2) : SR c ⟨x.Av, fun _ => none⟩ σ2 H (strip Δ0) where
  len := by unfold strip; rw [List.length_map, hl]
  base := s.base
  tab := s.tab
  trk := s.trk
  fr := s.fr
  av := s.av
  a0 := s.a0
  ow := fun _ _ h => nomatch h
  inj := fun _ _ _ h => nomatch h
  slot := fun i => by
    unfold strip
    rw [List.getElem?_map]
    cases e : Δ0[i]? with
    | none => trivial
    | some z =>
      cases z with
      | un => trivial
      | ow d => trivial
      | sh d => exact sh i d e
  ios := by rw [hio]; exact fun _ h => nomatch h
/-- .. and left -/
theorem SR.outer (s : SR c x σ H Δ) (hio : c.io = []) (hl : σ2.length = Δ0.length) (sh : ShOk c.toGc x.Av H Δ0 σ2) (k : Kp ⟨x.Av, fun _ => none⟩ H x2 H2) (s2 : SR c x2 σ2 H2 Δ2) : Kp x H ⟨x2.Av, x.ρ⟩ H2 ∧ SR c ⟨x2.Av, x.ρ⟩ σ H2 Δ := by
  have kp : Keep c.toGc x.Av x2.Av H H2 := (s.inner hio hl sh).keep k
  have fr : ∀ a o, H a = some o → Fx o → H2 a = some o := fun a o h f => k.frame a o h f fun i e => nomatch e
  have back : ∀ a, x2.Av a → x.Av a ∨ H a = none := fun a h => by
    rcases k.avb a h with q | q | ⟨j, q⟩
    · exact .inl q
    · exact .inr q
    · cases q
  refine ⟨⟨fun a o h f _ => fr a o h f, k.trk, fun i a h => .inl ⟨i, h⟩, k.av, fun a h => (back a h).imp id .inl⟩, ?_⟩
  exact {
    len := s.len
    base := fun a o h f n => fr a o (s.base a o h f n) f
    tab := s2.tab
    trk := fun a h => s.trk a (k.trk a h)
    fr := s2.fr
    av := s2.av
    a0 := s.a0
    ow := fun i a h => ⟨fun q => (back a q).elim (s.ow i a h).1 (s.ow i a h).2.1, fun q => (s.ow i a h).2.1 (k.trk a q), (s.ow i a h).2.2⟩
    inj := s.inj
    slot := fun i => by
      have h := s.slot i
      revert h
      cases Δ[i]? with
      | none => intro _; trivial
      | some z =>
        cases z with
        | un => intro _; trivial
        | sh d => exact fun ⟨v, h1, h2⟩ => ⟨v, h1, h2.keep kp⟩
        | ow d =>
          rintro ⟨a, h0, h1, h2⟩
          refine ⟨a, h0, h1, ?_⟩
          show Own c.toGc x2.Av H2 a d
          cases d <;> first
            | exact h2.elim
            | (obtain ⟨vs, q1, q2⟩ := h2; exact ⟨vs, fr a _ q1 (by first | exact fx_lst | exact fx_dK | exact fx_dT | exact fx_nd), q2.keep kp⟩)
            | (obtain ⟨C, dx, us, q0, q1, q2⟩ := h2; exact ⟨C, dx, us, q0, fr a _ q1 fx_ins, q2.keep kp⟩)
    ios := s.ios }
end
open Classical in
/-- the door is opened: z lies in the first slot, o is what comes out -/
noncomputable def mOut (z : D) (o : Res D) : M D := fun Δ => if Δ[0]? = some (SC.sh z) then (match o with
  | .ok d _ => .ok d Δ
  | .ex n d _ => .ex n d Δ
  | .bad => .bad) else .bad
/-- what the def makes of the door -/
def mDoorR (len : Nat) (mb : D → Res D → M Fl) (o : Res D) (z : D) : RD := mDef len [] (mb z o) [z]
open Classical in
/-- f(lambda: body): the same whatever the door is -/
noncomputable def mDoor (len : Nat) (mb : D → Res D → M Fl) (fb : M D) : M D := fun Δ => if ∀ z, mDoorR len mb (fb (strip Δ)) z = mDoorR len mb (fb (strip Δ)) .non then (match mDoorR len mb (fb (strip Δ)) .non with
  | .ok d _ [] => .ok d Δ
  | _ => .bad) else .bad
end DL

-- gives: mLendT mLendF mLendS
namespace DL
open PySem L2 PySem.Spec PyProof.Rows
section
variable {c : Ct} {x x2 : Sx} {σ : L2.St} {H H2 : Hp} {Δ Δ2 : SD} {i : Nat} {d : D} {r : Addr}
theorem SR.lend (s : SR c x σ H Δ) (hio : c.io = []) (hi : Δ[i]? = some (.ow d)) (hr : x.ρ i = some r) : SR c ⟨fun b => x.Av b ∨ b = r, fun _ => none⟩ σ H ((strip Δ).set i (.sh d)) where
  len := by unfold strip; rw [List.length_set, List.length_map]; exact s.len
  base := s.base
  tab := s.tab
  trk := s.trk
  fr := fun p h => .inl (s.fr p h)
  av := fun b h => h.elim (s.av b) fun e => by
    subst e
    rcases (s.ow i b hr).2.2 with h | ⟨p, hp, _⟩
    · exact s.a0 b h
    · rw [hio] at hp; cases hp
  a0 := s.a0
  ow := fun _ _ h => nomatch h
  inj := fun _ _ _ h => nomatch h
  slot := fun j => by
    have h := s.slot j
    rw [List.getElem?_set]
    by_cases e : i = j
    · subst e
      have hl : i < (strip Δ).length := by
        unfold strip
        rw [List.length_map]
        exact (List.getElem?_eq_some_iff.mp hi).1
      rw [if_pos rfl, if_pos hl]
      obtain ⟨a, ha, hσ, ho, nav⟩ := s.owAt hi
      rw [hr] at ha
      cases ha
      exact ⟨.ref r, hσ, ho.rep⟩
    · rw [if_neg e]
      unfold strip
      rw [List.getElem?_map]
      revert h
      cases Δ[j]? with
      | none => intro _; trivial
      | some z =>
        cases z with
        | un => intro _; trivial
        | ow d => intro _; trivial
        | sh d => exact fun ⟨v, h1, h2⟩ => ⟨v, h1, h2.keep (Keep.sub fun _ _ q => .inl q)⟩
  ios := by rw [hio]; exact fun _ h => nomatch h
/-- .. and taken back -/
theorem SR.unlend (s : SR c x σ H Δ) (hio : c.io = []) (hi : Δ[i]? = some (.ow d)) (hr : x.ρ i = some r) (k : Kp ⟨fun b => x.Av b ∨ b = r, fun _ => none⟩ H x2 H2) (s2 : SR c x2 σ H2 Δ2) : Kp x H ⟨fun b => x2.Av b ∧ b ≠ r, x.ρ⟩ H2 ∧ SR c ⟨fun b => x2.Av b ∧ b ≠ r, x.ρ⟩ σ H2 Δ := by
  have nr : ¬ x.Av r := (s.ow i r hr).1
  have hn : H r ≠ none := (s.ow i r hr).2.1
  have fr : ∀ a o, H a = some o → Fx o → H2 a = some o := fun a o h f => k.frame a o h f fun i e => nomatch e
  have bk : ∀ a, x2.Av a ∧ a ≠ r → x.Av a ∨ H a = none := fun a h => by
    rcases k.avb a h.1 with (q | q) | q | ⟨j, q⟩
    · exact .inl q
    · exact absurd q h.2
    · exact .inr q
    · cases q
  have kp : Kp x H ⟨fun b => x2.Av b ∧ b ≠ r, x.ρ⟩ H2 := ⟨fun a o h f _ => fr a o h f, k.trk, fun i a h => .inl ⟨i, h⟩, fun a h n => ⟨k.av a (.inl h) n, fun e => nr (e ▸ h)⟩, fun a h => (bk a h).imp id .inl⟩
  refine ⟨kp, ?_⟩
  have ke := s.keep kp
  exact {
    len := s.len
    base := fun a o h f n => fr a o (s.base a o h f n) f
    tab := s2.tab
    trk := fun a h => s.trk a (k.trk a h)
    fr := fun p h => ⟨s2.fr p h, fun e => hn (k.trk r (e ▸ h))⟩
    av := fun a h => s2.av a h.1
    a0 := s.a0
    ow := fun j a h => ⟨fun q => (bk a q).elim (s.ow j a h).1 (s.ow j a h).2.1, fun q => (s.ow j a h).2.1 (k.trk a q), (s.ow j a h).2.2⟩
    inj := s.inj
    slot := fun j => by
      have h := s.slot j
      revert h
      cases Δ[j]? with
      | none => intro _; trivial
      | some z =>
        cases z with
        | un => intro _; trivial
        | sh d => exact fun ⟨v, h1, h2⟩ => ⟨v, h1, h2.keep ke⟩
        | ow d =>
          rintro ⟨a, h0, h1, h2⟩
          refine ⟨a, h0, h1, ?_⟩
          show Own c.toGc (fun b => x2.Av b ∧ b ≠ r) H2 a d
          cases d <;> first
            | exact h2.elim
            | (obtain ⟨vs, q1, q2⟩ := h2; exact ⟨vs, fr a _ q1 (by first | exact fx_lst | exact fx_dK | exact fx_dT | exact fx_nd), q2.keep ke⟩)
            | (obtain ⟨C, dx, us, q0, q1, q2⟩ := h2; exact ⟨C, dx, us, q0, fr a _ q1 fx_ins, q2.keep ke⟩)
    ios := by rw [hio]; exact fun _ h => nomatch h }
end
/-- the slot's object is lent for the time of a test; the other owned objects are out of sight -/
def mLendT (i : Nat) (f : M Bool) : M Bool := fun Δ => match Δ[i]? with
  | some (.ow d) => (match f ((strip Δ).set i (.sh d)) with
    | .ok b _ => .ok b Δ
    | _ => .bad)
  | _ => .bad
section
variable {X : Cx} {c : Ct} {W : WX} {e : Expr} {f : M Bool} {i : Nat}
theorem dt_lend (hio : c.io = []) (h : DT X c W e f) : DT X c W e (mLendT i f) := by
  obtain ⟨t, p, s⟩ := h.out
  refine ⟨t, p, fun x σ H Δ Q sr q => ?_⟩
  unfold mLendT at q
  cases hi : Δ[i]? with
  | none => rw [hi] at q; exact q.elim
  | some z =>
    rw [hi] at q
    cases z with
    | un => exact q.elim
    | sh d => exact q.elim
    | ow d =>
      obtain ⟨r, hr, hσ, ho, nav⟩ := sr.owAt hi
      refine s _ σ H _ Q (sr.lend hio hi hr) ?_
      dsimp only at q
      cases ef : f ((strip Δ).set i (.sh d)) with
      | bad => rw [ef] at q; exact q
      | ex n d2 Δ2 => rw [ef] at q; exact q.elim
      | ok b Δ2 =>
        rw [ef] at q
        intro x' H' k s'
        obtain ⟨kp, sr'⟩ := sr.unlend hio hi hr k s'
        exact (show okT c x σ H Q b Δ from q) _ H' kp sr'
end
/-! what it answers -/
section
variable {Δ : SD} {E : EX} {P : Bool → SD → Prop} {f : M Bool} {i : Nat} {d : D}
theorem wp_lendT (hi : Δ[i]? = some (.ow d)) (h : wp f ((strip Δ).set i (.sh d)) (K := ⟨fun b _ => P b Δ, noE⟩)) : wp (mLendT i f) Δ (K := ⟨P, E⟩) := by
  unfold wp mLendT
  rw [hi]
  dsimp only
  unfold wp at h
  cases ef : f ((strip Δ).set i (.sh d)) with
  | ok b Δ2 => rw [ef] at h; exact h
  | ex n d2 Δ2 => rw [ef] at h; exact h.elim
  | bad => rw [ef] at h; exact h.elim
end
end DL

-- gives: mLc2
namespace DL
open PySem L2

/-- an iterator that yields just these data, whatever else changes -/
def ItOkK (c : Ct) (x : Sx) (H : Hp) (J : It) (ds : List D) : Prop := ∀ x' σ' H' Δ' i, Keep c.toGc x.Av x'.Av H H' → SR c x' σ' H' Δ' →
  (ds.length ≤ i → J.stop i H') ∧ ∀ d, ds[i]? = some d → J.go i H' ∧ ∀ v H'', J.yld i H' v H'' → Ex H' H'' ∧ Rep c.toGc x'.Av H'' d v
def okIK (c : Ct) (x : Sx) (σ : St) (H : Hp) (R : It → Hp → Prop) (ds : List D) (Δ' : SD) : Prop := ∀ J x' H', Kp x H x' H' → SR c x' σ H' Δ' → ItOkK c x' H' J ds → R J H'
def SoundIK (c : Ct) (W : WX) (wi : TI) (f : M (List D)) : Prop := ∀ x σ H Δ R, SR c x σ H Δ → Post c W x σ H (okIK c x σ H R) (f Δ) → wi σ H R
structure DIK (X : Cx) (c : Ct) (W : WX) (tg iter : Expr) (f : M (List D)) : Prop where
  out : ∃ wi, PI X tg iter wi ∧ SoundIK c W wi f
theorem okIK.step {c : Ct} {x x1 : Sx} {σ : St} {H H1 : Hp} {R : It → Hp → Prop} {ds : List D} {Δ' : SD} (k : Kp x H x1 H1) (h : okIK c x σ H R ds Δ') : okIK c x1 σ H1 R ds Δ' := fun J x' H' k' => h J x' H' (k.trans k')
def tI (c : Ct) (W : WX) (f : M (List D)) : TI := fun σ H R => ∃ x Δ, SR c x σ H Δ ∧ Post c W x σ H (okIK c x σ H R) (f Δ)
section
variable {X : Cx} {c : Ct} {W : WX} {tg e e2 : Expr} {fe : M D} {f : M (List D)} {fs : M (List AK)} {p pos : Pos}
theorem DIK.pi (h : DIK X c W tg e f) : PI X tg e (tI c W f) := by
  obtain ⟨wi, pi, si⟩ := h.out
  exact ⟨fun pins s σ H R I ⟨x, Δ, sr, q⟩ => pi.run pins s σ H R I (si x σ H Δ R sr q)⟩
theorem itk_seq {x : Sx} {H : Hp} {J : It} {ds : List D} (h : ∀ {x' σ' H' Δ'} i, Keep c.toGc x.Av x'.Av H H' → SR c x' σ' H' Δ' → (ds.length ≤ i → J.stop i H') ∧ ∀ d, ds[i]? = some d → J.go i H' ∧ ∀ v H'', J.yld i H' v H'' → Ex H' H'' ∧ Rep c.toGc x'.Av H'' d v) : ItOkK c x H J ds := fun x' σ' H' Δ' i k s => h i k s
theorem itk_list {x : Sx} {H : Hp} {a : Addr} {vs : List V} {ds : List D} (ha : x.Av a) (hh : H a = some (.lst vs)) (r : RepL c.toGc x.Av H ds vs) : ItOkK c x H (Itl c.K a) ds := by
  intro x' σ' H' Δ' i kp sr'
  have q : SqL c.K H' a vs := SqL.of (kp.lst a vs ha hh)
  have r' := r.keep kp
  refine ⟨fun hi => ⟨vs, q, by rw [repL_length r]; exact hi⟩, fun d hd => ?_⟩
  obtain ⟨v, hv, rv⟩ := r'.at hd
  refine ⟨⟨vs, v, q, hv⟩, fun u H'' y => ?_⟩
  obtain ⟨e, y⟩ := y
  subst e
  have := y vs q
  rw [hv] at this; cases this
  exact ⟨Ex.refl _, rv⟩
theorem itk_tup {x : Sx} {H : Hp} {a : Addr} {vs : List V} {ds : List D} (ha : x.Av a) (hh : H a = some (.tup vs)) (r : RepL c.toGc x.Av H ds vs) : ItOkK c x H (Itt c.K a) ds := by
  intro x' σ' H' Δ' i kp sr'
  have q : SqT c.K H' a vs := SqT.of (kp.tup a vs ha hh)
  have r' := r.keep kp
  refine ⟨fun hi => ⟨vs, q, by rw [repL_length r]; exact hi⟩, fun d hd => ?_⟩
  obtain ⟨v, hv, rv⟩ := r'.at hd
  refine ⟨⟨vs, v, q, hv⟩, fun u H'' y => ?_⟩
  obtain ⟨e, y⟩ := y
  subst e
  have := y vs q
  rw [hv] at this; cases this
  exact ⟨Ex.refl _, rv⟩
theorem itk_range {x : Sx} {H : Hp} {lo : Int} {n : Nat} : ItOkK c x H (Itr lo n) (intsFrom lo n) := by
  intro x' σ' H' Δ' i k sr'
  refine ⟨fun hi => by rw [intsFrom_length] at hi; exact hi, fun d hd => ?_⟩
  rw [intsFrom_at] at hd
  split at hd
  · rename_i h
    cases hd
    refine ⟨h, fun v H'' y => ?_⟩
    obtain ⟨e1, e2⟩ := y
    subst e1 e2
    exact ⟨Ex.refl _, mk_int⟩
  · cases hd
theorem dik_seq (hK : c.K = X.K) (h : DE X c W e fe) : DIK X c W tg e (mItems fe) := by
  obtain ⟨t, p, s⟩ := h.out
  refine ⟨_, PI.or (pi_list p) (pi_tup p), fun x σ H Δ R sr q => ?_⟩
  rw [← hK]
  cases ef : fe Δ with
  | bad => unfold mItems mBind at q; rw [ef] at q; exact q.elim
  | ex n d Δ1 =>
    refine .inl (s x σ H Δ _ sr ?_)
    unfold mItems mBind at q; rw [ef] at q; rw [ef]; exact q
  | ok d Δ1 =>
    unfold mItems mBind at q; rw [ef] at q
    dsimp only at q
    cases d <;> first
      | exact q.elim
      | skip
    · refine .inl (s x σ H Δ _ sr ?_)
      rw [ef]
      intro v x1 H1 k1 sr1 r
      unfold Rep at r
      obtain ⟨a, vs, rfl, ha, hh, rl⟩ := r
      exact ⟨a, rfl, ⟨vs, SqL.of hh⟩, q _ x1 H1 k1 sr1 (itk_list ha hh rl)⟩
    · refine .inr (s x σ H Δ _ sr ?_)
      rw [ef]
      intro v x1 H1 k1 sr1 r
      unfold Rep at r
      obtain ⟨a, vs, rfl, ha, hh, rl⟩ := r
      exact ⟨a, rfl, ⟨vs, SqT.of hh⟩, q _ x1 H1 k1 sr1 (itk_tup ha hh rl)⟩
theorem dik_rng1 (hg : Gl X "range") (hm : X.mg "range" = none) (h : DA X c W [e] fs) (hs : starEach [e] X.env = [(false, eval e X.env)] := by rfl) : DIK X c W tg (.Call (.Name "range" p) [e] [] pos) (mRng dRng1 fs) := by
  obtain ⟨t, pa, s⟩ := h.out
  refine ⟨_, pi_range1 hg hm pa hs, fun x σ H Δ R sr q => s x σ H Δ _ sr (q.bind fun as Δ1 q1 vs x1 H1 k1 sr1 h1 => ?_)⟩
  obtain ⟨ds, r, q2⟩ := Post.gets sr1 h1 (q1.step k1 fun a Δ q => okIK.step k1 q)
  obtain ⟨ys, ey, q3⟩ := Post.rng q2
  unfold dRng1 at ey
  split at ey
  · split at ey
    · rename_i hz
      cases ey
      obtain ⟨v, rfl, r1⟩ := rl_one r
      rename_i j
      rw [rep_int r1]
      exact ⟨j, rfl, by omega, by omega, q3 _ x1 H1 (Kp.refl _ _) sr1 itk_range⟩
    · cases ey
  · cases ey
end
/-- a list outside of all data that a block fills -/
structure AccAt (c : Ct) (p : Addr) (x : Sx) (H : Hp) (acc : List D) (us : List V) : Prop where
  here : H p = some (.lst us)
  nv : ¬ x.Av p
  nr : ∀ j, x.ρ j ≠ some p
  rep : RepL c.toGc x.Av H acc us
section
variable {c : Ct} {p : Addr} {x x' : Sx} {σ : St} {H H' : Hp} {Δ : SD} {acc : List D} {us : List V}
theorem AccAt.step (A : AccAt c p x H acc us) (sr : SR c x σ H Δ) (k : Kp x H x' H') : AccAt c p x' H' acc us ∧ Kp x (upd H p (.lst [])) x' (upd H' p (.lst [])) := by
  have hn : H p ≠ none := by rw [A.here]; intro z; cases z
  refine ⟨⟨k.frame p _ A.here fx_lst A.nr, fun z => ?_, fun j z => ?_, A.rep.kp sr k⟩, k.hide _ hn⟩
  · rcases k.avb p z with w | w | ⟨l, w⟩
    · exact A.nv w
    · exact hn w
    · exact A.nr l w
  · rcases k.own j p z with ⟨l, w⟩ | w
    · exact A.nr l w
    · exact hn w
theorem AccAt.add (A : AccAt c p x H acc us) (sr : SR c x σ H Δ) (h0 : c.H0 p = none) {e : D} {y : V} (ry : Rep c.toGc x.Av H e y) : SR c x σ (upd H p (.lst (us ++ [y]))) Δ ∧ AccAt c p x (upd H p (.lst (us ++ [y]))) (acc ++ [e]) (us ++ [y]) := by
  have kpU : Keep c.toGc x.Av x.Av H (upd H p (.lst (us ++ [y]))) := Keep.temp _ A.nv
  exact ⟨sr.temp _ ⟨_, A.here, pln_lst⟩ A.nv A.nr h0, upd_same, A.nv, A.nr, (A.rep.app (by unfold RepL; exact ⟨y, [], rfl, ry, by unfold RepL; rfl⟩)).keep kpU⟩
/-- what is kept where that list alone is hidden -/
theorem Kp.keepHid (sr : SR c x σ H Δ) (nv : ¬ x.Av p) (k : Kp x (upd H p (.lst [])) x' (upd H' p (.lst []))) : Keep c.toGc x.Av x'.Av H H' := by
  have ne : ∀ {a}, x.Av a → a ≠ p := fun ha z => nv (z ▸ ha)
  have fr : ∀ {a o}, x.Av a → H a = some o → Fx o → H' a = some o := fun {a o} ha h f => by
    have q := k.frame a o (by rw [upd_ne (ne ha)]; exact h) f (sr.notOwned ha)
    rw [upd_ne (ne ha)] at q
    exact q
  exact ⟨fun a u ha f h => by
    rcases h with h | ⟨o, h⟩
    · exact .inl (fr ha h f)
    · exact .inr ⟨o, fr ha h fx_frz⟩, fun a v ha h => fr ha h fx_lst, fun a v ha h => fr ha h fx_tup, fun a C dx us ha h => fr ha h fx_ins,
    fun a u ha h => k.av a ha (by rw [upd_ne (ne ha)]; rcases h with h | ⟨o, h⟩ <;> (rw [h]; intro q; cases q))⟩
theorem Kp.addHid {x0 : Sx} {H0 : Hp} {o : HO} (k : Kp x0 H0 x (upd H p (.lst []))) : Kp x0 H0 x (upd (upd H p o) p (.lst [])) := by rw [upd_upd]; exact k
end

/-! ### [elt for target in iter if test for target1 in iter1 if test1] -/
def mTurns2 (vs vs1 : List Nat) (t : D → M Unit) (ft : M Bool) (fi1 : M (List D)) (t1 : D → M Unit) (ft1 : M Bool) (fe : M D) : List D → M (List D)
  | [] => fun Δ => .ok [] (wipeD Δ vs)
  | d :: ds => fun Δ => match t d (wipeD Δ vs) with
    | .ok _ Δ1 => mBind ft (fun b => if b = true then mBind fi1 fun ds1 => mBind (mTurns vs1 t1 ft1 fe ds1) fun es => mBind (mTurns2 vs vs1 t ft fi1 t1 ft1 fe ds) fun r => mPure (es ++ r) else mTurns2 vs vs1 t ft fi1 t1 ft1 fe ds) Δ1
    | _ => .bad
def mLc2 (vs vs1 : List Nat) (fi : M (List D)) (t : D → M Unit) (ft : M Bool) (fi1 : M (List D)) (t1 : D → M Unit) (ft1 : M Bool) (fe : M D) : M D := mBind fi fun ds Δ => match mTurns2 vs vs1 t ft fi1 t1 ft1 fe ds (wipeD Δ vs) with
  | .ok es Δ2 => if es.length ≤ lim then .ok (.lst es) (backD Δ Δ2 vs) else .bad
  | _ => .bad
theorem mTurns2_wipe (vs vs1 : List Nat) (t : D → M Unit) (ft : M Bool) (fi1 : M (List D)) (t1 : D → M Unit) (ft1 : M Bool) (fe : M D) (ds : List D) (Δ : SD) : mTurns2 vs vs1 t ft fi1 t1 ft1 fe ds (wipeD Δ vs) = mTurns2 vs vs1 t ft fi1 t1 ft1 fe ds Δ := by
  cases ds with
  | nil => show Res.ok [] (wipeD (wipeD Δ vs) vs) = Res.ok [] (wipeD Δ vs); rw [wipeD_twice]
  | cons d ds => unfold mTurns2; rw [wipeD_twice]
theorem wipe_sub {σ2 σ : St} {vs vs1 : List Nat} (hv : ∀ i ∈ vs1, i ∈ vs) (h : L2.wipe σ2 vs = L2.wipe σ vs) : L2.wipe (L2.wipe σ2 vs1) vs = L2.wipe σ vs := by
  rw [← h]
  apply List.ext_getElem?
  intro i
  rw [wipe_at, wipe_at, wipe_at]
  by_cases e : i ∈ vs
  · rw [if_pos e, if_pos e]
    by_cases e1 : i ∈ vs1
    · rw [if_pos e1]; cases σ2[i]? <;> rfl
    · rw [if_neg e1]
  · rw [if_neg e, if_neg e, if_neg fun z => e (hv i z)]
section
variable {c : Ct} {W : WX} {fi fi1 : M (List D)} {t t1 : D → M Unit} {ft ft1 : M Bool} {fe : M D} {js js1 : List Nat}
/-- the inner loop -/
theorem lc_in {vs1 : List Nat} {σ2 : St} {x : Sx} {H : Hp} {Δ Δf : SD} {J : It} {p : Addr} {acc es ds1 : List D} {us : List V} {Nx : Hp → Prop} (hio : ∀ q ∈ c.io, q.1 ∉ vs1) (hj : ∀ j ∈ js1, j ∈ vs1) (sr : SR c x σ2 H Δ) (A : AccAt c p x H acc us) (h0 : c.H0 p = none) (it : ItOkK c x H J ds1)
    (em : mTurns vs1 t1 ft1 fe ds1 Δ = .ok es Δf) (hz : acc.length + es.length ≤ lim)
    (fin : ∀ x' H' us', Kp x (upd H p (.lst [])) x' (upd H' p (.lst [])) → SR c x' (L2.wipe σ2 vs1) H' Δf → AccAt c p x' H' (acc ++ es) us' → Nx H') :
    ∃ W1 : Nat → Nat → Hp → Prop, (∃ m, W1 0 m H) ∧ ∀ j k H, W1 j k H →
      (J.stop j H ∧ Nx H) ∨ (J.go j H ∧ ∃ Nx1 : Hp → Prop, (∀ H', Nx1 H' → ∃ k', k' < k ∧ W1 (j + 1) k' H') ∧ ∀ x H', J.yld j H x H' → tG c js1 t1 x (L2.wipe σ2 vs1) H' fun σ3 H5 => L2.wipe σ3 vs1 = L2.wipe σ2 vs1 ∧ tT c noW ft1 σ3 H5 fun b H6 =>
        if b = true then tE c noW fe σ3 H6 fun y H7 => ∃ acc, H7 p = some (.lst acc) ∧ acc.length < sizeLine ∧ Nx1 (upd H7 p (.lst (acc ++ [y]))) else Nx1 H6) := by
  refine ⟨fun i m H' => m = ds1.length - i ∧ i ≤ ds1.length ∧ ∃ x' Δ' a1 us', Kp x (upd H p (.lst [])) x' (upd H' p (.lst [])) ∧ SR c x' (L2.wipe σ2 vs1) H' Δ' ∧ AccAt c p x' H' a1 us' ∧
    ∃ es', mTurns vs1 t1 ft1 fe (ds1.drop i) Δ' = .ok es' Δf ∧ a1 ++ es' = acc ++ es, ?_, ?_⟩
  · have kw := Kp.wipe x H vs1
    obtain ⟨A1, k1⟩ := A.step sr kw
    exact ⟨ds1.length, rfl, Nat.zero_le _, _, _, acc, us, k1, sr.wipe (vs := vs1) hio, A1, es, by rw [mTurns_wipe]; exact em, rfl⟩
  · rintro i m H' ⟨rfl, hi', x', Δ', a1, us', k', sr', A', es', em', ea⟩
    obtain ⟨stop, go⟩ := it x' _ H' Δ' i (Kp.keepHid sr A.nv k') sr'
    by_cases hlt : i < ds1.length
    · obtain ⟨gi, yi⟩ := go ds1[i] (by simp [hlt])
      rw [List.drop_eq_getElem_cons hlt] at em'
      refine .inr ⟨gi, fun H3 => ∃ x3 Δ3 a3 us3, Kp x (upd H p (.lst [])) x3 (upd H3 p (.lst [])) ∧ SR c x3 (L2.wipe σ2 vs1) H3 Δ3 ∧ AccAt c p x3 H3 a3 us3 ∧
        ∃ es3, mTurns vs1 t1 ft1 fe (ds1.drop (i + 1)) Δ3 = .ok es3 Δf ∧ a3 ++ es3 = acc ++ es, fun H3 n3 => ⟨ds1.length - (i + 1), by omega, rfl, hlt, n3⟩, fun v H2 hy => ?_⟩
      obtain ⟨ex, r⟩ := yi v H2 hy
      have k2 := Kp.ex ex x'
      have srw := (sr'.ex ex).rewipe (vs := vs1) (σ := σ2) (σ2 := L2.wipe σ2 vs1) (wipe_off (js := []) Off.refl fun _ z => nomatch z) hio
      have kw : Kp x' H' (wipeX x' vs1) H2 := k2.trans (Kp.wipe x' H2 vs1)
      refine ⟨wipeX x' vs1, wipeD Δ' vs1, ds1[i], srw, r, ?_⟩
      have em2 : (match t1 ds1[i] (wipeD Δ' vs1) with
        | .ok _ Δ1 => mBind ft1 (fun b => if b = true then mBind fe fun e => mBind (mTurns vs1 t1 ft1 fe (ds1.drop (i + 1))) fun es => mPure (e :: es) else mTurns vs1 t1 ft1 fe (ds1.drop (i + 1))) Δ1
        | _ => .bad) = Res.ok es' Δf := em'
      cases et : t1 ds1[i] (wipeD Δ' vs1) with
      | bad => rw [et] at em2; cases em2
      | ex _ _ _ => rw [et] at em2; cases em2
      | ok u Δ2 =>
        rw [et] at em2
        dsimp only at em2
        obtain ⟨b, Δ3, eft, em3⟩ := bind_ok em2
        intro σ3 x2 k3 sr2 off
        refine ⟨wipe_off off hj, x2, Δ2, sr2, ?_⟩
        rw [eft]
        intro x3 H3 k4 sr3
        have kk := (kw.trans k3).trans k4
        cases b with
        | false =>
          obtain ⟨A3, kh⟩ := A'.step sr' (kk.trans (Kp.wipe x3 H3 vs1))
          have sr3' := sr3.rewipe (vs := vs1) (wipe_off off hj) hio
          refine ⟨wipeX x3 vs1, wipeD Δ3 vs1, a1, us', k'.trans kh, sr3', A3, es', ?_, ea⟩
          rw [mTurns_wipe]
          rw [if_neg Bool.false_ne_true] at em3
          exact em3
        | true =>
          rw [if_pos rfl] at em3
          obtain ⟨e, Δ4, efe, em4⟩ := bind_ok em3
          obtain ⟨es3, Δ5, em5, em6⟩ := bind_ok em4
          cases em6
          refine ⟨x3, Δ3, sr3, ?_⟩
          rw [efe]
          intro y x5 H5 k5 sr5 ry
          obtain ⟨A5, kh⟩ := A'.step sr' ((kk.trans k5).trans (Kp.wipe x5 H5 vs1))
          have hlen : us'.length = a1.length := repL_length A'.rep
          refine ⟨us', A5.here, ?_, ?_⟩
          · have z := congrArg List.length ea
            simp at z
            exact Nat.lt_of_lt_of_le (by omega) (lim_ok hz)
          · have sr5' := (sr5.rewipe (vs := vs1) (wipe_off off hj) hio)
            obtain ⟨sr6, A6⟩ := A5.add sr5' h0 (e := e) (y := y) ry
            exact ⟨wipeX x5 vs1, wipeD Δ4 vs1, a1 ++ [e], us' ++ [y], (k'.trans kh).addHid, sr6, A6, es3, by rw [mTurns_wipe]; exact em5, by rw [List.append_assoc]; exact ea⟩
    · have e : i = ds1.length := by omega
      refine .inl ⟨stop (by omega), ?_⟩
      rw [e, List.drop_length] at em'
      have em2 : Res.ok [] (wipeD Δ' vs1) = Res.ok es' Δf := em'
      cases em2
      rw [List.append_nil] at ea
      subst ea
      have srw := sr'.rewipe (vs := vs1) (σ := σ2) (σ2 := L2.wipe σ2 vs1) (wipe_off (js := []) Off.refl fun _ z => nomatch z) hio
      obtain ⟨A6, kh⟩ := A'.step sr' (Kp.wipe x' H' vs1)
      exact fin _ H' us' (k'.trans kh) srw A6
theorem lc2_read {wi : TI} {vs vs1 : List Nat} {σ : St} {H : Hp} {Q : VK} {x : Sx} {Δ : SD} (si : SoundI c W wi fi) (hio : ∀ p ∈ c.io, p.1 ∉ vs) (hj : ∀ j ∈ js, j ∈ vs) (hv : ∀ i ∈ vs1, i ∈ vs) (hj1 : ∀ j ∈ js1, j ∈ vs1) (sr : SR c x σ H Δ) (q : Post c W x σ H (okF c x σ H Q) (mLc2 vs vs1 fi t ft fi1 t1 ft1 fe Δ)) :
    L2.tLc2 wi (tG c js t) (tT c noW ft) (tI c noW fi1) (tG c js1 t1) (tT c noW ft1) (tE c noW fe) vs vs1 σ H Q := by
  refine si x σ H Δ _ sr (q.bind fun ds Δ1 q1 J x1 H1 k1 sr1 it => ?_)
  intro p hp
  have hio1 : ∀ q ∈ c.io, q.1 ∉ vs1 := fun q hq z => hio q hq (hv _ z)
  have q2 : Post c W x σ H (okF c x σ H Q) (match mTurns2 vs vs1 t ft fi1 t1 ft1 fe ds (wipeD Δ1 vs) with
    | .ok es Δ2 => if es.length ≤ lim then Res.ok (.lst es) (backD Δ1 Δ2 vs) else .bad
    | _ => .bad) := q1
  cases em : mTurns2 vs vs1 t ft fi1 t1 ft1 fe ds (wipeD Δ1 vs) with
  | bad => rw [em] at q2; exact q2.elim
  | ex _ _ _ => rw [em] at q2; exact q2.elim
  | ok es Δf =>
  rw [em] at q2
  dsimp only at q2
  by_cases hz : es.length ≤ lim
  case neg => rw [if_neg hz] at q2; exact q2.elim
  rw [if_pos hz] at q2
  obtain ⟨kD, sD, hD0, nrD⟩ := sr1.alloc hp (Ex.new (o := .lst []) hp)
  have sW := (sD (by rw [upd_same]; intro z; cases z)).wipe (vs := vs) hio
  refine ⟨fun i m H' => m = ds.length - i ∧ i ≤ ds.length ∧ ∃ x' Δ' acc us, Kp ⟨fun a => (wipeX x1 vs).Av a ∧ a ≠ p, (wipeX x1 vs).ρ⟩ (upd H1 p (.lst [])) x' (upd H' p (.lst [])) ∧ SR c x' (L2.wipe σ vs) H' Δ' ∧ AccAt c p x' H' acc us ∧
    ∃ es', mTurns2 vs vs1 t ft fi1 t1 ft1 fe (ds.drop i) Δ' = .ok es' Δf ∧ acc ++ es' = es, ?_, ?_⟩
  · refine ⟨ds.length, rfl, Nat.zero_le _, _, _, [], [], ?_, sW, ⟨upd_same, fun z => z.2 rfl, fun j h => nrD j (wipeX_rho h).2, by unfold RepL; rfl⟩, es, em, rfl⟩
    rw [upd_upd]
    exact Kp.refl _ _
  · rintro i m H' ⟨rfl, hi', x', Δ', acc, us, k', sr', A', es', em', ea⟩
    have kx : Kp (wipeX x1 vs) H1 x' H' := Kp.show_ hp (by rw [A'.here]; intro z; cases z) k'
    have kx1 : Kp x1 H1 x' H' := (Kp.wipe x1 H1 vs).trans kx
    obtain ⟨stop, go⟩ := it x' _ H' Δ' i kx1 sr'
    by_cases hlt : i < ds.length
    · obtain ⟨gi, yi⟩ := go ds[i] (by simp [hlt])
      rw [List.drop_eq_getElem_cons hlt] at em'
      refine .inr ⟨gi, fun H3 => ∃ x3 Δ3 acc3 us3, Kp ⟨fun a => (wipeX x1 vs).Av a ∧ a ≠ p, (wipeX x1 vs).ρ⟩ (upd H1 p (.lst [])) x3 (upd H3 p (.lst [])) ∧ SR c x3 (L2.wipe σ vs) H3 Δ3 ∧ AccAt c p x3 H3 acc3 us3 ∧
        ∃ es3, mTurns2 vs vs1 t ft fi1 t1 ft1 fe (ds.drop (i + 1)) Δ3 = .ok es3 Δf ∧ acc3 ++ es3 = es, fun H3 n3 => ⟨ds.length - (i + 1), by omega, rfl, hlt, n3⟩, fun v H2 hy => ?_⟩
      obtain ⟨ex, r⟩ := yi v H2 hy
      have k2 := Kp.ex ex x'
      have srw := (sr'.ex ex).rewipe (vs := vs) (σ := σ) (σ2 := L2.wipe σ vs) (wipe_off (js := []) Off.refl fun _ z => nomatch z) hio
      have kw : Kp x' H' (wipeX x' vs) H2 := k2.trans (Kp.wipe x' H2 vs)
      refine ⟨wipeX x' vs, wipeD Δ' vs, ds[i], srw, r, ?_⟩
      have em2 : (match t ds[i] (wipeD Δ' vs) with
        | .ok _ Δ1 => mBind ft (fun b => if b = true then mBind fi1 fun ds1 => mBind (mTurns vs1 t1 ft1 fe ds1) fun es => mBind (mTurns2 vs vs1 t ft fi1 t1 ft1 fe (ds.drop (i + 1))) fun r => mPure (es ++ r) else mTurns2 vs vs1 t ft fi1 t1 ft1 fe (ds.drop (i + 1))) Δ1
        | _ => .bad) = Res.ok es' Δf := em'
      cases et : t ds[i] (wipeD Δ' vs) with
      | bad => rw [et] at em2; cases em2
      | ex _ _ _ => rw [et] at em2; cases em2
      | ok u Δ2 =>
        rw [et] at em2
        dsimp only at em2
        obtain ⟨b, Δ3, eft, em3⟩ := bind_ok em2
        intro σ2 x2 k3 sr2 off
        refine ⟨wipe_off off hj, x2, Δ2, sr2, ?_⟩
        rw [eft]
        intro x3 H3 k4 sr3
        have kk := (kw.trans k3).trans k4
        cases b with
        | false =>
          obtain ⟨A3, kh⟩ := A'.step sr' (kk.trans (Kp.wipe x3 H3 vs))
          have sr3' := sr3.rewipe (vs := vs) (wipe_off off hj) hio
          refine ⟨wipeX x3 vs, wipeD Δ3 vs, acc, us, k'.trans kh, sr3', A3, es', ?_, ea⟩
          rw [mTurns2_wipe]
          rw [if_neg Bool.false_ne_true] at em3
          exact em3
        | true =>
          rw [if_pos rfl] at em3
          obtain ⟨ds1, Δ4, ef1, em4⟩ := bind_ok em3
          obtain ⟨es1, Δ5, em5, em6⟩ := bind_ok em4
          obtain ⟨r1, Δ6, em7, em8⟩ := bind_ok em6
          cases em8
          refine ⟨x3, Δ3, sr3, ?_⟩
          rw [ef1]
          intro J1 x4 H4 k5 sr4 it1
          obtain ⟨A4, kh4⟩ := A'.step sr' (kk.trans k5)
          have hz1 : acc.length + es1.length ≤ lim := by
            have z := congrArg List.length ea
            simp at z
            omega
          refine lc_in hio1 hj1 sr4 A4 hD0 it1 em5 hz1 fun x6 H6 us6 k6 sr6 A6 => ?_
          obtain ⟨A7, k7⟩ := A6.step sr6 (Kp.wipe x6 H6 vs)
          refine ⟨wipeX x6 vs, wipeD Δ5 vs, acc ++ es1, us6, (((k'.trans kh4).trans k6).trans k7), sr6.rewipe (vs := vs) (wipe_sub hv (wipe_off off hj)) hio, A7, r1, by rw [mTurns2_wipe]; exact em7, by rw [List.append_assoc]; exact ea⟩
    · have e : i = ds.length := by omega
      refine .inl ⟨stop (by omega), ?_⟩
      rw [e, List.drop_length] at em'
      have em2 : Res.ok [] (wipeD Δ' vs) = Res.ok es' Δf := em'
      cases em2
      rw [List.append_nil] at ea
      subst ea
      have srw := sr'.rewipe (vs := vs) (σ := σ) (σ2 := L2.wipe σ vs) (wipe_off (js := []) Off.refl fun _ z => nomatch z) hio
      obtain ⟨kb, sb⟩ := sr1.back (kx.trans (Kp.wipe x' H' vs)) srw hio
      refine q2 p _ H' (k1.trans kb) sb hD0 (k1.trk p hp) A'.nv (fun l z => ?_) ⟨us, A'.here, A'.rep⟩
      have z' : (if l ∈ vs then x1.ρ l else (wipeX x' vs).ρ l) = some p := z
      by_cases hl : l ∈ vs
      · rw [if_pos hl] at z'; exact nrD l z'
      · rw [if_neg hl] at z'; exact A'.nr l (wipeX_rho z').2
variable {X : Cx} {elt tg iter tg1 iter1 : Expr} {ifs ifs1 : List Expr} {scope : Scope} {own : List (Str × Nat)} {vs1 : List Nat} {pos : Pos}
theorem df_lc2 (hc : X.calm = true) (hN : X.N.Nodup) (hio : ∀ p ∈ c.io, p.1 ∉ own.map (·.2)) (hj : ∀ j ∈ js, j ∈ own.map (·.2)) (hv : ∀ i ∈ vs1, i ∈ own.map (·.2)) (hj1 : ∀ j ∈ js1, j ∈ vs1) (hi : DI X c W tg iter fi) (ok : BlkOk X.N X.env.scope scope own)
    (hg : ∀ (s : Shared) (H : Hp) (C : Addr) (cl : List (Str × Addr)) (fp : List Addr), DG (X.blk s H scope (compEnvC scope cl C X.env) fp) c tg js t)
    (ht : ∀ (s : Shared) (H : Hp) (C : Addr) (cl : List (Str × Addr)) (fp : List Addr), DTs (X.blk s H scope (compEnvC scope cl C X.env) fp) c noW ifs ft)
    (hi1 : ∀ (s : Shared) (H : Hp) (C : Addr) (cl : List (Str × Addr)) (fp : List Addr), DIK (X.blk s H scope (compEnvC scope cl C X.env) fp) c noW tg1 iter1 fi1)
    (hg1 : ∀ (s : Shared) (H : Hp) (C : Addr) (cl : List (Str × Addr)) (fp : List Addr), DG (X.blk s H scope (compEnvC scope cl C X.env) fp) c tg1 js1 t1)
    (ht1 : ∀ (s : Shared) (H : Hp) (C : Addr) (cl : List (Str × Addr)) (fp : List Addr), DTs (X.blk s H scope (compEnvC scope cl C X.env) fp) c noW ifs1 ft1)
    (he : ∀ (s : Shared) (H : Hp) (C : Addr) (cl : List (Str × Addr)) (fp : List Addr), DE (X.blk s H scope (compEnvC scope cl C X.env) fp) c noW elt fe) (hs : ∀ x, foldedSetIterable iter X.env x = pure x := by intro _; rfl) (hs1 : ∀ env x, foldedSetIterable iter1 env x = pure x := by intro _ _; rfl) :
    DF X c W (.ListComp elt [⟨tg, iter, ifs, 0⟩, ⟨tg1, iter1, ifs1, 0⟩] scope pos) (mLc2 (own.map (·.2)) vs1 fi t ft fi1 t1 ft1 fe) := by
  obtain ⟨wi, pi, si⟩ := hi.out
  exact ⟨_, pe_lc2 hc hN pi ok hv (fun s H C cl fp => (hg s H C cl fp).pg) (fun s H C cl fp => (ht s H C cl fp).pts) (fun s H C cl fp => (hi1 s H C cl fp).pi) (fun s H C cl fp => (hg1 s H C cl fp).pg) (fun s H C cl fp => (ht1 s H C cl fp).pts) (fun s H C cl fp => (he s H C cl fp).pe) hs hs1, fun x σ H Δ Q sr q => lc2_read si hio hj hv hj1 sr q⟩
end

/-! ### what it answers -/
section
variable {Δ : SD} {E : EX} {vs vs1 : List Nat} {fi fi1 : M (List D)} {t t1 : D → M Unit} {ft ft1 : M Bool} {fe : M D}
@[simp] theorem wp_lc2 {P : D → SD → Prop} : wp (mLc2 vs vs1 fi t ft fi1 t1 ft1 fe) Δ (K := ⟨P, E⟩) = wp fi Δ (K := ⟨(fun ds Δ1 => wp (mTurns2 vs vs1 t ft fi1 t1 ft1 fe ds) (wipeD Δ1 vs) (K := ⟨(fun es Δ2 => es.length ≤ lim ∧ P (.lst es) (backD Δ1 Δ2 vs)), noE⟩)), E⟩) := by
  unfold mLc2
  rw [wp_bind]
  refine wp_ext fun ds Δ1 => ?_
  unfold wp
  dsimp only
  cases mTurns2 vs vs1 t ft fi1 t1 ft1 fe ds (wipeD Δ1 vs) with
  | ok es Δ2 => by_cases h : es.length ≤ lim <;> simp [h]
  | ex n d Δ' => rfl
  | bad => rfl
theorem wp_turns2_nil {P : List D → SD → Prop} : wp (mTurns2 vs vs1 t ft fi1 t1 ft1 fe []) Δ (K := ⟨P, E⟩) = P [] (wipeD Δ vs) := by unfold wp; rfl
/-- two clauses that change nothing -/
theorem wp_turns2_mapA {α : Type} {xs : List α} {cv : α → D} {P : List D → SD → Prop} (F : α → List D)
    (step : ∀ a ∈ xs, wp (t (cv a)) (wipeD Δ vs) (K := ⟨(fun _ Δ1 => wp ft Δ1 (K := ⟨(fun b Δ2 => b = true ∧ wp fi1 Δ2 (K := ⟨(fun ds1 Δ3 => wp (mTurns vs1 t1 ft1 fe ds1) Δ3 (K := ⟨(fun es Δ4 => es = F a ∧ wipeD Δ4 vs = wipeD Δ vs), E⟩)), E⟩)), E⟩)), noE⟩))
    (fin : P (xs.flatMap F) (wipeD Δ vs)) : wp (mTurns2 vs vs1 t ft fi1 t1 ft1 fe (xs.map cv)) Δ (K := ⟨P, E⟩) := by
  have go : ∀ (xs : List α) (acc : List D) (Δ0 : SD), wipeD Δ0 vs = wipeD Δ vs → (∀ a ∈ xs, wp (t (cv a)) (wipeD Δ vs) (K := ⟨(fun _ Δ1 => wp ft Δ1 (K := ⟨(fun b Δ2 => b = true ∧ wp fi1 Δ2 (K := ⟨(fun ds1 Δ3 => wp (mTurns vs1 t1 ft1 fe ds1) Δ3 (K := ⟨(fun es Δ4 => es = F a ∧ wipeD Δ4 vs = wipeD Δ vs), E⟩)), E⟩)), E⟩)), noE⟩)) → P (acc ++ xs.flatMap F) (wipeD Δ vs) → wp (mTurns2 vs vs1 t ft fi1 t1 ft1 fe (xs.map cv)) Δ0 (K := ⟨(fun es Δ' => P (acc ++ es) Δ'), E⟩) := by
    intro xs
    induction xs with
    | nil =>
      intro acc Δ0 e0 st fin
      show wp (mTurns2 vs vs1 t ft fi1 t1 ft1 fe []) Δ0 (K := ⟨_, E⟩)
      rw [wp_turns2_nil, e0]
      exact fin
    | cons a xs ih =>
      intro acc Δ0 e0 st fin
      have e : wp (mTurns2 vs vs1 t ft fi1 t1 ft1 fe ((a :: xs).map cv)) Δ0 (K := ⟨(fun es Δ' => P (acc ++ es) Δ'), E⟩) = wp (fun Δ => match t (cv a) Δ with
        | .ok _ Δ1 => mBind ft (fun b => if b = true then mBind fi1 fun ds1 => mBind (mTurns vs1 t1 ft1 fe ds1) fun es => mBind (mTurns2 vs vs1 t ft fi1 t1 ft1 fe (xs.map cv)) fun r => mPure (es ++ r) else mTurns2 vs vs1 t ft fi1 t1 ft1 fe (xs.map cv)) Δ1
        | _ => .bad) (wipeD Δ0 vs) (K := ⟨(fun es Δ' => P (acc ++ es) Δ'), E⟩) := by unfold wp; rfl
      rw [e, e0]
      refine wp_tg (wp_mono (st a (List.mem_cons_self ..)) (fun _ Δ1 q => ?_) fun _ _ _ z => z)
      rw [wp_bind]
      refine wp_mono q (fun b Δ2 q2 => ?_) fun _ _ _ z => z
      rw [if_pos q2.1, wp_bind]
      refine wp_mono q2.2 (fun ds1 Δ3 q3 => ?_) fun _ _ _ z => z
      rw [wp_bind]
      refine wp_mono q3 (fun es Δ4 q4 => ?_) fun _ _ _ z => z
      rw [wp_bind]
      obtain ⟨rfl, e4⟩ := q4
      refine wp_mono (ih (acc ++ F a) Δ4 e4 (fun b hb => st b (List.mem_cons_of_mem _ hb)) (by rw [List.append_assoc]; exact fin)) (fun r Δ5 q5 => ?_) fun _ _ _ z => z
      rw [wp_pure]
      rw [List.append_assoc] at q5
      exact q5
  have := go xs [] Δ rfl step fin
  exact this
end
end DL

-- gives: putND dGetN dNx dInN mKeysN mKeysE mNewN
namespace DL
open PySem L2 PySem.Spec PyProof.Rows

/-! ### keys -/
mutual
theorem noTx_hash (w w' : World) : ∀ k : NestedKey, noTx k = true → k.hash w = k.hash w'
  | .num i, _ => rfl
  | .tup ks, h => by
    have h : noTxL ks = true := by simpa [noTx] using h
    unfold NestedKey.hash
    rw [noTxL_hash w w' ks h]
  | .none, h => by simp [noTx] at h
  | .text _, h => by simp [noTx] at h
theorem noTxL_hash (w w' : World) : ∀ ks : List NestedKey, noTxL ks = true → NestedKey.hashes w ks = NestedKey.hashes w' ks
  | [], _ => rfl
  | k :: ks, h => by
    have h : noTx k = true ∧ noTxL ks = true := by simpa [noTxL] using h
    unfold NestedKey.hashes
    rw [noTx_hash w w' k h.1, noTxL_hash w w' ks h.2]
end
mutual
theorem nkD_noTx : ∀ {d : D} {k : NestedKey}, nkD d = some k → noTx k = true
  | .int i, k, e => by
    have e : some (NestedKey.num i) = some k := by simpa [nkD] using e
    cases e; rfl
  | .tup ds, k, e => by
    have e : (nksD ds).map NestedKey.tup = some k := by simpa [nkD] using e
    rw [Option.map_eq_some_iff] at e
    obtain ⟨ks, e9, rfl⟩ := e
    have := nksD_noTx e9
    simpa [noTx] using this
  | .non, k, e => by simp [nkD] at e
  | .bl _, k, e => by simp [nkD] at e
  | .str _, k, e => by simp [nkD] at e
  | .lst _, k, e => by simp [nkD] at e
  | .dct _, k, e => by simp [nkD] at e
  | .dcT _, k, e => by simp [nkD] at e
  | .dcN _, k, e => by simp [nkD] at e
  | .obj _ _, k, e => by simp [nkD] at e
  | .scr _, k, e => by simp [nkD] at e
  | .cls _, k, e => by simp [nkD] at e
  | .ty _, k, e => by simp [nkD] at e
  | .clo _ _ _, k, e => by simp [nkD] at e
theorem nksD_noTx : ∀ {ds : List D} {ks : List NestedKey}, nksD ds = some ks → noTxL ks = true
  | [], ks, e => by
    have e : some [] = some ks := by simpa [nksD] using e
    cases e; rfl
  | d :: ds, ks, e => by
    have e : ((nkD d).bind fun k => (nksD ds).map fun ks => k :: ks) = some ks := by simpa [nksD] using e
    rw [Option.bind_eq_some_iff] at e
    obtain ⟨k, e1, e2⟩ := e
    rw [Option.map_eq_some_iff] at e2
    obtain ⟨ks', e3, rfl⟩ := e2
    have h1 := nkD_noTx e1
    have h2 := nksD_noTx e3
    simp [noTxL, h1, h2]
end
section
variable {P : Program} {w : World} {h : Heap} {G : Gc} {Av : Addr → Prop} {H : Hp}
mutual
theorem nkD_is (ok : HOk P w H h) : ∀ {d : D} {k : NestedKey} {v : V} {u : Value}, nkD d = some k → Rep G Av H d v → RelV v u → NestedIs h k u
  | .int i, k, v, u, e, r, ru => by
    have e : some (NestedKey.num i) = some k := by simpa [nkD] using e
    cases e
    unfold Rep at r
    subst r
    obtain ⟨t, q⟩ := (show ∃ t, u = Value.int i t from ru)
    subst q
    exact .int _ _
  | .tup ds, k, v, u, e, r, ru => by
    have e : (nksD ds).map NestedKey.tup = some k := by simpa [nkD] using e
    rw [Option.map_eq_some_iff] at e
    obtain ⟨ks, e9, rfl⟩ := e
    unfold Rep at r
    obtain ⟨a, vs, rfl, _, hh, rl⟩ := r
    cases (show u = Value.ref a from ru)
    obtain ⟨_, its, rv, ob, g, c, n, hd⟩ := ok a _ hh
    exact .tup g c hd (by simpa using nksD_is ok e9 rl rv)
  | .non, k, v, u, e, _, _ => by simp [nkD] at e
  | .bl _, k, v, u, e, _, _ => by simp [nkD] at e
  | .str _, k, v, u, e, _, _ => by simp [nkD] at e
  | .lst _, k, v, u, e, _, _ => by simp [nkD] at e
  | .dct _, k, v, u, e, _, _ => by simp [nkD] at e
  | .dcT _, k, v, u, e, _, _ => by simp [nkD] at e
  | .dcN _, k, v, u, e, _, _ => by simp [nkD] at e
  | .obj _ _, k, v, u, e, _, _ => by simp [nkD] at e
  | .scr _, k, v, u, e, _, _ => by simp [nkD] at e
  | .cls _, k, v, u, e, _, _ => by simp [nkD] at e
  | .ty _, k, v, u, e, _, _ => by simp [nkD] at e
  | .clo _ _ _, k, v, u, e, _, _ => by simp [nkD] at e
theorem nksD_is (ok : HOk P w H h) : ∀ {ds : List D} {ks : List NestedKey} {vs : List V} {us : List Value}, nksD ds = some ks → RepL G Av H ds vs → Vals vs us → NestedAll h ks us
  | [], ks, vs, us, e, r, ru => by
    have e : some [] = some ks := by simpa [nksD] using e
    cases e
    unfold RepL at r
    subst r
    cases ru
    exact .nil
  | d :: ds, ks, vs, us, e, r, ru => by
    have e : ((nkD d).bind fun k => (nksD ds).map fun ks => k :: ks) = some ks := by simpa [nksD] using e
    rw [Option.bind_eq_some_iff] at e
    obtain ⟨k, e1, e2⟩ := e
    rw [Option.map_eq_some_iff] at e2
    obtain ⟨ks', e3, rfl⟩ := e2
    unfold RepL at r
    obtain ⟨v, r', rfl, r1, r2⟩ := r
    cases ru with
    | cons q1 q2 => exact .cons (nkD_is ok e1 r1 q1) (nksD_is ok e3 r2 q2)
end
end
/-- a key of such a dict -/
def nkT : D → Option NestedKey
  | .tup ds => (nksD ds).bind fun ks => if (NestedKey.tup ks).depth ≤ 8 then some (.tup ks) else none
  | _ => none
theorem nkT_some {d : D} {k : NestedKey} (e : nkT d = some k) : ∃ ds, d = .tup ds ∧ nkD d = some k ∧ k.depth ≤ 8 ∧ noTx k = true := by
  unfold nkT at e
  split at e
  · rename_i ds
    rw [Option.bind_eq_some_iff] at e
    obtain ⟨ks, e1, e2⟩ := e
    split at e2
    · cases e2
      have z : nkD (.tup ds) = some (.tup ks) := by simp [nkD, e1]
      exact ⟨ds, rfl, z, by assumption, nkD_noTx z⟩
    · cases e2
  · cases e

/-! ### the dict of the heap -/
abbrev NdZ := NestedKey × Addr × Value
abbrev PairU : List NdE → List NdZ → Prop := Paired fun u z => z.1 = u.1 ∧ z.2.1 = u.2.1 ∧ RelV u.2.2 z.2.2
def valU (us : List NdE) (k : NestedKey) : Option V := (us.find? fun u => decide (u.1 = k)).map (·.2.2)
def putU (us : List NdE) (k : NestedKey) (b : Addr) (v : V) : List NdE :=
  if (us.any fun u => decide (u.1 = k)) = true then us.map (fun u => if u.1 = k then (u.1, u.2.1, v) else u) else us ++ [(k, b, v)]
theorem pairU_val {us : List NdE} {zs : List NdZ} (p : PairU us zs) (k : NestedKey) : (valU us k = none ∧ atKey zs k = none ∧ (us.any fun u => decide (u.1 = k)) = false) ∨ ∃ v q, valU us k = some v ∧ atKey zs k = some q ∧ RelV v q.2 ∧ (us.any fun u => decide (u.1 = k)) = true := by
  induction p with
  | nil => exact .inl ⟨rfl, rfl, rfl⟩
  | @cons u z us zs h t ih =>
    by_cases e : u.1 = k
    · have e' : z.1 = k := h.1.trans e
      exact .inr ⟨u.2.2, z.2, by simp [valU, e], by simp [atKey, e'], h.2.2, by simp [e]⟩
    · have e' : ¬ z.1 = k := fun q => e (h.1.symm.trans q)
      have a1 : valU (u :: us) k = valU us k := by simp [valU, e]
      have a2 : atKey (z :: zs) k = atKey zs k := by simp [atKey, e']
      have a3 : ((u :: us).any fun u => decide (u.1 = k)) = us.any fun u => decide (u.1 = k) := by simp [e]
      rw [a1, a2, a3]
      exact ih
theorem pairU_map {us : List NdE} {zs : List NdZ} (p : PairU us zs) (k : NestedKey) {v : V} {r : Value} (rv : RelV v r) : PairU (us.map fun u => if u.1 = k then (u.1, u.2.1, v) else u) (zs.map (putAt k r)) := by
  induction p with
  | nil => exact .nil
  | @cons u z us zs h t ih =>
    rw [List.map_cons, List.map_cons]
    refine .cons ?_ ih
    unfold putAt
    by_cases e : u.1 = k
    · rw [if_pos e, if_pos (h.1.trans e)]; exact ⟨h.1, h.2.1, rv⟩
    · rw [if_neg e, if_neg fun q => e (h.1.symm.trans q)]; exact h
theorem pairU_snoc {us : List NdE} {zs : List NdZ} (p : PairU us zs) (k : NestedKey) (b : Addr) {v : V} {r : Value} (rv : RelV v r) : PairU (us ++ [(k, b, v)]) (zs ++ [(k, b, r)]) := by
  induction p with
  | nil => exact .cons ⟨rfl, rfl, rv⟩ .nil
  | cons h t ih => exact .cons h ih
theorem pairU_put {us : List NdE} {zs : List NdZ} (p : PairU us zs) (k : NestedKey) (b : Addr) {v : V} {r : Value} (rv : RelV v r) : PairU (putU us k b v) (storedH zs k b r) := by
  unfold putU storedH
  rcases pairU_val p k with ⟨_, e2, e3⟩ | ⟨_, q, _, e2, _, e3⟩
  · rw [e2, e3]; exact pairU_snoc p k b rv
  · rw [e2, e3]; exact pairU_map p k rv
theorem putU_len (us : List NdE) (k : NestedKey) (b : Addr) (v : V) : (putU us k b v).length ≤ us.length + 1 := by
  unfold putU; split <;> simp
theorem putU_mem {us : List NdE} {k : NestedKey} {b : Addr} {v : V} {u : NdE} (h : u ∈ putU us k b v) : u.1 = k ∨ ∃ u' ∈ us, u'.1 = u.1 := by
  unfold putU at h
  split at h
  · rw [List.mem_map] at h
    obtain ⟨u', h1, h2⟩ := h
    refine .inr ⟨u', h1, ?_⟩
    split at h2 <;> rw [← h2]
  · rw [List.mem_append, List.mem_singleton] at h
    rcases h with h | h
    · exact .inr ⟨u, h, rfl⟩
    · exact .inl (by rw [h])
theorem putU_nodup {us : List NdE} {k : NestedKey} {b : Addr} {v : V} (h : (us.map (·.1)).Nodup) : ((putU us k b v).map (·.1)).Nodup := by
  unfold putU
  split
  · have e : (us.map fun u => if u.1 = k then (u.1, u.2.1, v) else u).map (·.1) = us.map (·.1) := by
      rw [List.map_map]
      refine List.map_congr_left fun u _ => ?_
      show (if u.1 = k then (u.1, u.2.1, v) else u).1 = u.1
      split <;> rfl
    rw [e]; exact h
  · rename_i hn
    rw [List.map_append, List.nodup_append]
    refine ⟨h, by simp, fun x hx y hy => ?_⟩
    simp at hy
    subst hy
    intro e
    rw [List.mem_map] at hx
    obtain ⟨u, h1, h2⟩ := hx
    apply hn
    rw [List.any_eq_true]
    exact ⟨u, h1, by simp [h2, e]⟩
theorem pairU_keys {us : List NdE} {zs : List NdZ} (p : PairU us zs) : zs.map (·.1) = us.map (·.1) := by
  induction p with
  | nil => rfl
  | cons h t ih => rw [List.map_cons, List.map_cons, h.1, ih]
theorem nd_stay {p : Addr} {us : List NdE} {ob : Obj} {φ : Heap → Prop} (e : NdO p us ob = .ext φ) : ∀ h1 h2 : Heap, φ h1 → (∀ o, h1.get? p = some o → h2.get? p = some o) → φ h2 := by
  unfold NdO at e
  injection e with e
  subst e
  rintro h1 h2 ⟨a, b, c, d, es, ep, zs, g, r⟩ k
  exact ⟨a, b, c, d, es, ep, zs, k ob g, r⟩
/-- such a dict may be read -/
def RdN (H : Hp) (a : Addr) (us : List NdE) : Prop := ∃ ob, Rd H a (NdO a us ob)
theorem nd_ok {P : Program} {w : World} {H : Hp} {h : Heap} {p : Addr} {us : List NdE} (nd : (us.map (·.1)).Nodup) (l : us.length ≤ sizeLine) (hs : (p == sysModules) = false) (hk : ∀ u ∈ us, noTx u.1 = true ∧ u.1.depth ≤ 8) {zs : List NdZ} (pr : PairU us zs) (dd : h.DictOfH (nestedKind P w) p zs) {ob : Obj} (g0 : h.get? p = some ob) : ObjOk P w H h p (NdO p us ob) := by
  obtain ⟨o, es, ep, g, ex, hd, he, _, _⟩ := dd
  rw [g0] at g
  cases g
  refine ⟨⟨nd, l, hs, hk, es, ep, zs, g0, ex, hd, pr, fun w' => ?_⟩, ⟨ob, g0⟩, nd_stay rfl⟩
  rw [he]
  refine List.map_congr_left fun z hz => ?_
  have nt : noTx z.1 = true := by
    have : ∀ {us : List NdE} {zs : List NdZ}, PairU us zs → (∀ u ∈ us, noTx u.1 = true ∧ u.1.depth ≤ 8) → ∀ z ∈ zs, noTx z.1 = true := by
      intro us zs p
      induction p with
      | nil => intro _ z hz; cases hz
      | cons h t ih =>
        intro hk z hz
        rcases List.mem_cons.mp hz with rfl | hz
        · rw [h.1]; exact (hk _ (List.mem_cons_self ..)).1
        · exact ih (fun u hu => hk u (List.mem_cons_of_mem _ hu)) z hz
    exact this pr hk z hz
  show (⟨z.1.hash w, .ref z.2.1, z.2.2⟩ : DictEntry) = ⟨z.1.hash w', .ref z.2.1, z.2.2⟩
  rw [noTx_hash w w' z.1 nt]
section
variable {P : Program} {w : World} {h : Heap} {G : Gc} {Av : Addr → Prop} {H : Hp} {a : Addr} {us : List NdE} {kvs : List (D × D)}
theorem repN_mem : ∀ {kvs : List (D × D)} {us : List NdE}, RepN G Av H kvs us → ∀ u ∈ us, ∃ dk, nkD dk = some u.1 ∧ Rep G Av H dk (.ref u.2.1)
  | [], us, h, u, hu => by unfold RepN at h; subst h; cases hu
  | (dk, d) :: r, us, h, u, hu => by
    unfold RepN at h
    obtain ⟨k, p, v, r', rfl, e, h1, h2, h3⟩ := h
    rcases List.mem_cons.mp hu with rfl | hu
    · exact ⟨dk, e, h1⟩
    · exact repN_mem h3 u hu
theorem nd_rd (ok : HOk P w H h) (r : RdN H a us) (rn : RepN G Av H kvs us) : us.length ≤ sizeLine ∧ (a == sysModules) = false ∧ (us.map (·.1)).Nodup ∧ (∀ u ∈ us, noTx u.1 = true ∧ u.1.depth ≤ 8) ∧ ∃ zs, PairU us zs ∧ h.DictOfH (nestedKind P w) a zs := by
  obtain ⟨o, r⟩ := r
  obtain ⟨⟨nd, l, hs, hk, es, ep, zs, g, ex, hd, pr, he⟩, _, _⟩ := r.ok ok
  refine ⟨l, hs, nd, hk, zs, pr, o, es, ep, g, ex, hd, he w, ?_, ?_⟩
  · have : ∀ {us : List NdE} {zs : List NdZ}, PairU us zs → (∀ u ∈ us, NestedIs h u.1 (.ref u.2.1) ∧ u.1.depth ≤ 8) → ∀ z ∈ zs, NestedIs h z.1 (.ref z.2.1) ∧ z.1.depth ≤ 8 := by
      intro us zs p
      induction p with
      | nil => intro _ z hz; cases hz
      | cons h t ih =>
        intro hk z hz
        rcases List.mem_cons.mp hz with rfl | hz
        · rw [h.1, h.2.1]; exact hk _ (List.mem_cons_self ..)
        · exact ih (fun u hu => hk u (List.mem_cons_of_mem _ hu)) z hz
    refine this pr fun u hu => ⟨?_, (hk u hu).2⟩
    obtain ⟨dk, e1, e2⟩ := repN_mem rn u hu
    exact nkD_is ok e1 e2 (show RelV (.ref u.2.1) (.ref u.2.1) from rfl)
  · rw [pairU_keys pr]; exact nd
end
/-- a dict that may be read, a key -/
structure NdAt (H : Hp) (a : Addr) (us : List NdE) (y : V) (k : NestedKey) (b : Addr) : Prop where
  out : ∃ (G : Gc) (Av : Addr → Prop) (kvs : List (D × D)) (dk : D), RepN G Av H kvs us ∧ nkD dk = some k ∧ Rep G Av H dk y
  rd : RdN H a us
  dp : k.depth ≤ 8
  nt : noTx k = true
  ey : y = .ref b
section
variable {X : Cx} {pins : List (Addr × Obj)} {σ : L2.St} {H : Hp} {s : Shared} {a b : Addr} {us : List NdE} {k : NestedKey} {y v : V} {u r : Value} {A : Around} {E : Value → Shared → Prop}
theorem NdAt.at (n : NdAt H a us y k b) (I : Inv X pins σ H s) (ry : RelV y u) : u = .ref b ∧ (nestedKind X.prog X.w).is s.heap k b ∧ us.length ≤ sizeLine ∧ (a == sysModules) = false ∧ (us.map (·.1)).Nodup ∧ (∀ u ∈ us, noTx u.1 = true ∧ u.1.depth ≤ 8) ∧ ∃ zs, PairU us zs ∧ s.heap.DictOfH (nestedKind X.prog X.w) a zs := by
  obtain ⟨G, Av, kvs, dk, rn, e, rk⟩ := n.out
  have ey := n.ey
  subst ey
  cases (show u = Value.ref b from ry)
  exact ⟨rfl, ⟨nkD_is I.hok e rk (show RelV (.ref b) (.ref b) from rfl), n.dp⟩, nd_rd I.hok n.rd rn⟩
theorem nd_getItem {Q : Value → Shared → Prop} (hu : A.units + 64 < cLine) (I : Inv X pins σ H s) (n : NdAt H a us y k b) (ry : RelV y u) (hv : valU us k = some v) (h : ∀ w' s', Inv X pins σ H s' → RelV v w' → Q w' s') :
    wpAny (model X.prog X.w) A (getItem (.ref a) u) Q E s := by
  obtain ⟨rfl, hk, _, _, _, _, zs, pr, dd⟩ := n.at I ry
  rcases pairU_val pr k with ⟨e1, _⟩ | ⟨v', q, e1, e2, e3, _⟩
  · rw [e1] at hv; cases hv
  · rw [e1] at hv; cases hv
    exact wpAny_getItem_heap (show A.in1.units + 8 < cLine by rw [Around.in1_units]; omega) hk dd e2 (h _ _ (I.tok _) e3)
theorem nd_in {Q : Value → Shared → Prop} (hu : A.units + 64 < cLine) (I : Inv X pins σ H s) (n : NdAt H a us y k b) (ry : RelV y u) (h : ∀ s', Inv X pins σ H s' → Q (.bool (valU us k).isSome) s') :
    wpAny (model X.prog X.w) A (compareOp .In u (.ref a)) Q E s := by
  obtain ⟨rfl, hk, _, hs, _, _, zs, pr, dd⟩ := n.at I ry
  have e : (atKey zs k).isSome = (valU us k).isSome := by
    rcases pairU_val pr k with ⟨e1, e2, _⟩ | ⟨v', q, e1, e2, e3, _⟩ <;> rw [e1, e2] <;> rfl
  refine wpAny_in_heap (show A.in1.units + 8 < cLine by rw [Around.in1_units]; omega) hk hs dd ?_
  rw [e]
  exact h _ (I.tok _)
theorem nd_get {Q : Value → Shared → Prop} (hu : A.units + 64 < cLine) (I : Inv X pins σ H s) (n : NdAt H a us y k b) (ry : RelV y u) (rd : RelV v r) (h : ∀ w' s', Inv X pins σ H s' → RelV ((valU us k).getD v) w' → Q w' s') :
    wpAny (model X.prog X.w) A (call (.builtin "dict.get") [.ref a, u, r]) Q E s := by
  obtain ⟨rfl, hk, _, hs, _, _, zs, pr, dd⟩ := n.at I ry
  refine call_meetsIn PySem.F.slot_dict_get dd.typeIs PySem.F.entry_dict_get (PySem.F.args_dict_get_3 _ _ _) (meetsH_dict_get_default (nestedKind X.prog X.w) a b hs r) ⟨(show A.in1.units + 8 < cLine by rw [Around.in1_units]; omega), k, zs, hk, dd, h _ _ (I.tok _) ?_⟩
  rcases pairU_val pr k with ⟨e1, e2, _⟩ | ⟨v', q, e1, e2, e3, _⟩
  · rw [e1, e2]; exact rd
  · rw [e1, e2]; exact e3
theorem nd_setItem {Q : Unit → Shared → Prop} (hu : A.units + 64 < cLine) (I : Inv X pins σ H s) (n : NdAt H a us y k b) {ob : Obj} (he : H a = some (NdO a us ob)) (l : us.length < sizeLine) (ry : RelV y u) (rv : RelV v r) (h : ∀ s' ob', Inv X pins σ (upd H a (NdO a (putU us k b v) ob')) s' → Q () s') :
    wpAny (model X.prog X.w) A (setItem (.ref a) u r) Q E s := by
  obtain ⟨rfl, hk, _, hs, nd, nk, zs, pr, dd⟩ := n.at I ry
  have hz : zs.length ≤ sizeLine := by rw [← Paired.length pr]; omega
  refine wpAny_setItem_heap (hsz := hz) (show A.in1.units + 8 < cLine by rw [Around.in1_units]; omega) hk dd fun h' dd' hs' => ?_
  have hl : (putU us k b v).length ≤ sizeLine := by have := putU_len us k b v; omega
  obtain ⟨q, es, ep, hq, _⟩ := id dd'
  refine h _ q (d_write I (by rw [he]; exact True.intro) hs' ⟨q, hq⟩ (nd_ok (putU_nodup nd) hl hs (fun u hu => ?_) (pairU_put pr k b rv) dd' hq))
  rcases putU_mem hu with e | ⟨u', h1, h2⟩
  · rw [e]; exact ⟨n.nt, n.dp⟩
  · rw [← h2]; exact nk u' h1
/-! ### {} -/
abbrev newD : Obj := { cls := .type "dict", data := .dict #[] }
def tNewN : TE := fun _ H Q => ∀ p, H p = none → Q (.ref p) (upd H p (NdO p [] newD))
theorem pe_newN {pos : Pos} : PE X (.Dict [] [] pos) tNewN := ⟨fun pins s σ H Q I h =>
  wpAny_Dict_empty ⟨.ref s.heap.objs.size, _, I.laid (a := s.heap.objs.size) (o := NdO s.heap.objs.size [] newD) (t' := s.toks) (fun _ _ q => Heap.get?_push_of_some _ q) (Nat.le_refl _)
    (nd_ok (us := []) (zs := []) List.nodup_nil (Nat.zero_le _) (beq_eq_false_iff_ne.mpr (Ne.symm (Nat.ne_of_lt I.big))) (fun _ z => nomatch z) .nil (Heap.DictOfH.new _) (Heap.get?_push_size _ rfl)), rfl, h _ (I.hok.fresh (Nat.le_refl _))⟩⟩
end
end DL
namespace DL
open PySem L2 PySem.Spec PyProof.Rows
/-! ### the mirror -/
def atN (kvs : List (D × D)) (k : NestedKey) : Option D := (kvs.find? fun q => decide (nkD q.1 = some k)).map (·.2)
def putN (kvs : List (D × D)) (dk : D) (k : NestedKey) (v : D) : List (D × D) :=
  if (kvs.any fun q => decide (nkD q.1 = some k)) = true then kvs.map (fun q => if nkD q.1 = some k then (q.1, v) else q) else kvs ++ [(dk, v)]
def putND : D → D → D → Option D
  | .dcN kvs, dk, v => if kvs.length < lim then (nkT dk).map fun k => .dcN (putN kvs dk k v) else none
  | _, _, _ => none
def dNx : D → D → Option D
  | .dcN kvs, dk => (nkT dk).bind fun k => atN kvs k
  | _, _ => none
def dInN (x y : D) : Option D := match y with
  | .dcN kvs => (nkT x).map fun k => .bl (atN kvs k).isSome
  | _ => none
def dGetN : D → D → D → Option D
  | .dcN kvs, dk, x => (nkT dk).map fun k => (atN kvs k).getD x
  | _, _, _ => none
def isN : D → Option Unit
  | .dcN _ => some ()
  | _ => none
def mGetN (fo fe : M AK) (ff : M D) : M D := mBind fo fun a => mBind (mGet a) fun d0 => mBind (mOpt (isN d0)) fun _ => mBind fe fun b => mBind ff fun z => mBind (mGet a) fun d => mBind (mGet b) fun k => mOpt (dGetN d k z)
/-- for k in d, d a name: the dict is shared from then on -/
def mKeysN (i : Nat) : M (List D) := fun Δ => match Δ[i]? with
  | some (.ow (.dcN kvs)) => .ok (kvs.map Prod.fst) (Δ.set i (.sh (.dcN kvs)))
  | _ => .bad
section
variable {G : Gc} {Av : Addr → Prop} {H : Hp} {a b : Addr} {us : List NdE} {kvs : List (D × D)} {k : NestedKey} {d dk : D} {v : V}
theorem repN_at : ∀ {kvs : List (D × D)} {us : List NdE}, RepN G Av H kvs us → ∀ k : NestedKey, (atN kvs k = none ∧ valU us k = none ∧ (kvs.any fun q => decide (nkD q.1 = some k)) = false ∧ (us.any fun u => decide (u.1 = k)) = false) ∨ ∃ d v, atN kvs k = some d ∧ valU us k = some v ∧ Rep G Av H d v ∧ (kvs.any fun q => decide (nkD q.1 = some k)) = true ∧ (us.any fun u => decide (u.1 = k)) = true
  | [], us, h, k => by unfold RepN at h; subst h; exact .inl ⟨rfl, rfl, rfl, rfl⟩
  | (dk, d) :: r, us, h, k => by
    unfold RepN at h
    obtain ⟨k', p, v, r', rfl, e, h1, h2, h3⟩ := h
    by_cases z : k' = k
    · exact .inr ⟨d, v, by simp [atN, e, z], by simp [valU, z], h2, by simp [e, z], by simp [z]⟩
    · have z' : ¬ nkD dk = some k := fun q => z (Option.some.inj (e.symm.trans q))
      have a1 : atN ((dk, d) :: r) k = atN r k := by simp [atN, z']
      have a2 : valU ((k', p, v) :: r') k = valU r' k := by simp [valU, z]
      have a3 : (((dk, d) :: r).any fun q => decide (nkD q.1 = some k)) = r.any fun q => decide (nkD q.1 = some k) := by simp [z']
      have a4 : (((k', p, v) :: r').any fun u => decide (u.1 = k)) = r'.any fun u => decide (u.1 = k) := by simp [z]
      rw [a1, a2, a3, a4]
      exact repN_at h3 k
theorem repN_map (rv : Rep G Av H d v) : ∀ {kvs : List (D × D)} {us : List NdE}, RepN G Av H kvs us → RepN G Av H (kvs.map fun q => if nkD q.1 = some k then (q.1, d) else q) (us.map fun u => if u.1 = k then (u.1, u.2.1, v) else u)
  | [], us, h => by unfold RepN at h; subst h; unfold RepN; rfl
  | (dk, d0) :: r, us, h => by
    unfold RepN at h
    obtain ⟨k', p, v0, r', rfl, e, h1, h2, h3⟩ := h
    rw [List.map_cons, List.map_cons]
    by_cases z : k' = k
    · rw [if_pos z, if_pos (show nkD dk = some k by rw [e, z])]
      unfold RepN
      exact ⟨k', p, v, _, rfl, e, h1, rv, repN_map rv h3⟩
    · rw [if_neg z, if_neg (show ¬ nkD dk = some k from fun q => z (Option.some.inj (e.symm.trans q)))]
      unfold RepN
      exact ⟨k', p, v0, _, rfl, e, h1, h2, repN_map rv h3⟩
theorem repN_snoc (e : nkD dk = some k) (rk : Rep G Av H dk (.ref b)) (rv : Rep G Av H d v) : ∀ {kvs : List (D × D)} {us : List NdE}, RepN G Av H kvs us → RepN G Av H (kvs ++ [(dk, d)]) (us ++ [(k, b, v)])
  | [], us, h => by
    unfold RepN at h; subst h
    show RepN G Av H [(dk, d)] [(k, b, v)]
    unfold RepN
    exact ⟨k, b, v, [], rfl, e, rk, rv, by unfold RepN; rfl⟩
  | (dk', d0) :: r, us, h => by
    unfold RepN at h
    obtain ⟨k', p, v0, r', rfl, e', h1, h2, h3⟩ := h
    show RepN G Av H ((dk', d0) :: (r ++ [(dk, d)])) ((k', p, v0) :: (r' ++ [(k, b, v)]))
    unfold RepN
    exact ⟨k', p, v0, _, rfl, e', h1, h2, repN_snoc e rk rv h3⟩
theorem repN_put (e : nkD dk = some k) (rk : Rep G Av H dk (.ref b)) (rv : Rep G Av H d v) (h : RepN G Av H kvs us) : RepN G Av H (putN kvs dk k d) (putU us k b v) := by
  unfold putN putU
  rcases repN_at h k with ⟨_, _, e1, e2⟩ | ⟨_, _, _, _, _, e1, e2⟩
  · rw [e1, e2]; exact repN_snoc e rk rv h
  · rw [e1, e2]; exact repN_map rv h
theorem repN_length : ∀ {kvs : List (D × D)} {us : List NdE}, RepN G Av H kvs us → us.length = kvs.length
  | [], us, h => by unfold RepN at h; subst h; rfl
  | (dk, d) :: r, us, h => by
    unfold RepN at h
    obtain ⟨k', p, v0, r', rfl, e', h1, h2, h3⟩ := h
    rw [List.length_cons, List.length_cons, repN_length h3]
theorem repN_nth : ∀ {kvs : List (D × D)} {us : List NdE} {i : Nat} {q : D × D}, RepN G Av H kvs us → kvs[i]? = some q → ∃ u, us[i]? = some u ∧ Rep G Av H q.1 (.ref u.2.1)
  | [], us, i, q, h, e => by simp at e
  | (dk, d) :: r, us, i, q, h, e => by
    unfold RepN at h
    obtain ⟨k', p, v0, r', rfl, e', h1, h2, h3⟩ := h
    cases i with
    | zero => simp at e; subst e; exact ⟨_, rfl, h1⟩
    | succ i => simpa using repN_nth (i := i) h3 (by simpa using e)
theorem rep1_dcN {v : V} (r : Rep1 G Av H (.dcN kvs) v) : ∃ a us, v = .ref a ∧ RdN H a us ∧ RepN G Av H kvs us := by
  rcases r with r | ⟨a, rfl, us, h, rk⟩
  · unfold Rep at r
    obtain ⟨a, us, rfl, _, h, rk⟩ := r
    exact ⟨a, us.1, rfl, ⟨us.2, h⟩, rk⟩
  · exact ⟨a, us.1, rfl, ⟨us.2, .inl h⟩, rk⟩
theorem nkT_at {y : V} (e : nkT dk = some k) (rk : Rep1 G Av H dk y) (hd : RdN H a us) (rn : RepN G Av H kvs us) : ∃ b, NdAt H a us y k b ∧ nkD dk = some k ∧ Rep G Av H dk (.ref b) := by
  obtain ⟨ds, rfl, e1, e2, e3⟩ := nkT_some e
  rcases rk with rk | ⟨_, _, o⟩
  · have rk0 := rk
    unfold Rep at rk
    obtain ⟨b, vs, rfl, _⟩ := rk
    exact ⟨b, ⟨⟨G, Av, kvs, _, rn, e1, rk0⟩, hd, e2, e3, rfl⟩, e1, rk0⟩
  · exact o.elim
end
/-! ### d[k] = v -/
def rSetN : TSet := fun o i v H Q => ∃ a us ob k b, o = .ref a ∧ NdAt H a us i k b ∧ H a = some (NdO a us ob) ∧ us.length < sizeLine ∧ ∀ ob', Q (upd H a (NdO a (putU us k b v) ob'))
def rInN : R2 := fun x y H Q => ∃ a us k b, y = .ref a ∧ NdAt H a us x k b ∧ Q (.bl (valU us k).isSome) H
def rIxN : R2 := fun x y H Q => ∃ a us k b v, x = .ref a ∧ NdAt H a us y k b ∧ valU us k = some v ∧ Q v H
section
variable {X : Cx}
theorem set_nd (hu : X.A.units + 64 < cLine) : PSet X rSetN := by
  intro pins s σ H o i v ov iv u Q I ro ri rv h
  obtain ⟨a, us, ob, k, b, eo, n, he, l, q⟩ := h
  subst eo
  cases (show ov = Value.ref a from ro)
  exact nd_setItem hu I n he l ri rv fun s' ob' I' => ⟨_, I', q ob'⟩
theorem op_inN (hu : X.A.units + 64 < cLine) : OpR X (compareOp .In) rInN := by
  intro pins s σ H x y u v Q I rx ry h
  obtain ⟨a, us, k, b, rfl, n, q⟩ := h
  cases (show v = Value.ref a from ry)
  exact nd_in hu I n rx fun s' I' => ⟨.bl (valU us k).isSome, H, I', rfl, q⟩
theorem ix_nd (hu : X.A.units + 64 < cLine) : IxR X rIxN := by
  intro value slice pins s σ H x y v u Q I rx ry h hs
  obtain ⟨a, us, k, b, w, rfl, n, hv, q⟩ := h
  obtain rfl : v = Value.ref a := rx
  obtain ⟨_, _, _, _, _, _, zs, _, dd⟩ := n.at I ry
  exact tail_any dd.typeIs slot_dict_getitem.lookup (nd_getItem hu I n ry hv fun w' s' I' r' => ⟨w, H, I', r', q⟩) hs
end
theorem set_nd_D {G : Gc} : SetD G rSetN putND := by
  intro Av H a d dk dv d' k v Q nav ho rk rv e q
  unfold putND at e
  split at e
  · rename_i kvs
    split at e
    case isFalse => cases e
    rename_i hl
    rw [Option.map_eq_some_iff] at e
    obtain ⟨kk, e1, rfl⟩ := e
    obtain ⟨us, hH, rn⟩ := ho
    obtain ⟨b, n, e2, rb⟩ := nkT_at e1 rk ⟨us.2, .inl hH⟩ rn
    exact ⟨a, us.1, us.2, kk, b, rfl, n, hH, Nat.lt_of_lt_of_le (by rw [repN_length rn]; exact hl) (lim_ok (Nat.le_refl _)), fun ob' => q _ ⟨(_, ob'), upd_same, RepN.keep (Keep.temp _ nav) (repN_put e2 rb rv rn)⟩⟩
  · cases e
theorem d_inN {G : Gc} : OpD G rInN dInN := by
  intro Av H dx dy x y Q fr rx ry q
  unfold dInN at q
  split at q
  · rename_i kvs
    cases e : nkT dx with
    | none => rw [e] at q; exact q.elim
    | some k =>
      rw [e] at q
      obtain ⟨a, us, rfl, hd, rn⟩ := rep1_dcN ry
      obtain ⟨b, n, e2, rb⟩ := nkT_at e rx hd rn
      refine ⟨a, us, k, b, rfl, n, ?_⟩
      have q : outV G Av H Q (some (.bl (atN kvs k).isSome)) := q
      have es : (atN kvs k).isSome = (valU us k).isSome := by
        rcases repN_at rn k with ⟨e1, e2, _⟩ | ⟨d, v, e1, e2, _⟩ <;> rw [e1, e2] <;> rfl
      rw [es] at q
      exact q _ H (Ex.refl H) mk_bl
  · exact q.elim
theorem d_nx {G : Gc} : OpD G rIxN dNx := by
  intro Av H dx dy x y Q fr rx ry q
  unfold dNx at q
  split at q
  · rename_i kvs
    cases e : nkT dy with
    | none => rw [e] at q; exact q.elim
    | some k =>
      rw [e] at q
      obtain ⟨a, us, rfl, hd, rn⟩ := rep1_dcN rx
      obtain ⟨b, n, e2, rb⟩ := nkT_at e ry hd rn
      have q : outV G Av H Q (atN kvs k) := q
      rcases repN_at rn k with ⟨e1, _⟩ | ⟨d, v, e1, e2, rv, _⟩
      · rw [e1] at q; exact q.elim
      · rw [e1] at q
        exact ⟨a, us, k, b, v, rfl, n, e2, q _ H (Ex.refl H) rv⟩
  · exact q.elim
/-! ### {} -/
section
variable {X : Cx} {c : Ct} {W : WX} {pos : Pos}
theorem df_dcN0 : DF X c W (.Dict [] [] pos) (mPure (.dcN [])) := by
  refine ⟨_, pe_newN, fun x σ H Δ Q sr q p hp => ?_⟩
  obtain ⟨k, sr2, h0, nr⟩ := sr.alloc hp (Ex.new (o := NdO p [] newD) hp)
  exact q p _ _ k (sr2 (by rw [upd_same]; intro z; cases z)) h0 hp (fun z => z.2 rfl) nr ⟨([], newD), upd_same, by unfold RepN; rfl⟩
end
/-! ### d.get(k, x) -/
def NdD (H : Hp) (a : Addr) : Prop := ∃ us, RdN H a us
def tGetN (td ty tx : TE) : TE := fun σ H Q => td σ H fun x H1 => ∃ a, x = .ref a ∧ NdD H1 a ∧ ty σ H1 fun y H2 => tx σ H2 fun z H3 => ∃ us k b, NdAt H3 a us y k b ∧ Q ((valU us k).getD z) H3
section
variable {X : Cx} {c : Ct} {W : WX} {k : Nat} {ob e f : Expr} {fo fe : M AK} {ff : M D} {apos cpos : Pos} {td ty tx : TE}
theorem pe_getN (hu : X.A.units + 64 < cLine) (ho : PE X ob td) (he : PE X e ty) (hf : PE X f tx) (m : M2 X ob "get" apos e f cpos) : PE X (.Call (.Attribute ob "get" apos) [e, f] [] cpos) (tGetN td ty tx) := by
  refine ⟨fun pins s σ H Q I h => ?_⟩
  refine wpAny_Call_method m.base m.few m.line PySem.F.plainAttrs_dict PySem.F.slot_dict_get PySem.F.type_dict_get (thn (ho.run pins s σ H _ I h) fun u s1 ⟨x, H1, I1, rx, a, ex, d, q1⟩ => ?_)
  subst ex
  obtain rfl : u = Value.ref a := rx
  obtain ⟨us, o, hd⟩ := d
  obtain ⟨⟨_, _, _, _, _, _, _, g, ex, _⟩, _, _⟩ := hd.ok I1.hok
  refine ⟨⟨o, g, ex.1⟩, fun b q => ?_, ?_⟩
  · cases q; exact ⟨o, g, ex.2.1⟩
  rw [m.trees]
  refine Calls.callWith_builtin rfl (Calls.evalArgs_plain (Calls.spliced_cons (thn (he.run pins s1 σ H1 _ I1 q1) fun iv s2 ⟨y, H2, I2, ry, q2⟩ =>
    Calls.spliced_cons (thn (hf.run pins s2 σ H2 _ I2 q2) fun fv s3 ⟨z, H3, I3, rz, us, k, b, n, q3⟩ => Calls.spliced_nil ?_))))
  exact nd_get hu I3 n ry rz fun w' s4 I4 rw' => ⟨_, H3, I4, rw', q3⟩
theorem de_getN (o : Ok X c W k) (ho : DO X c W ob fo) (he : DO X c W e fe) (hf : DE X c W f ff) (h1 : attributeBase ob "get" X.env (eval ob X.env) = eval ob X.env := by rfl)
    (h2 : ((backTo cpos (starEach [e, f] X.env)).all (fun x => !x.1) && (backToKw cpos (keywordEach [] X.env)).all (fun x => x.1.isSome)
      && decide (([e, f] : List Expr).length + ([] : List Keyword).length + (if ([] : List Keyword).isEmpty then 0 else 1) < 30)) = true := by rfl)
    (h3 : (apos.endLine == cpos.line) = true := by rfl) (h4 : backTo cpos (starEach [e, f] X.env) = [(false, eval e X.env), (false, eval f X.env)] := by rfl) :
    DE X c W (.Call (.Attribute ob "get" apos) [e, f] [] cpos) (mGetN fo fe ff) := by
  obtain ⟨to, po, so⟩ := ho.out
  obtain ⟨te, pe, se⟩ := he.out
  obtain ⟨tf, pf, sf⟩ := hf.out
  refine ⟨_, pe_getN (by have := o.units; omega) po pe pf ⟨h1, h2, h3, h4⟩, fun x σ H Δ Q sr q => ?_⟩
  refine so x σ H Δ _ sr (Post.bind (ok' := okV c x σ H Q) q fun a Δ1 q1 v x1 H1 k1 sr1 h1 => ?_)
  obtain ⟨d0, r1, q2⟩ := Post.get sr1 h1 (q1.step k1 fun a Δ => okV.step k1)
  cases d0 <;> first | exact q2.elim | skip
  rename_i kvs
  obtain ⟨p, us, rfl, hd, rn⟩ := rep1_dcN r1
  refine ⟨p, rfl, ⟨us, hd⟩, ?_⟩
  refine se x1 σ H1 Δ1 _ sr1 (Post.bind (ok' := okV c x1 σ H1 Q) q2 fun b Δ2 q3 u x2 H2 k2 sr2 h2 => ?_)
  refine sf x2 σ H2 Δ2 _ sr2 (Post.bind (ok' := okV c x2 σ H2 Q) (q3.step k2 fun a Δ => okV.step k2) fun z Δ3 q4 w x3 H3 k3 sr3 r3 => ?_)
  have q5 := q4.step k3 fun a Δ => okV.step (σ := σ) (c := c) (Q := Q) k3
  obtain ⟨d, rd, q6⟩ := Post.get sr3 (AKOk.kp sr2 k3 (AKOk.kp sr1 k2 h1)) q5
  obtain ⟨dk, rk, q7⟩ := Post.get sr3 (AKOk.kp sr2 k3 h2) q6
  have q8 := Post.outV sr3 q7
  unfold dGetN at q8
  split at q8
  case h_2 => exact q8.elim
  rename_i kv2
  cases e : nkT dk with
  | none => rw [e] at q8; exact q8.elim
  | some key =>
    rw [e] at q8
    obtain ⟨p2, us2, ep, hd2, rn2⟩ := rep1_dcN rd
    cases ep
    obtain ⟨b2, n, _, _⟩ := nkT_at e rk hd2 rn2
    refine ⟨us2, key, b2, n, ?_⟩
    have q9 : outV c.toGc x3.Av H3 Q (some ((atN kv2 key).getD z)) := q8
    rcases repN_at rn2 key with ⟨e1, e2, _⟩ | ⟨d', v', e1, e2, rv, _⟩
    · rw [e1] at q9; rw [e2]; exact q9 _ H3 (Ex.refl H3) r3
    · rw [e1] at q9; rw [e2]; exact q9 _ H3 (Ex.refl H3) rv
end
/-! ### for k in d -/
def Itkn (d : Addr) (o : Obj) (us : List NdE) : It :=
  ⟨fun i H => Rd H d (NdO d us o) ∧ i < us.length, fun i H x H' => H' = H ∧ ∃ u, us[i]? = some u ∧ x = .ref u.2.1, fun i H => Rd H d (NdO d us o) ∧ us.length ≤ i⟩
theorem pairU_get {us : List NdE} {zs : List NdZ} (p : PairU us zs) : ∀ {i : Nat} {u : NdE}, us[i]? = some u → ∃ z, zs[i]? = some z ∧ z.2.1 = u.2.1 := by
  induction p with
  | nil => intro i u e; simp at e
  | cons h t ih =>
    intro i u e
    cases i with
    | zero => simp at e; subst e; exact ⟨_, rfl, h.2.1⟩
    | succ i => simpa using ih (i := i) (by simpa using e)
section
variable {X : Cx} {pins : List (Addr × Obj)} {σ : L2.St} {H : Hp} {s : Shared} {d : Addr} {o : Obj} {us : List NdE}
theorem inv_frzN (I : Inv X pins σ H s) (h : Rd H d (NdO d us o)) :
    (d == sysModules) = false ∧ s.heap.get? d = some o ∧ o.ExactDict ∧ ∃ (es : Array DictEntry) (ep : Nat), o.data = .dict es ep ∧ es.size = us.length ∧
      ∀ (i : Nat) (u : NdE), us[i]? = some u → ∃ en : DictEntry, es[i]? = some en ∧ en.key = .ref u.2.1 := by
  obtain ⟨⟨_, _, hs, _, es, ep, zs, g, ex, hdt, pr, he⟩, _, _⟩ := h.ok I.hok
  have he := he X.w
  refine ⟨hs, g, ex, es, ep, hdt, ?_, fun i u e => ?_⟩
  · rw [← Array.length_toList, he, List.length_map, ← Paired.length pr]
  · obtain ⟨z, hz, e1⟩ := pairU_get pr e
    refine ⟨⟨z.1.hash X.w, .ref z.2.1, z.2.2⟩, ?_, by show Value.ref z.2.1 = .ref u.2.1; rw [e1]⟩
    rw [← Array.getElem?_toList, he, List.getElem?_map, hz]
    rfl
end
theorem turn_keysN {P : Program} {w : World} {K : PySem.W.Frag} {tg : Expr} {d : Addr} {o : Obj} {es : Array DictEntry} {ep : Nat} {us : List NdE} (it : Addr) (hod : o.data = .dict es ep) : Turn P w K tg (Itkn d o us) [it] it (fun i h => h.IsKeyIter it d i us.length ep) where
  mem := by simp
  obj := fun i h st b hb => by
    have e : b = it := by simpa using hb
    subst e
    obtain ⟨oi, e, c, dd⟩ := st
    exact ⟨oi, e, fun v z => by rw [dd] at z; cases z⟩
  keep := fun i h h' st k => st.at fun oi e => k it (by simp) oi e
  item := by
    intro X hP hw hK hc i pins s σ H E I hf st hg
    subst hP hw hK
    obtain ⟨hd, hi⟩ := hg
    obtain ⟨f0, f1, f2, f3, f4, f5⟩ := hf it (by simp)
    obtain ⟨hs, hgd, hx, es', ep', hdt, hsz, ent⟩ := inv_frzN I hd
    obtain ⟨rfl, rfl⟩ := dict_ep hod hdt
    obtain ⟨u, hkv⟩ : ∃ p, us[i]? = some p := ⟨us[i], List.getElem?_eq_getElem hi⟩
    obtain ⟨en, hen, hkey⟩ := ent i u hkv
    refine next_key_item st hgd hdt hsz hen fun h' st' sb => ?_
    have I1 : Inv X pins σ H { s with heap := h' } := I.turned (t' := s.toks) (fun b ob hb e => (sb.2 b hb).trans e) f0 f1 f3 f4 f5
    obtain ⟨oi, e, c, dd⟩ := id st'
    exact ⟨en.key, rfl, go_of (s := { s with heap := h' }) e c dd (by decide) ⟨.ref u.2.1, H, I1, hkey, ⟨rfl, u, hkv, rfl⟩, st', fun b hb => (hf b hb).1⟩⟩
  done := by
    intro X hP hw hK hc i pins s σ H E I hf st hg
    subst hP hw hK
    obtain ⟨hd, hi⟩ := hg
    obtain ⟨f0, f1, f2, f3, f4, f5⟩ := hf it (by simp)
    obtain ⟨hs, hgd, hx, es', ep', hdt, hsz, ent⟩ := inv_frzN I hd
    obtain ⟨rfl, rfl⟩ := dict_ep hod hdt
    exact next_key_end (I.ok.hd hc) st hgd hdt hsz hi fun h' eb => ⟨rfl, I.turned (t' := s.toks) (fun b ob hb e => eb b ob hb e) f0 f1 f3 f4 f5⟩
  self := fun A i s Q E st h => by
    refine wpAny_pyIter_slot st.typeIs F.slot_dict_keyiterator_iter (wpAny_call_entry F.slot_dict_keyiterator_iter st.typeIs F.entry_dict_keyiterator_iter ?_ (F.args_dict_keyiterator_iter_1 _))
    show wpAny _ _ (ret (.ref it)) _ _ s
    exact wpAny_pure ⟨_, rfl, "dict_keyiterator", _, st.typeIs, F.slot_dict_keyiterator_next.lookup, h⟩
def iTmpN (td : TE) : TI := fun σ H R => td σ H fun x H1 => ∃ (d : Addr) (us : List NdE) (ob : Obj), x = .ref d ∧ Rd H1 d (NdO d us ob) ∧ R (Itkn d ob us) H1
theorem pi_tmpN {X : Cx} {tg e : Expr} {td : TE} (he : PE X e td) : PI X tg e (iTmpN td) := by
  refine ⟨fun pins s σ H R I h => ?_⟩
  refine thn (he.run pins s σ H _ I h) fun u s1 ⟨x, H1, I1, rx, d, us, od, ex, hd, q⟩ => ?_
  subst ex
  obtain rfl : u = Value.ref d := rx
  obtain ⟨hs, hgd, hx, es, ep, hdt, hsz, ent⟩ := inv_frzN I1 hd
  refine iter_keys hs hgd hx hdt (pi_one (tk := s1.toks) I1 _ (turn_keysN _ hdt) ⟨_, Heap.get?_push_size _ rfl, rfl, ?_⟩ q)
  rw [hsz] <;> rfl
/-- for k in e -/
def dKeysN : D → Option (List D)
  | .dcN kvs => some (kvs.map (·.1))
  | _ => none
def mKeysE (f : M D) : M (List D) := mBind f fun d => mOpt (dKeysN d)
theorem di_keysE {X : Cx} {c : Ct} {W : WX} {tg e : Expr} {fe : M D} (h : DE X c W e fe) : DI X c W tg e (mKeysE fe) := by
  obtain ⟨t, p, s⟩ := h.out
  refine ⟨_, pi_tmpN p, fun x σ H Δ R sr q => s x σ H Δ _ sr (q.bind fun d Δ1 q1 v x1 H1 k1 sr1 r => ?_)⟩
  cases d <;> first | exact q1.elim | skip
  rename_i kvs
  have q1 : okI c x σ H R (kvs.map (·.1)) Δ1 := q1
  unfold Rep at r
  obtain ⟨a, us, rfl, ha, hd, rn⟩ := r
  refine ⟨a, us.1, us.2, rfl, hd, q1 _ x1 H1 k1 sr1 fun x' σ' H' Δ' i k' sr' => ?_⟩
  have kp := sr1.keep k'
  have hd' := kp.rd a _ ha fx_nd hd
  have rn' := RepN.keep kp rn
  refine ⟨fun hl => ⟨hd', by rw [repN_length rn]; simpa using hl⟩, fun dk hk => ?_⟩
  rw [List.getElem?_map, Option.map_eq_some_iff] at hk
  obtain ⟨q2, e1, rfl⟩ := hk
  obtain ⟨u, e2, r2⟩ := repN_nth rn' e1
  refine ⟨⟨hd', (List.getElem?_eq_some_iff.mp e2).1⟩, fun v H'' y => ?_⟩
  obtain ⟨e3, u', e4, rfl⟩ := y
  subst e3
  rw [e2] at e4
  cases e4
  exact ⟨Ex.refl _, r2⟩
end DL

-- gives: mDcN1 dNotInN dLenN dIsDictN
namespace DL
open PySem L2 PySem.Spec PyProof.Rows
/-! ### k not in d, len(d), isinstance(d, dict) -/
def dNotInN (x y : D) : Option D := match y with
  | .dcN kvs => (nkT x).map fun k => .bl (!(atN kvs k).isSome)
  | _ => none
def rNotInN : R2 := fun x y H Q => ∃ a us k b, y = .ref a ∧ NdAt H a us x k b ∧ Q (.bl (!(valU us k).isSome)) H
def dLenN : List D → Option D
  | [.dcN kvs] => if kvs.length ≤ lim then some (.int kvs.length) else none
  | _ => none
def rLenN : List V → Hp → VK → Prop := fun xs H Q => ∃ (a : Addr) (us : List NdE) (G : Gc) (Av : Addr → Prop) (kvs : List (D × D)), xs = [.ref a] ∧ RdN H a us ∧ RepN G Av H kvs us ∧ us.length ≤ lim ∧ Q (.int (us.length : Nat)) H
def dIsDictN : List D → Option D
  | [.dcN _, .ty "dict"] => some (.bl true)
  | _ => none
def rIsDictN : List V → Hp → VK → Prop := fun xs H Q => ∃ (a : Addr) (us : List NdE), xs = [.ref a, .ty "dict"] ∧ RdN H a us ∧ Q (.bl true) H
section
variable {X : Cx}
theorem nd_notIn {pins : List (Addr × Obj)} {σ : L2.St} {H : Hp} {s : Shared} {a b : Addr} {us : List NdE} {k : NestedKey} {y : V} {u : Value} {A : Around} {E : Value → Shared → Prop} {Q : Value → Shared → Prop} (hu : A.units + 64 < cLine) (I : Inv X pins σ H s) (n : NdAt H a us y k b) (ry : RelV y u) (h : ∀ s', Inv X pins σ H s' → Q (.bool (!(valU us k).isSome)) s') :
    wpAny (model X.prog X.w) A (compareOp .NotIn u (.ref a)) Q E s := by
  obtain ⟨rfl, hk, _, hs, _, _, zs, pr, dd⟩ := n.at I ry
  have e : (atKey zs k).isSome = (valU us k).isSome := by
    rcases pairU_val pr k with ⟨e1, e2, _⟩ | ⟨v', q, e1, e2, e3, _⟩ <;> rw [e1, e2] <;> rfl
  show wpAny _ _ (do return .bool (!(← contains (.ref a) (.ref b)))) Q E s
  refine wpAny_bind (wpAny_contains_heap (show A.in1.units + 8 < cLine by rw [Around.in1_units]; omega) hk hs dd (wpAny_pure ?_))
  rw [e]
  exact h _ (I.tok _)
theorem op_notInN (hu : X.A.units + 64 < cLine) : OpR X (compareOp .NotIn) rNotInN := by
  intro pins s σ H x y u v Q I rx ry h
  obtain ⟨a, us, k, b, rfl, n, q⟩ := h
  cases (show v = Value.ref a from ry)
  exact nd_notIn hu I n rx fun s' I' => ⟨.bl (!(valU us k).isSome), H, I', rfl, q⟩
theorem call_lenN : CallR X (.builtin "len") rLenN := by
  intro pins s σ H xs us Q I r h
  obtain ⟨p, us, G, Av, kvs, rfl, hd, rn, hl, q⟩ := h
  obtain ⟨u, rfl, rx⟩ := vals1 r
  obtain rfl : u = .ref p := rx
  obtain ⟨_, hs, _, _, zs, pr, dd⟩ := nd_rd I.hok hd rn
  have e : us.length = zs.length := Paired.length pr
  have l63 := line63
  have h1 := lim_ok hl
  refine call_len_dictH hs dd (by rw [← e]; omega) ?_
  rw [← e]
  exact ⟨.int ((us.length : Nat) : Int), H, I.tok _, ⟨_, rfl⟩, q⟩
theorem call_isDictN : CallR X (.builtin "isinstance") rIsDictN := by
  intro pins s σ H xs us Q I r h
  obtain ⟨a, us, rfl, hd, q⟩ := h
  obtain ⟨u1, u2, rfl, r1, r2⟩ := vals2 r
  obtain rfl : u1 = .ref a := r1
  obtain rfl : u2 = .type "dict" := r2
  obtain ⟨o, hd⟩ := hd
  obtain ⟨⟨_, _, _, _, _, _, _, g, ex, _⟩, _, _⟩ := hd.ok I.hok
  exact IsiPair.dict_dict g ex.1 ⟨.bl true, H, I, rfl, q⟩
end
theorem d_notInN {G : Gc} : OpD G rNotInN dNotInN := by
  intro Av H dx dy x y Q fr rx ry q
  unfold dNotInN at q
  split at q
  · rename_i kvs
    cases e : nkT dx with
    | none => rw [e] at q; exact q.elim
    | some k =>
      rw [e] at q
      obtain ⟨a, us, rfl, hd, rn⟩ := rep1_dcN ry
      obtain ⟨b, n, e2, rb⟩ := nkT_at e rx hd rn
      refine ⟨a, us, k, b, rfl, n, ?_⟩
      have q : outV G Av H Q (some (.bl (!(atN kvs k).isSome))) := q
      have es : (atN kvs k).isSome = (valU us k).isSome := by
        rcases repN_at rn k with ⟨e1, e2, _⟩ | ⟨d, v, e1, e2, _⟩ <;> rw [e1, e2] <;> rfl
      rw [es] at q
      exact q _ H (Ex.refl H) mk_bl
  · exact q.elim
theorem d_lenN {G : Gc} : CaD G rLenN dLenN := by
  intro Av H ds vs Q fr r q
  unfold dLenN at q
  split at q
  · rename_i kvs
    split at q
    · rename_i hl
      obtain ⟨v, r', rfl, h1, h2⟩ := r
      obtain rfl : r' = [] := h2
      obtain ⟨a, us, rfl, hd, rn⟩ := rep1_dcN h1
      refine ⟨a, us, G, Av, kvs, rfl, hd, rn, by rw [repN_length rn]; exact hl, ?_⟩
      rw [repN_length rn]
      exact q _ H (Ex.refl H) mk_int
    · exact q.elim
  · exact q.elim
theorem d_isDictN {G : Gc} : CaD G rIsDictN dIsDictN := by
  intro Av H ds vs Q fr r q
  unfold dIsDictN at q
  split at q
  · obtain ⟨v, r', rfl, h1, v2, r2, rfl, h2, h3⟩ := r
    obtain rfl : r2 = [] := h3
    obtain ⟨a, us, rfl, hd, rn⟩ := rep1_dcN h1
    have e : v2 = .ty "dict" := by
      rcases h2 with h2 | ⟨_, _, o⟩
      · unfold Rep at h2; exact h2
      · exact o.elim
    subst e
    exact ⟨a, us, rfl, hd, q _ H (Ex.refl H) mk_bl⟩
  · exact q.elim
/-! ### {k: v} -/
def mDcN1 (fk : M D) (fv : M D) : M D := mBind fk fun k => mBind fv fun v => mOpt ((nkT k).map fun _ => .dcN [(k, v)])
def tDisp1 (tk tv : TE) : TE := fun σ H Q => ∀ p, H p = none → tk σ (upd H p (NdO p [] newD)) fun y H1 => tv σ H1 fun z H2 => ∃ k b, H2 p = some (NdO p [] newD) ∧ NdAt H2 p [] y k b ∧ ∀ ob, Q (.ref p) (upd H2 p (NdO p [(k, b, z)] ob))
section
variable {X : Cx} {c : Ct} {W : WX} {k : Nat} {ek ev : Expr} {pos : Pos} {tk tv : TE} {fk fv : M D}
theorem pe_disp1 (hu : X.A.units + 64 < cLine) (hk : PE X ek tk) (hv : PE X ev tv) : PE X (.Dict [some ek] [ev] pos) (tDisp1 tk tv) := by
  refine ⟨fun pins s σ H Q I q => ?_⟩
  have hn := I.hok.fresh (Nat.le_refl s.heap.objs.size)
  have I1 : Inv X pins σ (upd H s.heap.objs.size (NdO s.heap.objs.size [] newD)) { s with heap := s.heap.push { cls := .type "dict", data := .dict #[] } } := I.laid (a := s.heap.objs.size) (o := NdO s.heap.objs.size [] newD) (t' := s.toks) (fun _ _ q => Heap.get?_push_of_some _ q) (Nat.le_refl _)
    (nd_ok (us := []) (zs := []) List.nodup_nil (Nat.zero_le _) (beq_eq_false_iff_ne.mpr (Ne.symm (Nat.ne_of_lt I.big))) (fun _ z => nomatch z) .nil (Heap.DictOfH.new _) (Heap.get?_push_size _ rfl))
  have hpt := zip_pairTrees [some ek] [ev] X.env pos rfl rfl
  rw [arm_eval_Dict, hpt, dictDisplay_pairs (pairTrees [some ek] [ev] X.env pos) (fun z => nomatch z) (by show 1 < 17; decide)]
  refine wpAny_bind (wpAny_standAt (wpAny_bind (wpAny_subDictH (knd := nestedKind X.prog X.w) (show X.A.units + 8 < cLine by omega) (by show 1 ≤ 15; omega)
    (pairTrees_cons_walk (thn (hk.run pins _ σ _ _ I1 (q _ hn)) fun u s1 ⟨y, H1, I2, ry, q1⟩ => thn (hv.run pins s1 σ H1 _ I2 q1) fun w2 s2 ⟨z, H2, I3, rz, key, b, hp, n, q2⟩ => pairTrees_nil_walk ?_)))))
  obtain ⟨rfl, hkey, _, hs, _, _, zs, pr, dd⟩ := n.at I3 ry
  cases pr
  refine ⟨[(key, b, w2)], ⟨rfl, rfl, hkey, trivial⟩, dd, fun h' tk' dd' hs' => wpAny_pure ?_⟩
  obtain ⟨o, es, ep, hq, _⟩ := id dd'
  have e1 : storedAllH [] [(key, b, w2)] = [(key, b, w2)] := rfl
  rw [e1] at dd'
  refine ⟨.ref s.heap.objs.size, _, d_write I3 (by rw [hp]; exact True.intro) hs' ⟨o, hq⟩ (nd_ok (zs := [(key, b, w2)]) (by simp) (by rw [List.length_singleton, sizeLine_eq]; omega) hs (fun u hu => ?_) (.cons ⟨rfl, rfl, rz⟩ .nil) dd' hq), rfl, q2 _⟩
  rw [List.mem_singleton] at hu
  subst hu
  exact ⟨n.nt, n.dp⟩
theorem df_dcN1 (o : Ok X c W k) (hk : DE X c W ek fk) (hv : DE X c W ev fv) : DF X c W (.Dict [some ek] [ev] pos) (mDcN1 fk fv) := by
  obtain ⟨tk, pk, sk⟩ := hk.out
  obtain ⟨tv, pv, sv⟩ := hv.out
  refine ⟨_, pe_disp1 (by have := o.units; omega) pk pv, fun x σ H Δ Q sr q p hp => ?_⟩
  obtain ⟨k0, sr0, h0, nr⟩ := sr.alloc hp (Ex.new (o := NdO p [] newD) hp)
  have srA := sr0 (by rw [upd_same]; intro z; cases z)
  have hpp := @upd_same H p (NdO p [] newD)
  generalize eHA : upd H p (NdO p [] newD) = HA at k0 srA hpp ⊢
  have q0 : Post c W ⟨fun a => x.Av a ∧ a ≠ p, x.ρ⟩ σ HA (okF c x σ H Q) (mDcN1 fk fv Δ) := q.step k0 fun _ _ z => z
  refine sk _ σ HA Δ _ srA (Post.bind q0 fun dk Δ1 q1 y x1 H1 k1 sr1 r1 => ?_)
  have q1' : Post c W x1 σ H1 (okF c x σ H Q) _ := q1.step k1 fun _ _ z => z
  refine sv x1 σ H1 Δ1 _ sr1 (Post.bind q1' fun dv Δ2 q2 z x2 H2 k2 sr2 r2 => ?_)
  have q2' : Post c W x2 σ H2 (okF c x σ H Q) _ := q2.step k2 fun _ _ z => z
  have kk := k1.trans k2
  have nav0 : ¬ (fun a => x.Av a ∧ a ≠ p) p := fun z => z.2 rfl
  have hp2 : H2 p = some (NdO p [] newD) := kk.frame p _ hpp fx_nd nr
  have nav : ¬ x2.Av p := fun z => by
    rcases kk.avb p z with w | w | ⟨l, w⟩
    · exact nav0 w
    · rw [hpp] at w; cases w
    · exact nr l w
  have nr2 : ∀ i, x2.ρ i ≠ some p := fun i z => by
    rcases kk.own i p z with ⟨l, w⟩ | w
    · exact nr l w
    · rw [hpp] at w; cases w
  cases e : nkT dk with
  | none => rw [e] at q2'; exact q2'.elim
  | some key =>
    rw [e] at q2'
    have rk2 : Rep c.toGc x2.Av H2 dk y := r1.kp sr1 k2
    have rn0 : RepN c.toGc x2.Av H2 [] [] := by unfold RepN; rfl
    obtain ⟨b, n, e2, rb⟩ := nkT_at (us := []) e (.inl rk2) ⟨newD, .inl hp2⟩ rn0
    refine ⟨key, b, hp2, n, fun ob => ?_⟩
    have kT : Keep c.toGc x2.Av x2.Av H2 (upd H2 p (NdO p [(key, b, z)] ob)) := Keep.temp _ nav
    have eu : upd (upd H2 p (NdO p [(key, b, z)] ob)) p (NdO p [] newD) = H2 := by
      rw [upd_upd]
      funext a
      by_cases ea : a = p
      · rw [ea, upd_same]; exact hp2.symm
      · rw [upd_ne ea]
    have kF : Kp x H x2 (upd H2 p (NdO p [(key, b, z)] ob)) := Kp.show_ (o := NdO p [] newD) hp (by rw [upd_same]; intro w; cases w) (by rw [eu, eHA]; exact kk)
    refine q2' p x2 _ kF (sr2.temp _ ⟨_, hp2, pln_nd⟩ nav nr2 h0) h0 hp nav nr2 ⟨([(key, b, z)], ob), upd_same, ?_⟩
    · unfold RepN
      exact ⟨key, b, z, [], rfl, e2, rb.keep kT, r2.keep kT, by unfold RepN; rfl⟩
end
end DL

/-! plain law 1: powers of long parts -/
namespace DL
open PySem L2
theorem oRun_app {b : Bool} : ∀ {xs ys : List Stp} {o : List Int × List Int}, oRun b (xs ++ ys) o = (oRun b xs o).bind (oRun b ys)
  | [], ys, o => rfl
  | s :: xs, ys, o => by
    rw [List.cons_append, oRun, oRun]
    cases oStep b o s with
    | none => rfl
    | some o' => exact oRun_app (xs := xs)
theorem oRun_off {b d c : Bool} (h : c ≠ b) : ∀ {xs : List Int} {o : List Int × List Int}, oRun b (xs.map (Stp.mk d c)) o = some o
  | [], o => rfl
  | x :: xs, o => by
    rw [List.map_cons, oRun]
    have e : oStep b o ⟨d, c, x⟩ = some o := by
      unfold oStep; rw [if_neg h]
    rw [e]
    exact oRun_off h
theorem oRun_put {b : Bool} : ∀ {xs N G : List Int}, oRun b (xs.map (Stp.mk true b)) (N, G) = some (N, xs.reverse ++ G)
  | [], N, G => rfl
  | x :: xs, N, G => by
    rw [List.map_cons, oRun]
    have e : oStep b (N, G) ⟨true, b, x⟩ = some (N, x :: G) := by
      unfold oStep; simp
    rw [e]
    simp [oRun_put (xs := xs)]
def tk : List Int → List Int × List Int → Option (List Int × List Int)
  | [], o => some o
  | n :: ns, (N, []) => tk ns (N ++ [n], [])
  | n :: ns, (N, g :: gs) => if g = n then tk ns (N, gs) else none
theorem oRun_take {b : Bool} : ∀ {xs N G : List Int}, oRun b (xs.map (Stp.mk false b)) (N, G) = tk xs (N, G)
  | [], N, G => rfl
  | x :: xs, N, [] => by
    rw [List.map_cons, oRun, tk]
    have e : oStep b (N, []) ⟨false, b, x⟩ = some (N ++ [x], []) := by
      unfold oStep; simp
    rw [e]
    exact oRun_take
  | x :: xs, N, g :: gs => by
    rw [List.map_cons, oRun, tk]
    have e : oStep b (N, g :: gs) ⟨false, b, x⟩ = if g = x then some (N, gs) else none := by
      unfold oStep; simp
    rw [e]
    by_cases h : g = x
    · rw [if_pos h, if_pos h]
      exact oRun_take
    · rw [if_neg h, if_neg h]; rfl
theorem tk_pre : ∀ {xs N r : List Int}, tk xs (N, xs ++ r) = some (N, r)
  | [], N, r => rfl
  | x :: xs, N, r => by
    rw [List.cons_append, tk, if_pos rfl]
    exact tk_pre
theorem tk_nil : ∀ {xs N : List Int}, tk xs (N, []) = some (N ++ xs, [])
  | [], N => by simp [tk]
  | x :: xs, N => by rw [tk, tk_nil]; simp
theorem tk_over : ∀ {G N q : List Int}, tk (G ++ q) (N, G) = some (N ++ q, [])
  | [], N, q => tk_nil
  | g :: G, N, q => by
    rw [List.cons_append, tk, if_pos rfl]
    exact tk_over
theorem tk_none : ∀ {xs G N : List Int}, G.take xs.length ≠ xs → xs.take G.length ≠ G → tk xs (N, G) = none
  | [], G, N, h, _ => (h (by simp)).elim
  | x :: xs, [], N, _, h => (h (by simp)).elim
  | x :: xs, g :: G, N, h, h2 => by
    rw [tk]
    by_cases e : g = x
    · subst e
      rw [if_pos rfl]
      exact tk_none (fun z => h (by simp [z])) (fun z => h2 (by simp [z]))
    · rw [if_neg e]
/-- one more time -/
def rnd (p x : List Int) (o : List Int × List Int) : Option (List Int × List Int) := (tk p o).map fun o => (o.1, x ++ o.2)
def its (p x : List Int) : Nat → Option (List Int × List Int)
  | 0 => some ([], [])
  | e + 1 => (its p x e).bind (rnd p x)
theorem oRun_steps_t {p x s y N G : List Int} : oRun true (stepsOf p x s y) (N, G) = rnd p x (N, G) := by
  unfold stepsOf rnd
  rw [oRun_app, oRun_app, oRun_app, oRun_take]
  cases tk p (N, G) with
  | none => rfl
  | some o =>
    obtain ⟨N', G'⟩ := o
    simp only [Option.bind_some, Option.map_some]
    rw [oRun_put]
    simp only [Option.bind_some]
    rw [oRun_off (by decide)]
    simp only [Option.bind_some]
    rw [oRun_off (by decide)]
    simp
theorem oRun_steps_f {p x s y N G : List Int} : oRun false (stepsOf p x s y) (N, G) = rnd s.reverse y.reverse (N, G) := by
  unfold stepsOf rnd
  rw [oRun_app, oRun_app, oRun_app, oRun_off (by decide)]
  simp only [Option.bind_some]
  rw [oRun_off (by decide)]
  simp only [Option.bind_some]
  rw [oRun_take]
  cases tk s.reverse (N, G) with
  | none => rfl
  | some o =>
    obtain ⟨N', G'⟩ := o
    simp only [Option.bind_some, Option.map_some]
    rw [oRun_put]
theorem its_t {p x s y : List Int} : ∀ {e : Nat}, oRun true (List.replicate e (stepsOf p x s y)).flatten ([], []) = its p x e
  | 0 => rfl
  | e + 1 => by
    rw [List.replicate_succ', List.flatten_append, oRun_app, its_t, its]
    congr 1
    funext o
    obtain ⟨N, G⟩ := o
    simp only [List.flatten_cons, List.flatten_nil, List.append_nil]
    exact oRun_steps_t
theorem its_f {p x s y : List Int} : ∀ {e : Nat}, oRun false (List.replicate e (stepsOf p x s y)).flatten ([], []) = its s.reverse y.reverse e
  | 0 => rfl
  | e + 1 => by
    rw [List.replicate_succ', List.flatten_append, oRun_app, its_f, its]
    congr 1
    funext o
    obtain ⟨N, G⟩ := o
    simp only [List.flatten_cons, List.flatten_nil, List.append_nil]
    exact oRun_steps_f
def rept (e : Nat) (c : List Int) : List Int := (List.replicate e c).flatten
theorem rept_succ {e : Nat} {c : List Int} : rept (e + 1) c = c ++ rept e c := by simp [rept, List.replicate_succ]
theorem rept_succ' {e : Nat} {c : List Int} : rept (e + 1) c = rept e c ++ c := by simp [rept, List.replicate_succ']
theorem rept_rev {e : Nat} {c : List Int} : (rept e c).reverse = rept e c.reverse := by
  simp [rept, List.reverse_flatten]
def wr (q : Pow5) : List Int × List Int := (q.1 ++ rept q.2.2.2.1.toNat q.2.2.1, q.2.1 ++ rept q.2.2.2.2.toNat q.2.2.1)
theorem its_one {p x : List Int} : its p x 1 = some (p, x) := by
  simp [its, rnd, tk_nil]
theorem its_pow {p x : List Int} {e : Nat} : its p x e = (outPow p x e).map wr := by
  unfold outPow
  rcases e with _ | e
  · simp [its, wr, rept]
  · rw [if_neg (by omega)]
    by_cases h1 : p = x
    · subst h1
      rw [if_pos rfl]
      simp [wr, rept]
      induction e with
      | zero => exact its_one
      | succ e ih =>
        rw [its, ih]
        have z := tk_pre (xs := p) (N := p) (r := [])
        rw [List.append_nil] at z
        simp [rnd, z]
    rw [if_neg h1]
    by_cases h2 : x.take p.length = p
    · rw [if_pos h2]
      have hx : x = p ++ x.drop p.length := by
        conv => lhs; rw [← List.take_append_drop p.length x, h2]
      generalize x.drop p.length = r at hx
      subst hx
      have key : its p (p ++ r) (e + 1) = some (p, p ++ rept (e + 1) r) := by
        clear h1 h2
        induction e with
        | zero => rw [its_one]; simp [rept]
        | succ e ih =>
          rw [its, ih]
          simp only [Option.bind_some, rnd, tk_pre, Option.map_some]
          rw [rept_succ (e := e + 1)]
          simp
      rw [key]
      simp [wr, rept]
    rw [if_neg h2]
    by_cases h3 : p.take x.length = x
    · rw [if_pos h3]
      have hp : p = x ++ p.drop x.length := by
        conv => lhs; rw [← List.take_append_drop x.length p, h3]
      generalize p.drop x.length = r at hp
      subst hp
      have key : its (x ++ r) x (e + 1) = some (x ++ rept (e + 1) r, x) := by
        clear h1 h2 h3
        induction e with
        | zero => rw [its_one]; simp [rept]
        | succ e ih =>
          rw [its, ih]
          simp only [Option.bind_some, rnd, tk_over, Option.map_some]
          rw [rept_succ' (e := e + 1)]
          simp
      rw [key]
      simp [wr, rept]
    rw [if_neg h3]
    rcases e with _ | e
    · rw [if_pos (by omega), its_one]
      simp [wr, rept]
    · rw [if_neg (by omega)]
      simp only [Option.map_none]
      induction e with
      | zero => rw [its, its_one]; simp [rnd, tk_none h2 h3]
      | succ e ih => rw [its, ih]; rfl
def expandP (l r : Pow5) : List Int × List Int × List Int × List Int :=
  (l.1 ++ rept l.2.2.2.1.toNat l.2.2.1, l.2.1 ++ rept l.2.2.2.2.toNat l.2.2.1,
   rept r.2.2.2.1.toNat r.2.2.1 ++ r.1, rept r.2.2.2.2.toNat r.2.2.1 ++ r.2.1)
theorem long_its {p x s y : List Int} {e : Nat} : longP (List.replicate e (stepsOf p x s y)).flatten = (longPow p x s y e).map fun q => expandP q.1 q.2 := by
  unfold longP ordS longPow
  rw [its_t, its_f, its_pow, its_pow]
  rcases outPow p x e with _ | ⟨a, b, c, i, j⟩ <;> rcases outPow s.reverse y.reverse e with _ | ⟨a', b', c', i', j'⟩ <;> simp [wr, expandP, rept_rev]
theorem outPow_small {p x : List Int} {e : Nat} {q : Pow5} {m : Nat} (hp : p.length ≤ m) (hx : x.length ≤ m) (h : outPow p x e = some q) : q.1.length ≤ m ∧ q.2.1.length ≤ m ∧ q.2.2.1.length ≤ m ∧ 0 ≤ q.2.2.2.1 ∧ q.2.2.2.1 ≤ e ∧ 0 ≤ q.2.2.2.2 ∧ q.2.2.2.2 ≤ e := by
  unfold outPow at h
  repeat' split at h
  all_goals first
    | (cases h; done)
    | (cases h; simp; omega)
    | (cases h; simp)
theorem NnS_steps {p x s y : List Int} (hp : Nn p) (hx : Nn x) (hs : Nn s) (hy : Nn y) : NnS (stepsOf p x s y) := by
  intro t ht
  simp only [stepsOf, List.mem_append, List.mem_map, List.mem_reverse] at ht
  rcases ht with ((⟨n, hn, rfl⟩ | ⟨n, hn, rfl⟩) | ⟨n, hn, rfl⟩) | ⟨n, hn, rfl⟩
  · exact hp n hn
  · exact hx n hn
  · exact hs n hn
  · exact hy n hn
theorem NnS_rep {ss : List Stp} {e : Nat} (h : NnS ss) : NnS (List.replicate e ss).flatten := by
  intro t ht
  obtain ⟨l, hl, h2⟩ := List.mem_flatten.mp ht
  rw [(List.mem_replicate.mp hl).2] at h2
  exact h t h2
theorem stepsOf_len {p x s y : List Int} : (stepsOf p x s y).length = p.length + x.length + s.length + y.length := by
  simp [stepsOf]; omega
end DL

/-! plain law 2: sequences for long parts -/
namespace DL
open PySem L2
theorem longP_steps {p x s y : List Int} : longP (stepsOf p x s y) = some (p, x, s, y) := by
  have h := long_its (p := p) (x := x) (s := s) (y := y) (e := 1)
  simp only [List.replicate_one, List.flatten_cons, List.flatten_nil, List.append_nil] at h
  have t : oRun true (stepsOf p x s y) ([], []) = some (p, x) := by
    rw [oRun_steps_t]; simp [rnd, tk_nil]
  have f : oRun false (stepsOf p x s y) ([], []) = some (s.reverse, y.reverse) := by
    rw [oRun_steps_f]; simp [rnd, tk_nil]
  unfold longP ordS
  rw [t, f]
  simp
theorem oRun_small {b : Bool} {Q : Int → Prop} : ∀ {ss : List Stp} {o o' : List Int × List Int}, (∀ s ∈ ss, Q s.n) → (∀ n ∈ o.1, Q n) → (∀ n ∈ o.2, Q n) → oRun b ss o = some o' →
    o'.1.length + o'.2.length ≤ o.1.length + o.2.length + (ss.filter fun s => s.left == b).length ∧ (∀ n ∈ o'.1, Q n) ∧ (∀ n ∈ o'.2, Q n)
  | [], o, o', _, h1, h2, h => by cases h; exact ⟨by simp, h1, h2⟩
  | s :: ss, o, o', hq, h1, h2, h => by
    rw [oRun] at h
    have hs := hq s (List.mem_cons_self ..)
    have hq' : ∀ t ∈ ss, Q t.n := fun t ht => hq t (List.mem_cons_of_mem _ ht)
    cases e : oStep b o s with
    | none => rw [e] at h; cases h
    | some o1 =>
      rw [e] at h
      have h : oRun b ss o1 = some o' := h
      have key : o1.1.length + o1.2.length ≤ o.1.length + o.2.length + ([s].filter fun s => s.left == b).length ∧ (∀ n ∈ o1.1, Q n) ∧ (∀ n ∈ o1.2, Q n) := by
        unfold oStep at e
        split at e
        · rename_i hl
          split at e
          · cases e
            refine ⟨by simp [hl]; omega, h1, fun n hn => ?_⟩
            rcases List.mem_cons.mp hn with rfl | hn
            · exact hs
            · exact h2 n hn
          · split at e
            · rename_i hg
              cases e
              refine ⟨by simp [hl, hg], fun n hn => ?_, fun n hn => (nomatch hn)⟩
              rcases List.mem_append.mp hn with hn | hn
              · exact h1 n hn
              · rw [List.mem_singleton] at hn; rw [hn]; exact hs
            · rename_i g gs hg
              split at e
              · cases e
                refine ⟨by rw [hg]; simp; omega, h1, fun n hn => h2 n (by rw [hg]; exact List.mem_cons_of_mem _ hn)⟩
              · cases e
        · cases e; exact ⟨by omega, h1, h2⟩
      obtain ⟨r1, r2, r3⟩ := oRun_small hq' key.2.1 key.2.2 h
      refine ⟨?_, r2, r3⟩
      have e2 : ((s :: ss).filter fun s => s.left == b).length = ([s].filter fun s => s.left == b).length + (ss.filter fun s => s.left == b).length := by
        rw [← List.length_append, ← List.filter_append]; rfl
      omega
theorem filt_sum : ∀ {ss : List Stp}, (ss.filter fun s => s.left == true).length + (ss.filter fun s => s.left == false).length = ss.length
  | [] => rfl
  | s :: ss => by
    have ih := filt_sum (ss := ss)
    cases hs : s.left <;> simp [List.filter_cons, hs] at ih ⊢ <;> omega
theorem longP_small {Q : Int → Prop} {ss : List Stp} {p x s y : List Int} (hq : ∀ t ∈ ss, Q t.n) (h : longP ss = some (p, x, s, y)) :
    p.length + x.length + s.length + y.length ≤ ss.length ∧ (∀ n ∈ p, Q n) ∧ (∀ n ∈ x, Q n) ∧ (∀ n ∈ s, Q n) ∧ (∀ n ∈ y, Q n) := by
  unfold longP ordS at h
  cases e1 : oRun true ss ([], []) with
  | none => rw [e1] at h; simp at h
  | some o1 =>
    cases e2 : oRun false ss ([], []) with
    | none => rw [e1, e2] at h; simp at h
    | some o2 =>
      rw [e1, e2] at h
      simp at h
      obtain ⟨rfl, rfl, rfl, rfl⟩ := h
      obtain ⟨a1, a2, a3⟩ := oRun_small (Q := Q) hq (by simp) (by simp) e1
      obtain ⟨b1, b2, b3⟩ := oRun_small (Q := Q) hq (by simp) (by simp) e2
      have f := filt_sum (ss := ss)
      simp at a1 b1 f
      refine ⟨by simp; omega, a2, a3, fun n hn => b2 n (List.mem_reverse.mp hn), fun n hn => b3 n (List.mem_reverse.mp hn)⟩
theorem runS_app {r : List Int} : ∀ {xs ys : List Stp} {r : List Int}, runS r (xs ++ ys) = (runS r xs).bind fun r' => runS r' ys
  | [], ys, r => rfl
  | s :: xs, ys, r => by
    rw [List.cons_append, runS, runS]
    cases stepped r s with
    | none => rfl
    | some r1 => exact runS_app (r := r1) (xs := xs)
theorem runS_tl : ∀ {p r : List Int}, runS (p ++ r) (p.map (Stp.mk false true)) = some r
  | [], r => rfl
  | a :: p, r => by
    rw [List.map_cons, runS]
    have e : stepped (a :: p ++ r) ⟨false, true, a⟩ = some (p ++ r) := by simp [stepped]
    rw [e]
    exact runS_tl
theorem runS_pl : ∀ {x r : List Int}, runS r (x.map (Stp.mk true true)) = some (x.reverse ++ r)
  | [], r => rfl
  | a :: x, r => by
    rw [List.map_cons, runS]
    have e : stepped r ⟨true, true, a⟩ = some (a :: r) := by simp [stepped]
    rw [e]
    show runS (a :: r) _ = _
    rw [runS_pl]; simp
theorem runS_pr : ∀ {x r : List Int}, runS r (x.map (Stp.mk true false)) = some (r ++ x)
  | [], r => by simp [runS]
  | a :: x, r => by
    rw [List.map_cons, runS]
    have e : stepped r ⟨true, false, a⟩ = some (r ++ [a]) := by simp [stepped]
    rw [e]
    show runS (r ++ [a]) _ = _
    rw [runS_pr]; simp
theorem runS_tr : ∀ {t r : List Int}, runS (r ++ t.reverse) (t.map (Stp.mk false false)) = some r
  | [], r => by simp [runS]
  | a :: t, r => by
    rw [List.map_cons, runS]
    have e : stepped (r ++ (a :: t).reverse) ⟨false, false, a⟩ = some (r ++ t.reverse) := by
      rw [List.reverse_cons, ← List.append_assoc]
      unfold stepped
      simp
    rw [e]
    exact runS_tr
theorem run_steps {p x s y m : List Int} : runS (p ++ m ++ s) (stepsOf p x s y) = some (x ++ m ++ y) := by
  unfold stepsOf
  rw [runS_app (r := []), runS_app (r := []), runS_app (r := []), List.append_assoc, runS_tl]
  simp only [Option.bind_some]
  rw [runS_pl]
  simp only [Option.bind_some, List.reverse_reverse]
  have e : runS (x ++ (m ++ s)) (s.reverse.map (Stp.mk false false)) = some (x ++ m) := by
    have h := runS_tr (t := s.reverse) (r := x ++ m)
    rw [List.reverse_reverse] at h
    rw [← List.append_assoc]
    exact h
  rw [e]
  simp only [Option.bind_some]
  rw [runS_pr]
theorem wp_turns_none {Δ : SD} {E : EX} {vs : List Nat} {t : D → M Unit} {ft : M Bool} {fe : M D} {ds : List D} {P : List D → SD → Prop}
    (step : ∀ d ∈ ds, wp (t d) (wipeD Δ vs) (K := ⟨(fun _ Δ1 => wp ft Δ1 (K := ⟨(fun b Δ2 => b = false ∧ wipeD Δ2 vs = wipeD Δ vs), E⟩)), noE⟩))
    (fin : P [] (wipeD Δ vs)) : wp (mTurns vs t ft fe ds) Δ (K := ⟨P, E⟩) := by
  refine wp_turns_map (fun _ => none) (fun d hd => wp_mono (step d hd) (fun _ Δ1 q => wp_mono q (fun b Δ2 q2 => ?_) fun _ _ _ z => z) fun _ _ _ z => z) ?_
  · rw [if_neg (by rw [q2.1]; simp)]
    exact ⟨rfl, q2.2⟩
  · have e : ds.filterMap (fun _ => (none : Option D)) = [] := by
      clear step
      induction ds with
      | nil => rfl
      | cons d ds ih => simp
    rw [e]
    exact fin
end DL

/-! plain law 3: the effect of a sequence gives its result on every row -/
namespace DL
open PySem L2
/-- a run on a row in three parts: what was put at the left, what is left of the row, what was put at the right -/
structure Tri where
  A : List Int
  M : List Int
  B : List Int
def Tri.all (t : Tri) : List Int := t.A ++ t.M ++ t.B
def takeL (t : Tri) (n : Int) : Option Tri := match t.A with
  | a :: A => if a = n then some { t with A := A } else none
  | [] => match t.M with
    | m :: M => if m = n then some { t with M := M } else none
    | [] => match t.B with
      | b :: B => if b = n then some { t with B := B } else none
      | [] => none
def takeR (t : Tri) (n : Int) : Option Tri := match t.B.getLast? with
  | some b => if b = n then some { t with B := t.B.dropLast } else none
  | none => match t.M.getLast? with
    | some m => if m = n then some { t with M := t.M.dropLast } else none
    | none => match t.A.getLast? with
      | some a => if a = n then some { t with A := t.A.dropLast } else none
      | none => none
def triStep (t : Tri) (s : Stp) : Option Tri :=
  if s.put then some (if s.left then { t with A := s.n :: t.A } else { t with B := t.B ++ [s.n] })
  else if s.left then takeL t s.n else takeR t s.n
def tri : List Stp → Tri → Option Tri
  | [], t => some t
  | s :: ss, t => (triStep t s).bind (tri ss)
theorem stepped_tri {t : Tri} {s : Stp} : stepped t.all s = (triStep t s).map Tri.all := by
  obtain ⟨A, M, B⟩ := t
  obtain ⟨p, l, n⟩ := s
  unfold stepped triStep
  cases p with
  | true => cases l <;> simp [Tri.all]
  | false =>
    cases l with
    | true =>
      simp only [Bool.false_eq_true, if_false, if_true, takeL, Tri.all]
      rcases A with _ | ⟨a, A⟩
      · rcases M with _ | ⟨m, M⟩
        · rcases B with _ | ⟨b, B⟩
          · rfl
          · simp only [List.nil_append]; split <;> simp [Tri.all]
        · simp only [List.nil_append, List.cons_append]; split <;> simp [Tri.all]
      · simp only [List.cons_append]; split <;> simp [Tri.all]
    | false =>
      simp only [Bool.false_eq_true, if_false, takeR, Tri.all]
      rcases List.eq_nil_or_concat B with rfl | ⟨B, b, rfl⟩
      · rcases List.eq_nil_or_concat M with rfl | ⟨M, m, rfl⟩
        · rcases List.eq_nil_or_concat A with rfl | ⟨A, a, rfl⟩
          · rfl
          · simp; split <;> simp [Tri.all]
        · simp; split <;> simp [Tri.all, ← List.append_assoc]
      · simp; split <;> simp [Tri.all, ← List.append_assoc]
theorem runS_tri : ∀ {ss : List Stp} {t : Tri}, runS t.all ss = (tri ss t).map Tri.all
  | [], t => rfl
  | s :: ss, t => by
    rw [runS, tri, stepped_tri]
    cases triStep t s with
    | none => rfl
    | some t1 => exact runS_tri (t := t1)
/-- one step, while the middle stays -/
theorem tri_mid {t t' : Tri} {s : Stp} {N S : List Int} (h : triStep t s = some t') (hm : t'.M ≠ []) :
    ∃ Lm Rm, t.M = Lm ++ t'.M ++ Rm ∧ oStep true (N, t.A) s = some (N ++ Lm, t'.A) ∧ oStep false (S, t.B.reverse) s = some (S ++ Rm.reverse, t'.B.reverse) := by
  obtain ⟨A, M, B⟩ := t
  obtain ⟨p, l, n⟩ := s
  unfold triStep at h
  cases p with
  | true =>
    cases l
    · simp at h; subst h
      exact ⟨[], [], by simp, by simp [oStep], by simp [oStep]⟩
    · simp at h; subst h
      exact ⟨[], [], by simp, by simp [oStep], by simp [oStep]⟩
  | false =>
    cases l with
    | true =>
      simp only [Bool.false_eq_true, if_false, if_true, takeL] at h
      rcases A with _ | ⟨a, A⟩
      · rcases M with _ | ⟨m, M⟩
        · rcases B with _ | ⟨b, B⟩
          · cases h
          · dsimp only at h
            split at h
            · cases h; exact (hm rfl).elim
            · cases h
        · dsimp only at h
          split at h
          · rename_i e
            cases h
            exact ⟨[m], [], by simp, by simp [oStep, e], by simp [oStep]⟩
          · cases h
      · dsimp only at h
        split at h
        · rename_i e
          cases h
          exact ⟨[], [], by simp, by simp [oStep, e], by simp [oStep]⟩
        · cases h
    | false =>
      simp only [Bool.false_eq_true, if_false, takeR] at h
      rcases List.eq_nil_or_concat B with rfl | ⟨B, b, rfl⟩
      · rcases List.eq_nil_or_concat M with rfl | ⟨M, m, rfl⟩
        · rcases List.eq_nil_or_concat A with rfl | ⟨A, a, rfl⟩
          · cases h
          · simp at h
            obtain ⟨_, rfl⟩ := h
            exact (hm rfl).elim
        · simp at h
          obtain ⟨e, rfl⟩ := h
          exact ⟨[], [m], by simp, by simp [oStep], by simp [oStep, e]⟩
      · simp at h
        obtain ⟨e, rfl⟩ := h
        exact ⟨[], [], by simp, by simp [oStep], by simp [oStep, e]⟩
theorem tri_len {t t' : Tri} {s : Stp} (h : triStep t s = some t') (hm : t.M = []) : t'.M = [] := by
  by_cases e : t'.M = []
  · exact e
  · obtain ⟨Lm, Rm, q, _⟩ := tri_mid (N := []) (S := []) h e
    rw [hm] at q
    have := congrArg List.length q
    simp at this
    exact (e (List.eq_nil_of_length_eq_zero (by omega))).elim
theorem tri_nil : ∀ {ss : List Stp} {t t' : Tri}, tri ss t = some t' → t.M = [] → t'.M = []
  | [], t, t', h, hm => by cases h; exact hm
  | s :: ss, t, t', h, hm => by
    rw [tri] at h
    cases e : triStep t s with
    | none => rw [e] at h; cases h
    | some t1 =>
      rw [e] at h
      exact tri_nil (t := t1) h (tri_len e hm)
theorem tri_long : ∀ {ss : List Stp} {t t' : Tri} {N S : List Int}, tri ss t = some t' → t'.M ≠ [] →
    ∃ Lm Rm, t.M = Lm ++ t'.M ++ Rm ∧ oRun true ss (N, t.A) = some (N ++ Lm, t'.A) ∧ oRun false ss (S, t.B.reverse) = some (S ++ Rm.reverse, t'.B.reverse)
  | [], t, t', N, S, h, hm => by cases h; exact ⟨[], [], by simp, by simp [oRun], by simp [oRun]⟩
  | s :: ss, t, t', N, S, h, hm => by
    rw [tri] at h
    cases e : triStep t s with
    | none => rw [e] at h; cases h
    | some t1 =>
      rw [e] at h
      have h : tri ss t1 = some t' := h
      have hm1 : t1.M ≠ [] := fun z => hm (tri_nil h z)
      obtain ⟨L1, R1, e1, o1, p1⟩ := tri_mid (N := N) (S := S) e hm1
      obtain ⟨L2, R2, e2, o2, p2⟩ := tri_long (N := N ++ L1) (S := S ++ R1.reverse) h hm
      refine ⟨L1 ++ L2, R2 ++ R1, by rw [e1, e2]; simp, ?_, ?_⟩
      · rw [oRun, o1]; show oRun true ss _ = _; rw [o2]; simp
      · rw [oRun, p1]; show oRun false ss _ = _; rw [p2]; simp
/-- what a long part gives on a row -/
def longRes (lg : Option (List Int × List Int × List Int × List Int)) (r : List Int) : Option (List Int) := match lg with
  | none => none
  | some (p, x, s, y) => if r.length < p.length + s.length ∨ r.take p.length ≠ p ∨ r.drop (r.length - s.length) ≠ s then none
    else some (x ++ (r.drop p.length).take (r.length - s.length - p.length) ++ y)
theorem longRes_mid {p x s y m : List Int} : longRes (some (p, x, s, y)) (p ++ m ++ s) = some (x ++ m ++ y) := by
  unfold longRes
  have e1 : (p ++ m ++ s).length = p.length + m.length + s.length := by simp; omega
  have e2 : (p ++ m ++ s).length - s.length = (p ++ m).length := by simp; omega
  dsimp only
  rw [e2]
  have e3 : (p ++ m ++ s).drop (p ++ m).length = s := by rw [List.drop_left]
  have e4 : (p ++ m ++ s).take p.length = p := by rw [List.append_assoc, List.take_left]
  rw [e3, e4, if_neg (by rw [e1]; simp)]
  have e5 : (p ++ m ++ s).drop p.length = m ++ s := by rw [List.append_assoc, List.drop_left]
  have e6 : (p ++ m).length - p.length = m.length := by simp
  rw [e5, e6, List.take_left]
theorem longRes_some {p x s y r res : List Int} (h : longRes (some (p, x, s, y)) r = some res) : ∃ m, r = p ++ m ++ s ∧ res = x ++ m ++ y := by
  unfold longRes at h
  dsimp only at h
  split at h
  · cases h
  · rename_i hc
    simp only [not_or, Decidable.not_not, Nat.not_lt] at hc
    obtain ⟨h1, h2, h3⟩ := hc
    cases h
    have e1 : r = p ++ r.drop p.length := by
      conv => lhs; rw [← List.take_append_drop p.length r, h2]
    generalize hq : r.drop p.length = q at e1
    subst e1
    simp only [List.length_append] at h1 h3 ⊢
    have e2 : (p ++ q).drop (p.length + q.length - s.length) = q.drop (q.length - s.length) := by
      rw [show p.length + q.length - s.length = p.length + (q.length - s.length) by omega, List.drop_append]
      simp
    rw [e2] at h3
    refine ⟨q.take (q.length - s.length), ?_, ?_⟩
    · rw [List.append_assoc]
      congr 1
      conv => lhs; rw [← List.take_append_drop (q.length - s.length) q, h3]
    · rw [show p.length + q.length - s.length - p.length = q.length - s.length by omega]
theorem oStep_mono {b : Bool} {N G N' G' : List Int} {s : Stp} (h : oStep b (N, G) s = some (N', G')) : ∃ q, N' = N ++ q := by
  unfold oStep at h
  split at h
  · split at h
    · cases h; exact ⟨[], by simp⟩
    · split at h
      · cases h; exact ⟨_, rfl⟩
      · split at h
        · cases h; exact ⟨[], by simp⟩
        · cases h
  · cases h; exact ⟨[], by simp⟩
theorem oRun_mono {b : Bool} : ∀ {ss : List Stp} {N G N' G' : List Int}, oRun b ss (N, G) = some (N', G') → ∃ q, N' = N ++ q
  | [], N, G, N', G', h => by cases h; exact ⟨[], by simp⟩
  | s :: ss, N, G, N', G', h => by
    rw [oRun] at h
    cases e : oStep b (N, G) s with
    | none => rw [e] at h; cases h
    | some o =>
      obtain ⟨N1, G1⟩ := o
      rw [e] at h
      obtain ⟨q1, rfl⟩ := oStep_mono e
      obtain ⟨q2, rfl⟩ := oRun_mono (ss := ss) h
      exact ⟨q1 ++ q2, by simp⟩
theorem long_sound : ∀ {ss : List Stp} {A Br p sr m N S A' Br' : List Int}, oRun true ss (N, A) = some (N ++ p, A') → oRun false ss (S, Br) = some (S ++ sr, Br') →
    runS (A ++ p ++ m ++ sr.reverse ++ Br.reverse) ss = some (A' ++ m ++ Br'.reverse)
  | [], A, Br, p, sr, m, N, S, A', Br', h1, h2 => by
    simp [oRun] at h1 h2
    obtain ⟨rfl, rfl⟩ := h1
    obtain ⟨rfl, rfl⟩ := h2
    simp [runS]
  | s :: ss, A, Br, p, sr, m, N, S, A', Br', h1, h2 => by
    obtain ⟨pu, l, n⟩ := s
    rw [oRun] at h1 h2
    rw [runS]
    cases l with
    | true =>
      have e2 : oStep false (S, Br) ⟨pu, true, n⟩ = some (S, Br) := by simp [oStep]
      rw [e2] at h2
      have h2 : oRun false ss (S, Br) = some (S ++ sr, Br') := h2
      cases pu with
      | true =>
        have e1 : oStep true (N, A) ⟨true, true, n⟩ = some (N, n :: A) := by simp [oStep]
        rw [e1] at h1
        have ih := long_sound (m := m) (show oRun true ss (N, n :: A) = some (N ++ p, A') from h1) h2
        have e3 : stepped (A ++ p ++ m ++ sr.reverse ++ Br.reverse) ⟨true, true, n⟩ = some (n :: A ++ p ++ m ++ sr.reverse ++ Br.reverse) := by simp [stepped]
        rw [e3]
        exact ih
      | false =>
        rcases A with _ | ⟨a, A⟩
        · have e1 : oStep true (N, []) ⟨false, true, n⟩ = some (N ++ [n], []) := by simp [oStep]
          rw [e1] at h1
          have h1 : oRun true ss (N ++ [n], []) = some (N ++ p, A') := h1
          obtain ⟨q, hq⟩ := oRun_mono h1
          rw [List.append_assoc] at hq
          have hq := List.append_cancel_left hq
          subst hq
          have h1 : oRun true ss (N ++ [n], []) = some ((N ++ [n]) ++ q, A') := by rw [h1]; simp
          have ih := long_sound (m := m) h1 h2
          have e3 : stepped ([] ++ ([n] ++ q) ++ m ++ sr.reverse ++ Br.reverse) ⟨false, true, n⟩ = some ([] ++ q ++ m ++ sr.reverse ++ Br.reverse) := by simp [stepped]
          rw [e3]
          exact ih
        · by_cases ha : a = n
          · subst ha
            have e1 : oStep true (N, a :: A) ⟨false, true, a⟩ = some (N, A) := by simp [oStep]
            rw [e1] at h1
            have ih := long_sound (m := m) (show oRun true ss (N, A) = some (N ++ p, A') from h1) h2
            have e3 : stepped (a :: A ++ p ++ m ++ sr.reverse ++ Br.reverse) ⟨false, true, a⟩ = some (A ++ p ++ m ++ sr.reverse ++ Br.reverse) := by simp [stepped]
            rw [e3]
            exact ih
          · have e1 : oStep true (N, a :: A) ⟨false, true, n⟩ = none := by simp [oStep, ha]
            rw [e1] at h1
            cases h1
    | false =>
      have e1 : oStep true (N, A) ⟨pu, false, n⟩ = some (N, A) := by simp [oStep]
      rw [e1] at h1
      have h1 : oRun true ss (N, A) = some (N ++ p, A') := h1
      cases pu with
      | true =>
        have e2 : oStep false (S, Br) ⟨true, false, n⟩ = some (S, n :: Br) := by simp [oStep]
        rw [e2] at h2
        have ih := long_sound (m := m) h1 (show oRun false ss (S, n :: Br) = some (S ++ sr, Br') from h2)
        have e3 : stepped (A ++ p ++ m ++ sr.reverse ++ Br.reverse) ⟨true, false, n⟩ = some (A ++ p ++ m ++ sr.reverse ++ (n :: Br).reverse) := by simp [stepped]
        rw [e3]
        exact ih
      | false =>
        rcases Br with _ | ⟨a, Br⟩
        · have e2 : oStep false (S, []) ⟨false, false, n⟩ = some (S ++ [n], []) := by simp [oStep]
          rw [e2] at h2
          have h2 : oRun false ss (S ++ [n], []) = some (S ++ sr, Br') := h2
          obtain ⟨q, hq⟩ := oRun_mono h2
          rw [List.append_assoc] at hq
          have hq := List.append_cancel_left hq
          subst hq
          have h2 : oRun false ss (S ++ [n], []) = some ((S ++ [n]) ++ q, Br') := by rw [h2]; simp
          have ih := long_sound (m := m) h1 h2
          have e3 : stepped (A ++ p ++ m ++ ([n] ++ q).reverse ++ ([] : List Int).reverse) ⟨false, false, n⟩ = some (A ++ p ++ m ++ q.reverse ++ ([] : List Int).reverse) := by
            have e4 : A ++ p ++ m ++ ([n] ++ q).reverse ++ ([] : List Int).reverse = (A ++ p ++ m ++ q.reverse) ++ [n] := by simp
            rw [e4]
            unfold stepped
            simp
          rw [e3]
          exact ih
        · by_cases ha : a = n
          · subst ha
            have e2 : oStep false (S, a :: Br) ⟨false, false, a⟩ = some (S, Br) := by simp [oStep]
            rw [e2] at h2
            have ih := long_sound (m := m) h1 (show oRun false ss (S, Br) = some (S ++ sr, Br') from h2)
            have e3 : stepped (A ++ p ++ m ++ sr.reverse ++ (a :: Br).reverse) ⟨false, false, a⟩ = some (A ++ p ++ m ++ sr.reverse ++ Br.reverse) := by
              have e4 : A ++ p ++ m ++ sr.reverse ++ (a :: Br).reverse = (A ++ p ++ m ++ sr.reverse ++ Br.reverse) ++ [a] := by simp
              rw [e4]
              unfold stepped
              simp
            rw [e3]
            exact ih
          · have e2 : oStep false (S, a :: Br) ⟨false, false, n⟩ = none := by simp [oStep, ha]
            rw [e2] at h2
            cases h2
theorem longP_inv {ss : List Stp} {p x s y : List Int} (h : longP ss = some (p, x, s, y)) : oRun true ss ([], []) = some (p, x) ∧ oRun false ss ([], []) = some (s.reverse, y.reverse) := by
  unfold longP ordS at h
  cases e1 : oRun true ss ([], []) with
  | none => rw [e1] at h; simp at h
  | some o1 =>
    cases e2 : oRun false ss ([], []) with
    | none => rw [e1, e2] at h; simp at h
    | some o2 =>
      rw [e1, e2] at h
      simp at h
      obtain ⟨rfl, rfl, rfl, rfl⟩ := h
      simp
theorem longP_mk {ss : List Stp} {p x s y : List Int} (h1 : oRun true ss ([], []) = some (p, x)) (h2 : oRun false ss ([], []) = some (s.reverse, y.reverse)) : longP ss = some (p, x, s, y) := by
  unfold longP ordS
  rw [h1, h2]
  simp
/-- the long part is right -/
theorem long_right {ss : List Stp} {r res : List Int} (h : longRes (longP ss) r = some res) : runS r ss = some res := by
  cases e : longP ss with
  | none => rw [e] at h; cases h
  | some q =>
    obtain ⟨p, x, s, y⟩ := q
    rw [e] at h
    obtain ⟨m, rfl, rfl⟩ := longRes_some h
    obtain ⟨o1, o2⟩ := longP_inv e
    have z := long_sound (m := m) (N := []) (S := []) (p := p) (sr := s.reverse) (by simpa using o1) (by simpa using o2)
    simpa using z
/-- what a run of so many unknown items learns -/
structure Lg where
  A : List Int
  L : List Int
  k : Nat
  R : List Int
  B : List Int
def lgStep (t : Lg) (s : Stp) : Option Lg :=
  if s.put then some (if s.left then { t with A := s.n :: t.A } else { t with B := t.B ++ [s.n] })
  else if s.left then (match t.A with
    | a :: A => if a = s.n then some { t with A := A } else none
    | [] => match t.k with
      | k + 1 => some { t with L := t.L ++ [s.n], k := k }
      | 0 => match t.B with
        | b :: B => if b = s.n then some { t with B := B } else none
        | [] => none)
  else (match t.B.getLast? with
    | some b => if b = s.n then some { t with B := t.B.dropLast } else none
    | none => match t.k with
      | k + 1 => some { t with R := s.n :: t.R, k := k }
      | 0 => match t.A.getLast? with
        | some a => if a = s.n then some { t with A := t.A.dropLast } else none
        | none => none)
def lg : List Stp → Lg → Option Lg
  | [], t => some t
  | s :: ss, t => (lgStep t s).bind (lg ss)
theorem lg_comp1 {A M B L R : List Int} {t' : Tri} {s : Stp} (h : triStep ⟨A, M, B⟩ s = some t') : ∃ Lm Rm, M = Lm ++ t'.M ++ Rm ∧ lgStep ⟨A, L, M.length, R, B⟩ s = some ⟨t'.A, L ++ Lm, t'.M.length, Rm ++ R, t'.B⟩ := by
  obtain ⟨p, l, n⟩ := s
  unfold triStep at h
  unfold lgStep
  cases p with
  | true =>
    cases l
    · simp at h; subst h
      exact ⟨[], [], by simp, by simp⟩
    · simp at h; subst h
      exact ⟨[], [], by simp, by simp⟩
  | false =>
    cases l with
    | true =>
      simp only [Bool.false_eq_true, if_false, if_true, takeL] at h ⊢
      rcases A with _ | ⟨a, A⟩
      · rcases M with _ | ⟨m, M⟩
        · rcases B with _ | ⟨b, B⟩
          · cases h
          · dsimp only at h
            split at h
            · rename_i e
              cases h; exact ⟨[], [], by simp, by simp [e]⟩
            · cases h
        · dsimp only at h
          split at h
          · rename_i e
            cases h
            exact ⟨[m], [], by simp, by simp [e]⟩
          · cases h
      · dsimp only at h
        split at h
        · rename_i e
          cases h
          exact ⟨[], [], by simp, by simp [e]⟩
        · cases h
    | false =>
      simp only [Bool.false_eq_true, if_false, takeR] at h ⊢
      rcases List.eq_nil_or_concat B with rfl | ⟨B, b, rfl⟩
      · rcases List.eq_nil_or_concat M with rfl | ⟨M, m, rfl⟩
        · rcases List.eq_nil_or_concat A with rfl | ⟨A, a, rfl⟩
          · cases h
          · simp at h
            obtain ⟨e, rfl⟩ := h
            exact ⟨[], [], by simp, by simp [e]⟩
        · simp at h
          obtain ⟨e, rfl⟩ := h
          exact ⟨[], [m], by simp, by simp [e]⟩
      · simp at h
        obtain ⟨e, rfl⟩ := h
        exact ⟨[], [], by simp, by simp [e]⟩
theorem lg_comp : ∀ {ss : List Stp} {A M B L R : List Int} {t' : Tri}, tri ss ⟨A, M, B⟩ = some t' → ∃ Lm Rm, M = Lm ++ t'.M ++ Rm ∧ lg ss ⟨A, L, M.length, R, B⟩ = some ⟨t'.A, L ++ Lm, t'.M.length, Rm ++ R, t'.B⟩
  | [], A, M, B, L, R, t', h => by cases h; exact ⟨[], [], by simp, by simp [lg]⟩
  | s :: ss, A, M, B, L, R, t', h => by
    rw [tri] at h
    cases e : triStep ⟨A, M, B⟩ s with
    | none => rw [e] at h; cases h
    | some t1 =>
      rw [e] at h
      have h : tri ss t1 = some t' := h
      obtain ⟨L1, R1, e1, g1⟩ := lg_comp1 (L := L) (R := R) e
      obtain ⟨A1, M1, B1⟩ := t1
      obtain ⟨L2, R2, e2, g2⟩ := lg_comp (L := L ++ L1) (R := R1 ++ R) h
      dsimp only at e1 g1
      refine ⟨L1 ++ L2, R2 ++ R1, by rw [e1, e2]; simp, ?_⟩
      rw [lg, g1]
      show lg ss _ = _
      rw [g2]
      simp
theorem lg_snd1 {A L R B : List Int} {k : Nat} {t' : Lg} {s : Stp} {M' : List Int} (h : lgStep ⟨A, L, k, R, B⟩ s = some t') (hM : M'.length = t'.k) :
    ∃ Lm Rm, t'.L = L ++ Lm ∧ t'.R = Rm ++ R ∧ (Lm ++ M' ++ Rm).length = k ∧ triStep ⟨A, Lm ++ M' ++ Rm, B⟩ s = some ⟨t'.A, M', t'.B⟩ := by
  obtain ⟨p, l, n⟩ := s
  unfold lgStep at h
  unfold triStep
  cases p with
  | true =>
    cases l
    · simp at h; subst h
      exact ⟨[], [], by simp, by simp, by simpa using hM, by simp⟩
    · simp at h; subst h
      exact ⟨[], [], by simp, by simp, by simpa using hM, by simp⟩
  | false =>
    cases l with
    | true =>
      simp only [Bool.false_eq_true, if_false, if_true, takeL] at h ⊢
      rcases A with _ | ⟨a, A⟩
      · rcases k with _ | k
        · rcases B with _ | ⟨b, B⟩
          · cases h
          · dsimp only at h
            split at h
            · rename_i e
              cases h
              have : M' = [] := List.eq_nil_of_length_eq_zero hM
              subst this
              exact ⟨[], [], by simp, by simp, by simp, by simp [e]⟩
            · cases h
        · dsimp only at h
          cases h
          exact ⟨[n], [], by simp, by simp, by simp at hM ⊢; omega, by simp⟩
      · dsimp only at h
        split at h
        · rename_i e
          cases h
          exact ⟨[], [], by simp, by simp, by simpa using hM, by simp [e]⟩
        · cases h
    | false =>
      simp only [Bool.false_eq_true, if_false, takeR] at h ⊢
      rcases List.eq_nil_or_concat B with rfl | ⟨B, b, rfl⟩
      · rcases k with _ | k
        · rcases List.eq_nil_or_concat A with rfl | ⟨A, a, rfl⟩
          · cases h
          · simp at h
            obtain ⟨e, rfl⟩ := h
            have : M' = [] := List.eq_nil_of_length_eq_zero hM
            subst this
            exact ⟨[], [], by simp, by simp, by simp, by simp [e]⟩
        · simp at h
          subst h
          exact ⟨[], [n], by simp, by simp, by simp at hM ⊢; omega, by simp⟩
      · simp at h
        obtain ⟨e, rfl⟩ := h
        exact ⟨[], [], by simp, by simp, by simpa using hM, by simp [e]⟩
theorem lg_snd : ∀ {ss : List Stp} {A L R B : List Int} {k : Nat} {t' : Lg} {M' : List Int}, lg ss ⟨A, L, k, R, B⟩ = some t' → M'.length = t'.k →
    ∃ Lm Rm, t'.L = L ++ Lm ∧ t'.R = Rm ++ R ∧ (Lm ++ M' ++ Rm).length = k ∧ tri ss ⟨A, Lm ++ M' ++ Rm, B⟩ = some ⟨t'.A, M', t'.B⟩
  | [], A, L, R, B, k, t', M', h, hM => by cases h; exact ⟨[], [], by simp, by simp, by simpa using hM, by simp [tri]⟩
  | s :: ss, A, L, R, B, k, t', M', h, hM => by
    rw [lg] at h
    cases e : lgStep ⟨A, L, k, R, B⟩ s with
    | none => rw [e] at h; cases h
    | some t1 =>
      rw [e] at h
      obtain ⟨A1, L1, k1, R1, B1⟩ := t1
      have h : lg ss ⟨A1, L1, k1, R1, B1⟩ = some t' := h
      obtain ⟨L2, R2, a1, a2, a3, a4⟩ := lg_snd h hM
      obtain ⟨L3, R3, b1, b2, b3, b4⟩ := lg_snd1 e a3
      dsimp only at b1 b2 b4
      refine ⟨L3 ++ L2, R2 ++ R3, by rw [a1, b1]; simp, by rw [a2, b2]; simp, by rw [← b3]; simp, ?_⟩
      have e5 : L3 ++ L2 ++ M' ++ (R2 ++ R3) = L3 ++ (L2 ++ M' ++ R2) ++ R3 := by simp
      rw [e5, tri, b4]
      exact a4
/-- the only row of a length whose items are all taken, and its result -/
def runLen (ss : List Stp) (n : Nat) : Option (List Int × List Int) := match lg ss ⟨[], [], n, [], []⟩ with
  | some t => if t.k = 0 then some (t.L ++ t.R, t.A ++ t.B) else none
  | none => none
theorem runLen_snd {ss : List Stp} {n : Nat} {r res : List Int} (h : runLen ss n = some (r, res)) : r.length = n ∧ runS r ss = some res := by
  unfold runLen at h
  cases e : lg ss ⟨[], [], n, [], []⟩ with
  | none => rw [e] at h; cases h
  | some t =>
    rw [e] at h
    dsimp only at h
    split at h
    · rename_i hk
      cases h
      obtain ⟨Lm, Rm, a1, a2, a3, a4⟩ := lg_snd (M' := []) e (by simp [hk])
      simp at a1 a2 a3 a4
      rw [a1, a2]
      have z := runS_tri (ss := ss) (t := ⟨[], Lm ++ Rm, []⟩)
      rw [a4] at z
      simp [Tri.all] at z
      exact ⟨by simp; omega, z⟩
    · cases h
def takes (ss : List Stp) : Nat := (ss.filter fun s => !s.put).length
theorem tri_takes1 {t t' : Tri} {s : Stp} (h : triStep t s = some t') : t.M.length ≤ t'.M.length + takes [s] := by
  obtain ⟨A, M, B⟩ := t
  obtain ⟨p, l, n⟩ := s
  cases p with
  | true =>
    unfold triStep at h
    cases l <;> (simp at h; subst h; simp [takes])
  | false =>
    unfold triStep at h
    have one : takes [⟨false, l, n⟩] = 1 := by simp [takes]
    rw [one]
    cases l with
    | true =>
      simp only [Bool.false_eq_true, if_false, if_true, takeL] at h
      split at h
      · split at h
        · cases h; simp
        · cases h
      · split at h
        · split at h
          · cases h; simp_all
          · cases h
        · split at h
          · split at h
            · cases h; simp_all
            · cases h
          · cases h
    | false =>
      simp only [Bool.false_eq_true, if_false, takeR] at h
      split at h
      · split at h
        · cases h; simp
        · cases h
      · split at h
        · split at h
          · cases h; simp; omega
          · cases h
        · split at h
          · split at h
            · cases h; simp
            · cases h
          · cases h
theorem takes_cons {s : Stp} {ss : List Stp} : takes (s :: ss) = takes [s] + takes ss := by
  unfold takes
  rw [← List.length_append, ← List.filter_append]; rfl
theorem tri_takes : ∀ {ss : List Stp} {t t' : Tri}, tri ss t = some t' → t.M.length ≤ t'.M.length + takes ss
  | [], t, t', h => by cases h; simp
  | s :: ss, t, t', h => by
    rw [tri] at h
    cases e : triStep t s with
    | none => rw [e] at h; cases h
    | some t1 =>
      rw [e] at h
      have a := tri_takes1 e
      have b := tri_takes (ss := ss) (t := t1) h
      rw [takes_cons]
      omega
/-- a run that succeeds: by the long part, or as the run of its length -/
theorem run_cases {ss : List Stp} {r res : List Int} (h : runS r ss = some res) : longRes (longP ss) r = some res ∨ (runLen ss r.length = some (r, res) ∧ r.length ≤ takes ss) := by
  have z := runS_tri (ss := ss) (t := ⟨[], r, []⟩)
  simp only [Tri.all, List.nil_append, List.append_nil] at z
  rw [h] at z
  cases e : tri ss ⟨[], r, []⟩ with
  | none => rw [e] at z; cases z
  | some t =>
    rw [e] at z
    have z : res = t.A ++ t.M ++ t.B := Option.some.inj z
    by_cases hm : t.M = []
    · right
      obtain ⟨Lm, Rm, e1, g⟩ := lg_comp (L := []) (R := []) e
      rw [hm] at e1 g
      simp at e1 g
      refine ⟨?_, ?_⟩
      · unfold runLen
        rw [g]
        rw [hm] at z
        simp at z
        simp [e1, z]
      · have q := tri_takes e
        simp [hm] at q
        exact q
    · left
      obtain ⟨Lm, Rm, e1, o1, o2⟩ := tri_long (N := []) (S := []) e hm
      simp at e1 o1 o2
      rw [longP_mk o1 o2, e1, ← List.append_assoc, longRes_mid, z]
/-- the exceptions of a sequence -/
def excs (ss : List Stp) : List (List Int × List Int) := (List.range (takes ss + 1)).filterMap fun n => match runLen ss n with
  | some q => if longRes (longP ss) q.1 = none then some q else none
  | none => none
/-- the result of an effect on a row -/
def effRes (lg : Option (List Int × List Int × List Int × List Int)) (ps : List (List Int × List Int)) (r : List Int) : Option (List Int) := match ps.find? fun q => decide (q.1 = r) with
  | some q => some q.2
  | none => longRes lg r
theorem excs_mem {ss : List Stp} {q : List Int × List Int} : q ∈ excs ss ↔ q.1.length ≤ takes ss ∧ runLen ss q.1.length = some q ∧ longRes (longP ss) q.1 = none := by
  unfold excs
  simp only [List.mem_filterMap, List.mem_range]
  constructor
  · rintro ⟨n, hn, h⟩
    cases e : runLen ss n with
    | none => rw [e] at h; cases h
    | some q' =>
      rw [e] at h
      dsimp only at h
      split at h
      · rename_i hl
        cases h
        have z := (runLen_snd (r := q.1) (res := q.2) e).1
        rw [z]
        exact ⟨by omega, e, hl⟩
      · cases h
  · rintro ⟨h1, h2, h3⟩
    exact ⟨q.1.length, by omega, by rw [h2]; dsimp only; rw [if_pos h3]⟩
/-- the effect of a sequence gives the sequence's result on every row -/
theorem eff_run {ss : List Stp} {r : List Int} : effRes (longP ss) (excs ss) r = runS r ss := by
  unfold effRes
  cases e : (excs ss).find? fun q => decide (q.1 = r) with
  | some q =>
    have hm := List.mem_of_find?_eq_some e
    have hq := List.find?_some e
    simp at hq
    subst hq
    obtain ⟨h1, h2, h3⟩ := excs_mem.mp hm
    exact (runLen_snd (r := q.1) (res := q.2) h2).2.symm
  | none =>
    dsimp only
    cases el : longRes (longP ss) r with
    | some res => exact (long_right el).symm
    | none =>
      cases er : runS r ss with
      | none => rfl
      | some res =>
        rcases run_cases er with h | ⟨h1, h2⟩
        · rw [el] at h; cases h
        · have hm : (r, res) ∈ excs ss := excs_mem.mpr ⟨h2, h1, el⟩
          rw [List.find?_eq_none] at e
          have := e _ hm
          simp at this
end DL

/-! plain law 4: runs backwards; the inverse of an effect; the distance of rows -/
namespace DL
open PySem L2
/-! backwards -/
def Stp.turn (s : Stp) : Stp := ⟨!s.put, s.left, s.n⟩
def revS (ss : List Stp) : List Stp := (ss.map Stp.turn).reverse
theorem stepped_turn {r r' : List Int} {s : Stp} (h : stepped r s = some r') : stepped r' s.turn = some r := by
  obtain ⟨p, l, n⟩ := s
  unfold stepped at h
  cases p <;> cases l <;> simp [Stp.turn] at h ⊢
  · rcases List.eq_nil_or_concat r with rfl | ⟨r, x, rfl⟩
    · simp at h
    · simp at h
      obtain ⟨rfl, rfl⟩ := h
      simp [stepped]
  · rcases r with _ | ⟨x, r⟩
    · simp at h
    · simp at h
      obtain ⟨rfl, rfl⟩ := h
      simp [stepped]
  · subst h; simp [stepped]
  · subst h; simp [stepped]
theorem turn_turn {s : Stp} : s.turn.turn = s := by simp [Stp.turn]
theorem stepped_turn_iff {r r' : List Int} {s : Stp} : stepped r s = some r' ↔ stepped r' s.turn = some r :=
  ⟨stepped_turn, fun h => by have := stepped_turn h; rwa [turn_turn] at this⟩
theorem runS_rev : ∀ {ss : List Stp} {r r' : List Int}, runS r ss = some r' → runS r' (revS ss) = some r
  | [], r, r', h => by cases h; rfl
  | s :: ss, r, r', h => by
    rw [runS] at h
    cases e : stepped r s with
    | none => rw [e] at h; cases h
    | some r1 =>
      rw [e] at h
      have ih := runS_rev (ss := ss) h
      unfold revS at ih ⊢
      rw [List.map_cons, List.reverse_cons, runS_app (r := []), ih]
      show runS r1 [s.turn] = _
      rw [runS, stepped_turn e]
      rfl
theorem revS_revS {ss : List Stp} : revS (revS ss) = ss := by
  unfold revS
  rw [List.map_reverse, List.reverse_reverse, List.map_map]
  have e : Stp.turn ∘ Stp.turn = id := by funext s; exact turn_turn
  rw [e, List.map_id]
theorem runS_rev_iff {ss : List Stp} {r r' : List Int} : runS r ss = some r' ↔ runS r' (revS ss) = some r :=
  ⟨runS_rev, fun h => by have := runS_rev h; rwa [revS_revS] at this⟩
def invL : Option (List Int × List Int × List Int × List Int) → Option (List Int × List Int × List Int × List Int)
  | none => none
  | some (p, x, s, y) => some (x, p, y, s)
def swp (q : List Int × List Int) : List Int × List Int := (q.2, q.1)
theorem longRes_inv {o : Option (List Int × List Int × List Int × List Int)} {r r' : List Int} (h : longRes o r = some r') : longRes (invL o) r' = some r := by
  rcases o with _ | ⟨p, x, s, y⟩
  · cases h
  · obtain ⟨m, rfl, rfl⟩ := longRes_some h
    exact longRes_mid
theorem invL_invL {o : Option (List Int × List Int × List Int × List Int)} : invL (invL o) = o := by
  rcases o with _ | ⟨p, x, s, y⟩ <;> rfl
theorem longRes_inv_iff {o : Option (List Int × List Int × List Int × List Int)} {r r' : List Int} : longRes (invL o) r = some r' ↔ longRes o r' = some r :=
  ⟨fun h => by have := longRes_inv h; rwa [invL_invL] at this, longRes_inv⟩
/-- the inverse of an effect leads back -/
theorem eff_inv {ss : List Stp} {r : List Int} : effRes (invL (longP ss)) ((excs ss).map swp) r = runS r (revS ss) := by
  unfold effRes
  cases e : ((excs ss).map swp).find? fun q => decide (q.1 = r) with
  | some q =>
    have hm := List.mem_of_find?_eq_some e
    have hq := List.find?_some e
    simp at hq
    subst hq
    obtain ⟨q', hm', rfl⟩ := List.mem_map.mp hm
    obtain ⟨h1, h2, h3⟩ := excs_mem.mp hm'
    exact (runS_rev (runLen_snd (r := q'.1) (res := q'.2) h2).2).symm
  | none =>
    dsimp only
    cases el : longRes (invL (longP ss)) r with
    | some res => exact (runS_rev (long_right (longRes_inv_iff.mp el))).symm
    | none =>
      cases er : runS r (revS ss) with
      | none => rfl
      | some res =>
        have er' := runS_rev_iff.mpr er
        rcases run_cases er' with h | ⟨h1, h2⟩
        · rw [longRes_inv h] at el; cases el
        · by_cases el2 : longRes (longP ss) res = none
          · have hm : (res, r) ∈ excs ss := excs_mem.mpr ⟨h2, h1, el2⟩
            rw [List.find?_eq_none] at e
            have := e (r, res) (List.mem_map.mpr ⟨_, hm, rfl⟩)
            simp at this
          · cases el3 : longRes (longP ss) res with
            | none => exact absurd el3 el2
            | some r2 =>
              have := long_right el3
              rw [er'] at this
              cases this
              rw [longRes_inv el3] at el; cases el
/-! common beginnings -/
def cpl : List Int → List Int → Nat
  | a :: as, b :: bs => if a = b then cpl as bs + 1 else 0
  | _, _ => 0
theorem cpl_le : ∀ {a b : List Int}, cpl a b ≤ a.length ∧ cpl a b ≤ b.length
  | [], b => by simp [cpl]
  | _ :: _, [] => by simp [cpl]
  | a :: as, b :: bs => by
    have h := cpl_le (a := as) (b := bs)
    unfold cpl
    split <;> simp <;> omega
theorem cpl_take : ∀ {a b : List Int}, a.take (cpl a b) = b.take (cpl a b)
  | [], b => by simp [cpl]
  | _ :: _, [] => by simp [cpl]
  | a :: as, b :: bs => by
    have h := cpl_take (a := as) (b := bs)
    unfold cpl
    split
    · rename_i e; subst e; simp [h]
    · simp
theorem cpl_app : ∀ {u s t : List Int}, u.length ≤ cpl (u ++ s) (u ++ t)
  | [], s, t => by simp
  | u :: us, s, t => by
    have h := cpl_app (u := us) (s := s) (t := t)
    rw [List.cons_append, List.cons_append]
    unfold cpl
    rw [if_pos rfl]
    simpa using h
/-- all stretches that occur in both rows, by their places -/
def sts (a b : List Int) : List (Nat × Nat × Nat) := (List.range a.length).flatMap fun i => (List.range b.length).map fun j => (i, j, cpl (a.drop i) (b.drop j))
theorem sts_mem {a b : List Int} {q : Nat × Nat × Nat} : q ∈ sts a b ↔ q.1 < a.length ∧ q.2.1 < b.length ∧ q.2.2 = cpl (a.drop q.1) (b.drop q.2.1) := by
  obtain ⟨i, j, l⟩ := q
  unfold sts
  simp only [List.mem_flatMap, List.mem_range, List.mem_map, Prod.mk.injEq]
  constructor
  · rintro ⟨i', h1, j', h2, rfl, rfl, rfl⟩
    exact ⟨h1, h2, rfl⟩
  · rintro ⟨h1, h2, rfl⟩
    exact ⟨i, h1, j, h2, rfl, rfl, rfl⟩
def lcs (a b : List Int) : Nat := ((sts a b).map fun q => q.2.2).foldl max 0
theorem foldl_max : ∀ {l : List Nat} {n : Nat}, n ≤ l.foldl max n ∧ (∀ x ∈ l, x ≤ l.foldl max n) ∧ (l.foldl max n = n ∨ l.foldl max n ∈ l)
  | [], n => by simp
  | x :: l, n => by
    obtain ⟨h1, h2, h3⟩ := foldl_max (l := l) (n := max n x)
    refine ⟨by simp; omega, fun y hy => ?_, ?_⟩
    · rcases List.mem_cons.mp hy with rfl | hy
      · simp; omega
      · exact h2 y hy
    · rcases h3 with h3 | h3
      · simp only [List.foldl_cons, h3, List.mem_cons]
        rcases Nat.le_total n x with h | h
        · right; left; omega
        · left; omega
      · right; exact List.mem_cons_of_mem _ h3
theorem lcs_ub {a b u : List Int} (ha : u <:+: a) (hb : u <:+: b) : u.length ≤ lcs a b := by
  obtain ⟨p, s, rfl⟩ := ha
  obtain ⟨q, t, rfl⟩ := hb
  rcases Nat.eq_zero_or_pos u.length with h | h
  · omega
  have e : (p.length, q.length, cpl ((p ++ u ++ s).drop p.length) ((q ++ u ++ t).drop q.length)) ∈ sts (p ++ u ++ s) (q ++ u ++ t) := sts_mem.mpr ⟨by simp; omega, by simp; omega, rfl⟩
  have f := (foldl_max (l := (sts (p ++ u ++ s) (q ++ u ++ t)).map fun q => q.2.2) (n := 0)).2.1 _ (List.mem_map.mpr ⟨_, e, rfl⟩)
  have g := cpl_app (u := u) (s := s) (t := t)
  have d1 : (p ++ u ++ s).drop p.length = u ++ s := by rw [List.append_assoc, List.drop_left]
  have d2 : (q ++ u ++ t).drop q.length = u ++ t := by rw [List.append_assoc, List.drop_left]
  dsimp only at f
  rw [d1, d2] at f
  exact Nat.le_trans g f
theorem lcs_at {a b : List Int} : lcs a b = 0 ∨ ∃ q ∈ sts a b, q.2.2 = lcs a b := by
  rcases (foldl_max (l := (sts a b).map fun q => q.2.2) (n := 0)).2.2 with h | h
  · exact .inl h
  · obtain ⟨q, hq, e⟩ := List.mem_map.mp h
    exact .inr ⟨q, hq, e⟩
theorem drop_take_infix {a : List Int} {i n : Nat} : (a.drop i).take n <:+: a := (List.take_prefix _ _).isInfix.trans (List.drop_suffix _ _).isInfix
theorem str_in {a b : List Int} {q : Nat × Nat × Nat} (h : q ∈ sts a b) : (a.drop q.1).take q.2.2 = (b.drop q.2.1).take q.2.2 ∧ q.1 + q.2.2 ≤ a.length ∧ q.2.1 + q.2.2 ≤ b.length := by
  obtain ⟨h1, h2, h3⟩ := sts_mem.mp h
  have l := cpl_le (a := a.drop q.1) (b := b.drop q.2.1)
  simp only [List.length_drop] at l
  rw [h3]
  exact ⟨cpl_take, by omega, by omega⟩
theorem lcs_ex {a b : List Int} : ∃ u, u <:+: a ∧ u <:+: b ∧ u.length = lcs a b := by
  rcases lcs_at (a := a) (b := b) with h | ⟨q, hq, e⟩
  · exact ⟨[], List.nil_infix, List.nil_infix, by rw [h]; rfl⟩
  · obtain ⟨h1, h2, h3⟩ := str_in hq
    refine ⟨(a.drop q.1).take q.2.2, drop_take_infix, ?_, ?_⟩
    · rw [h1]; exact drop_take_infix
    · rw [← e]; simp; omega
/-- the distance of two rows -/
def dst (a b : List Int) : Int := a.length + b.length - 2 * lcs a b
theorem lcs_le {a b : List Int} : lcs a b ≤ a.length ∧ lcs a b ≤ b.length := by
  obtain ⟨u, h1, h2, h3⟩ := lcs_ex (a := a) (b := b)
  rw [← h3]
  exact ⟨h1.length_le, h2.length_le⟩
theorem lcs_comm {a b : List Int} : lcs a b = lcs b a := by
  refine Nat.le_antisymm ?_ ?_
  · obtain ⟨u, h1, h2, h3⟩ := lcs_ex (a := a) (b := b)
    rw [← h3]; exact lcs_ub h2 h1
  · obtain ⟨u, h1, h2, h3⟩ := lcs_ex (a := b) (b := a)
    rw [← h3]; exact lcs_ub h2 h1
theorem dst_comm {a b : List Int} : dst a b = dst b a := by unfold dst; rw [lcs_comm]; omega
theorem dst_nn {a b : List Int} : 0 ≤ dst a b := by
  have h := lcs_le (a := a) (b := b)
  unfold dst; omega
theorem dst_self {a : List Int} : dst a a = 0 := by
  have h := lcs_ub (u := a) (a := a) (b := a) (List.infix_refl a) (List.infix_refl a)
  have l := lcs_le (a := a) (b := a)
  unfold dst; omega
theorem dst_zero {a b : List Int} : dst a b = 0 ↔ a = b := by
  constructor
  · intro h
    obtain ⟨u, h1, h2, h3⟩ := lcs_ex (a := a) (b := b)
    have l := lcs_le (a := a) (b := b)
    unfold dst at h
    have e1 := h1.eq_of_length (by omega)
    have e2 := h2.eq_of_length (by omega)
    rw [← e1, ← e2]
  · rintro rfl; exact dst_self
theorem dst_infix {u w : List Int} (h : u <:+: w) : dst u w ≤ w.length - u.length := by
  have := lcs_ub (u := u) (List.infix_refl u) h
  unfold dst; omega
theorem lcs_tri {a b c : List Int} : lcs a b + lcs b c ≤ b.length + lcs a c := by
  obtain ⟨u, ua, ⟨p1, s1, e1⟩, hu⟩ := lcs_ex (a := a) (b := b)
  obtain ⟨v, ⟨p2, s2, e2⟩, vc, hv⟩ := lcs_ex (a := b) (b := c)
  rw [← hu, ← hv]
  have l1 := congrArg List.length e1
  have l2 := congrArg List.length e2
  simp only [List.length_append] at l1 l2
  have eu : u = (b.drop p1.length).take u.length := by
    rw [← e1, List.append_assoc, List.drop_left, List.take_left]
  have ev : v = (b.drop p2.length).take v.length := by
    rw [← e2, List.append_assoc, List.drop_left, List.take_left]
  generalize hi : max p1.length p2.length = i
  generalize hn : min (p1.length + u.length) (p2.length + v.length) - i = n
  have w1 : (b.drop i).take n <:+: u := by
    have : (b.drop i).take n = (u.drop (i - p1.length)).take n := by
      rw [eu, List.drop_take, List.take_take, List.drop_drop]
      have a1 : p1.length + (i - p1.length) = i := by omega
      rw [a1]
      congr 1
      omega
    rw [this]; exact drop_take_infix
  have w2 : (b.drop i).take n <:+: v := by
    have : (b.drop i).take n = (v.drop (i - p2.length)).take n := by
      rw [ev, List.drop_take, List.take_take, List.drop_drop]
      have a1 : p2.length + (i - p2.length) = i := by omega
      rw [a1]
      congr 1
      omega
    rw [this]; exact drop_take_infix
  have h := lcs_ub (w1.trans ua) (w2.trans vc)
  have hl : ((b.drop i).take n).length = n := by
    simp only [List.length_take, List.length_drop]
    omega
  rw [hl] at h
  omega
theorem dst_tri {a b c : List Int} : dst a c ≤ dst a b + dst b c := by
  have := lcs_tri (a := a) (b := b) (c := c)
  unfold dst; omega
theorem dst_step {r r' : List Int} {s : Stp} (h : stepped r s = some r') : dst r r' ≤ 1 ∧ (r'.length = r.length + 1 ∨ r.length = r'.length + 1) := by
  obtain ⟨p, l, n⟩ := s
  unfold stepped at h
  cases p <;> cases l <;> simp at h
  · rcases List.eq_nil_or_concat r with rfl | ⟨r, x, rfl⟩
    · simp at h
    · simp at h
      obtain ⟨rfl, rfl⟩ := h
      have := dst_infix (u := r) (w := r ++ [x]) (List.prefix_append _ _).isInfix
      rw [dst_comm]
      simp at this ⊢
      omega
  · rcases r with _ | ⟨x, r⟩
    · simp at h
    · simp at h
      obtain ⟨rfl, rfl⟩ := h
      have := dst_infix (u := r) (w := x :: r) (List.suffix_cons _ _).isInfix
      rw [dst_comm]
      simp at this ⊢
      omega
  · subst h
    have := dst_infix (u := r) (w := r ++ [n]) (List.prefix_append _ _).isInfix
    simp at this ⊢
    omega
  · subst h
    have := dst_infix (u := r) (w := n :: r) (List.suffix_cons _ _).isInfix
    simp at this ⊢
    omega
theorem dst_stepped {r r' c : List Int} {s : Stp} (h : stepped r s = some r') : dst r' c - dst r c = 1 ∨ dst r' c - dst r c = -1 := by
  obtain ⟨h1, h2⟩ := dst_step h
  have t1 := dst_tri (a := r) (b := r') (c := c)
  have t2 := dst_tri (a := r') (b := r) (c := c)
  rw [dst_comm (a := r') (b := r)] at t2
  have := dst_nn (a := r) (b := r')
  unfold dst at *
  omega
theorem dst_run : ∀ {ss : List Stp} {r r' : List Int}, runS r ss = some r' → dst r r' ≤ ss.length
  | [], r, r', h => by cases h; simp [dst_self]
  | s :: ss, r, r', h => by
    rw [runS] at h
    cases e : stepped r s with
    | none => rw [e] at h; cases h
    | some r1 =>
      rw [e] at h
      have ih := dst_run (ss := ss) h
      have := (dst_step e).1
      have t := dst_tri (a := r) (b := r1) (c := r')
      simp only [List.length_cons]
      omega
/-- along a shortest way the distance falls by one with each step -/
theorem dst_way {ss : List Stp} {a b : List Int} (h : runS a ss = some b) (hl : (ss.length : Int) = dst a b) {k : Nat} (hk : k ≤ ss.length) :
    ∃ r, runS a (ss.take k) = some r ∧ dst r b = ss.length - k ∧ dst a r = k := by
  have e := @runS_app [] (ss.take k) (ss.drop k) a
  rw [List.take_append_drop, h] at e
  cases e1 : runS a (ss.take k) with
  | none => rw [e1] at e; cases e
  | some r =>
    rw [e1] at e
    have e : runS r (ss.drop k) = some b := e.symm
    have d1 := dst_run e1
    have d2 := dst_run e
    have t := dst_tri (a := a) (b := r) (c := b)
    simp only [List.length_take, List.length_drop] at d1 d2
    exact ⟨r, rfl, by omega, by omega⟩
/-- the longest stretches -/
def longS (a b : List Int) : List (Nat × Nat × Nat) := (sts a b).filter fun q => decide (q.2.2 = lcs a b) && decide (0 < lcs a b)
def way1 (a b : List Int) : Nat × Nat × Nat := (longS a b).headD (0, 0, 0)
def wayS (a b : List Int) : List Stp := stepsOf (a.take (way1 a b).1) (b.take (way1 a b).2.1) (a.drop ((way1 a b).1 + (way1 a b).2.2)) (b.drop ((way1 a b).2.1 + (way1 a b).2.2))
theorem longS_ne {a b : List Int} : longS a b = [] ↔ lcs a b = 0 := by
  unfold longS
  rw [List.filter_eq_nil_iff]
  constructor
  · intro h
    rcases lcs_at (a := a) (b := b) with z | ⟨q, hq, e⟩
    · exact z
    · have := h q hq
      simp [e] at this
      omega
  · intro h q hq
    simp [h]
theorem way1_ok {a b : List Int} : (way1 a b).2.2 = lcs a b ∧ (a.drop (way1 a b).1).take (way1 a b).2.2 = (b.drop (way1 a b).2.1).take (way1 a b).2.2 ∧ (way1 a b).1 + (way1 a b).2.2 ≤ a.length ∧ (way1 a b).2.1 + (way1 a b).2.2 ≤ b.length := by
  unfold way1
  cases e : longS a b with
  | nil =>
    have := longS_ne.mp e
    simp [this]
  | cons q qs =>
    have hm : q ∈ longS a b := by rw [e]; exact List.mem_cons_self ..
    unfold longS at hm
    rw [List.mem_filter] at hm
    obtain ⟨h1, h2⟩ := hm
    simp at h2
    exact ⟨h2.1, str_in h1⟩
theorem cut3 {a : List Int} {i l : Nat} : a = a.take i ++ (a.drop i).take l ++ a.drop (i + l) := by
  rw [List.append_assoc, ← List.drop_drop, List.take_append_drop, List.take_append_drop]
theorem way_run {a b : List Int} : runS a (wayS a b) = some b := by
  obtain ⟨h1, h2, h3, h4⟩ := way1_ok (a := a) (b := b)
  have r := run_steps (p := a.take (way1 a b).1) (x := b.take (way1 a b).2.1) (s := a.drop ((way1 a b).1 + (way1 a b).2.2)) (y := b.drop ((way1 a b).2.1 + (way1 a b).2.2)) (m := (a.drop (way1 a b).1).take (way1 a b).2.2)
  rw [← cut3, h2, ← cut3] at r
  exact r
theorem way_len {a b : List Int} : ((wayS a b).length : Int) = dst a b := by
  obtain ⟨h1, h2, h3, h4⟩ := way1_ok (a := a) (b := b)
  unfold wayS dst
  rw [stepsOf_len]
  simp only [List.length_take, List.length_drop]
  omega
end DL

/-! plain law 5: what tells effects apart -/
namespace DL
open PySem L2
theorem lg_all {Q : Int → Prop} : ∀ {ss : List Stp} {t t' : Lg}, lg ss t = some t' → (∀ s ∈ ss, Q s.n) → (∀ x ∈ t.L, Q x) → (∀ x ∈ t.R, Q x) → (∀ x ∈ t'.L, Q x) ∧ ∀ x ∈ t'.R, Q x
  | [], t, t', e, _, hL, hR => by cases e; exact ⟨hL, hR⟩
  | s :: ss, t, t', e, hs, hL, hR => by
    rw [lg, Option.bind_eq_some_iff] at e
    obtain ⟨t1, e1, e2⟩ := e
    have hn := hs s (List.mem_cons_self ..)
    have key : (∀ x ∈ t1.L, Q x) ∧ ∀ x ∈ t1.R, Q x := by
      obtain ⟨A, L, k, R, B⟩ := t
      unfold lgStep at e1
      split at e1
      · split at e1 <;> (cases e1; exact ⟨hL, hR⟩)
      · split at e1
        · split at e1
          · split at e1
            · cases e1; exact ⟨hL, hR⟩
            · cases e1
          · split at e1
            · cases e1
              refine ⟨fun x hx => ?_, hR⟩
              rcases List.mem_append.mp hx with hx | hx
              · exact hL x hx
              · rw [List.mem_singleton] at hx; rw [hx]; exact hn
            · split at e1
              · split at e1
                · cases e1; exact ⟨hL, hR⟩
                · cases e1
              · cases e1
        · split at e1
          · split at e1
            · cases e1; exact ⟨hL, hR⟩
            · cases e1
          · split at e1
            · cases e1
              refine ⟨hL, fun x hx => ?_⟩
              rcases List.mem_cons.mp hx with rfl | hx
              · exact hn
              · exact hR x hx
            · split at e1
              · split at e1
                · cases e1; exact ⟨hL, hR⟩
                · cases e1
              · cases e1
    exact lg_all e2 (fun x hx => hs x (List.mem_cons_of_mem _ hx)) key.1 key.2
theorem runLen_all {Q : Int → Prop} {ss : List Stp} {n : Nat} {q : List Int × List Int} (h : runLen ss n = some q) (hs : ∀ s ∈ ss, Q s.n) : ∀ x ∈ q.1, Q x := by
  unfold runLen at h
  split at h
  · rename_i t e
    split at h
    · cases h
      obtain ⟨a, b⟩ := lg_all e hs (fun _ h => nomatch h) (fun _ h => nomatch h)
      intro x hx
      rcases List.mem_append.mp hx with hx | hx
      · exact a x hx
      · exact b x hx
    · cases h
  · cases h
theorem excs_iff {ss : List Stp} {q : List Int × List Int} : q ∈ excs ss ↔ runS q.1 ss = some q.2 ∧ longRes (longP ss) q.1 = none := by
  rw [excs_mem]
  constructor
  · rintro ⟨h1, h2, h3⟩
    exact ⟨(runLen_snd (r := q.1) (res := q.2) h2).2, h3⟩
  · rintro ⟨h1, h2⟩
    rcases run_cases h1 with h | ⟨h3, h4⟩
    · rw [h2] at h; cases h
    · exact ⟨h4, h3, h2⟩
theorem excs_pw {ss : List Stp} : (excs ss).Pairwise fun q q' => q.1.length < q'.1.length := by
  unfold excs
  rw [List.pairwise_filterMap]
  refine List.Pairwise.imp_of_mem (fun {a b} ha hb h q hq q' hq' => ?_) (List.pairwise_lt_range (n := takes ss + 1))
  have key : ∀ {n : Nat} {q : List Int × List Int}, (match runLen ss n with
      | some q => if longRes (longP ss) q.1 = none then some q else none
      | none => none) = some q → q.1.length = n := fun {n q} e => by
    cases e1 : runLen ss n with
    | none => rw [e1] at e; cases e
    | some q1 =>
      rw [e1] at e
      dsimp only at e
      split at e
      · cases e
        exact (runLen_snd (r := q.1) (res := q.2) e1).1
      · cases e
  rw [key hq, key hq']
  exact h
theorem pw_extW {α : Type} (w : α → Nat) : ∀ {a b : List α}, (a.Pairwise fun x y => w x < w y) → (b.Pairwise fun x y => w x < w y) → (∀ k, k ∈ a ↔ k ∈ b) → a = b
  | [], [], _, _, _ => rfl
  | [], y :: ys, _, _, h => by have := (h y).mpr (List.mem_cons_self ..); cases this
  | x :: xs, [], _, _, h => by have := (h x).mp (List.mem_cons_self ..); cases this
  | x :: xs, y :: ys, ha, hb, h => by
    rw [List.pairwise_cons] at ha hb
    have exy : x = y := by
      rcases List.mem_cons.mp ((h x).mp (List.mem_cons_self ..)) with e | e
      · exact e
      · rcases List.mem_cons.mp ((h y).mpr (List.mem_cons_self ..)) with e2 | e2
        · exact e2.symm
        · have h1 := hb.1 x e
          have h2 := ha.1 y e2
          omega
    subst exy
    congr 1
    refine pw_extW w ha.2 hb.2 fun k => ⟨fun hk => ?_, fun hk => ?_⟩
    · rcases List.mem_cons.mp ((h k).mp (List.mem_cons_of_mem _ hk)) with e | e
      · subst e; have := ha.1 k hk; omega
      · exact e
    · rcases List.mem_cons.mp ((h k).mpr (List.mem_cons_of_mem _ hk)) with e | e
      · subst e; have := hb.1 k hk; omega
      · exact e
theorem app_one {f : Int} : ∀ {p p' s s' : List Int}, p ++ f :: s = p' ++ f :: s' → f ∉ p → f ∉ p' → p = p' ∧ s = s'
  | [], [], s, s', h, _, _ => by simpa using h
  | [], a :: p', s, s', h, _, h2 => by
    simp at h
    exact absurd (by rw [h.1]; exact List.mem_cons_self ..) h2
  | a :: p, [], s, s', h, h1, _ => by
    simp at h
    exact absurd (by rw [h.1]; exact List.mem_cons_self ..) h1
  | a :: p, b :: p', s, s', h, h1, h2 => by
    simp only [List.cons_append, List.cons.injEq] at h
    obtain ⟨e1, e2⟩ := app_one h.2 (fun z => h1 (List.mem_cons_of_mem _ z)) (fun z => h2 (List.mem_cons_of_mem _ z))
    exact ⟨by rw [h.1, e1], e2⟩
/-- what a long part does with a fresh item in the middle tells it -/
theorem long_half {a b : List Stp} {f : Int} {p x s y : List Int} (fa : ∀ t ∈ a, t.n ≠ f) (fb : ∀ t ∈ b, t.n ≠ f) (h : longP a = some (p, x, s, y)) (e : runS (p ++ [f] ++ s) a = runS (p ++ [f] ++ s) b) :
    ∃ p2 x2 s2 y2 u v, longP b = some (p2, x2, s2, y2) ∧ p = p2 ++ u ∧ s = v ++ s2 ∧ x = x2 ++ u ∧ y = v ++ y2 := by
  obtain ⟨_, hp, hx, hs, hy⟩ := longP_small (Q := fun n => n ≠ f) fa h
  have r1 : runS (p ++ [f] ++ s) a = some (x ++ [f] ++ y) := long_right (by rw [h]; exact longRes_mid)
  rw [r1] at e
  have e := e.symm
  rcases run_cases e with l | ⟨l, _⟩
  · cases hb : longP b with
    | none => rw [hb] at l; cases l
    | some o =>
      obtain ⟨p2, x2, s2, y2⟩ := o
      rw [hb] at l
      obtain ⟨_, hp2, hx2, hs2, hy2⟩ := longP_small (Q := fun n => n ≠ f) fb hb
      obtain ⟨m, e1, e2⟩ := longRes_some l
      have hm : f ∈ m := by
        have : f ∈ p2 ++ m ++ s2 := by rw [← e1]; simp
        rcases List.mem_append.mp this with q | q
        · rcases List.mem_append.mp q with q | q
          · exact absurd rfl (hp2 f q)
          · exact q
        · exact absurd rfl (hs2 f q)
      obtain ⟨u, v, rfl, hu⟩ := List.eq_append_cons_of_mem hm
      have n1 : f ∉ p := fun q => hp f q rfl
      have n2 : f ∉ p2 ++ u := fun q => by
        rcases List.mem_append.mp q with q | q
        · exact hp2 f q rfl
        · exact hu q
      have n3 : f ∉ x := fun q => hx f q rfl
      have n4 : f ∉ x2 ++ u := fun q => by
        rcases List.mem_append.mp q with q | q
        · exact hx2 f q rfl
        · exact hu q
      obtain ⟨q1, q2⟩ := app_one (f := f) (p := p) (s := s) (p' := p2 ++ u) (s' := v ++ s2) (by simpa using e1) n1 n2
      obtain ⟨q3, q4⟩ := app_one (f := f) (p := x) (s := y) (p' := x2 ++ u) (s' := v ++ y2) (by simpa using e2) n3 n4
      exact ⟨p2, x2, s2, y2, u, v, rfl, q1, q2, q3, q4⟩
  · have := runLen_all (Q := fun n => n ≠ f) l fb f (by simp)
    exact absurd rfl this
/-- effects that agree on the rows of their exceptions, on their long parts with a fresh item within, are equal -/
theorem eff_ext {a b : List Stp} {f : Int} (fa : ∀ t ∈ a, t.n ≠ f) (fb : ∀ t ∈ b, t.n ≠ f) (ha : ∀ q ∈ excs a, runS q.1 a = runS q.1 b) (hb : ∀ q ∈ excs b, runS q.1 a = runS q.1 b)
    (la : ∀ p x s y, longP a = some (p, x, s, y) → runS (p ++ [f] ++ s) a = runS (p ++ [f] ++ s) b) (lb : ∀ p x s y, longP b = some (p, x, s, y) → runS (p ++ [f] ++ s) a = runS (p ++ [f] ++ s) b) :
    longP a = longP b ∧ excs a = excs b := by
  have hl : longP a = longP b := by
    cases e1 : longP a with
    | none =>
      cases e2 : longP b with
      | none => rfl
      | some o =>
        obtain ⟨p, x, s, y⟩ := o
        obtain ⟨p2, x2, s2, y2, u, v, h, _⟩ := long_half fb fa e2 (lb p x s y e2).symm
        rw [e1] at h; cases h
    | some o =>
      obtain ⟨p, x, s, y⟩ := o
      obtain ⟨p2, x2, s2, y2, u, v, h, h1, h2, h3, h4⟩ := long_half fa fb e1 (la p x s y e1)
      obtain ⟨p3, x3, s3, y3, u', v', h', h1', h2', h3', h4'⟩ := long_half fb fa h (lb p2 x2 s2 y2 h).symm
      rw [e1] at h'
      cases h'
      have l1 := congrArg List.length h1
      have l2 := congrArg List.length h2
      have l3 := congrArg List.length h1'
      have l4 := congrArg List.length h2'
      simp only [List.length_append] at l1 l2 l3 l4
      have eu : u = [] := List.eq_nil_of_length_eq_zero (by omega)
      have ev : v = [] := List.eq_nil_of_length_eq_zero (by omega)
      subst eu ev
      simp at h1 h2 h3 h4
      rw [h, h1, h2, h3, h4]
  refine ⟨hl, pw_extW (fun q => q.1.length) excs_pw excs_pw fun q => ?_⟩
  constructor
  · intro h
    have h2 := excs_iff.mp h
    have := ha q h
    exact excs_iff.mpr ⟨by rw [← this]; exact h2.1, by rw [← hl]; exact h2.2⟩
  · intro h
    have h2 := excs_iff.mp h
    have := hb q h
    exact excs_iff.mpr ⟨by rw [this]; exact h2.1, by rw [hl]; exact h2.2⟩
theorem eff_same {a b : List Stp} (h : longP a = longP b ∧ excs a = excs b) {r : List Int} : runS r a = runS r b := by
  rw [← eff_run, ← eff_run, h.1, h.2]
/-- how a run changes the length -/
def puts (ss : List Stp) : Nat := (ss.filter fun s => s.put).length
theorem puts_takes {ss : List Stp} : puts ss + takes ss = ss.length := by
  unfold puts takes
  induction ss with
  | nil => rfl
  | cons s ss ih =>
    simp only [List.filter_cons]
    cases s.put <;> simp at ih ⊢ <;> omega
theorem stepped_len2 {r r' : List Int} {s : Stp} (h : stepped r s = some r') : r'.length + takes [s] = r.length + puts [s] := by
  obtain ⟨p, l, n⟩ := s
  unfold stepped at h
  cases p <;> cases l <;> simp [takes, puts] at h ⊢
  · rcases List.eq_nil_or_concat r with rfl | ⟨r, x, rfl⟩
    · simp at h
    · simp at h
      obtain ⟨rfl, rfl⟩ := h
      simp
  · rcases r with _ | ⟨x, r⟩
    · simp at h
    · simp at h
      obtain ⟨rfl, rfl⟩ := h
      simp
  · subst h; simp
  · subst h; simp
theorem runS_change : ∀ {ss : List Stp} {r r' : List Int}, runS r ss = some r' → r'.length + takes ss = r.length + puts ss
  | [], r, r', h => by cases h; rfl
  | s :: ss, r, r', h => by
    rw [runS] at h
    cases e : stepped r s with
    | none => rw [e] at h; cases h
    | some r1 =>
      rw [e] at h
      have ih := runS_change (ss := ss) h
      have := stepped_len2 e
      have pc : puts (s :: ss) = puts [s] + puts ss := by
        unfold puts
        rw [← List.length_append, ← List.filter_append]; rfl
      rw [takes_cons, pc]
      omega
theorem runS_inj {ss : List Stp} {r r' q : List Int} (h : runS r ss = some q) (h' : runS r' ss = some q) : r = r' := by
  have a := runS_rev h
  have b := runS_rev h'
  rw [a] at b
  exact Option.some.inj b
end DL

/-! plain laws 21: dicts with nested keys as tables -/
namespace DL
open PySem L2 PySem.Spec PyProof.Rows
/-- keys told: as data, as keys -/
structure KeyOk {α : Type} (kd : α → D) (kn : α → NestedKey) : Prop where
  nt : ∀ a, nkT (kd a) = some (kn a)
  nk : ∀ a, nkD (kd a) = some (kn a)
  inj : ∀ a b, kn a = kn b → a = b
def atA {α β : Type} [DecidableEq α] (L : List (α × β)) (a : α) : Option β := (L.find? fun p => decide (p.1 = a)).map (·.2)
def emb {α β : Type} (kd : α → D) (kv : β → D) (L : List (α × β)) : D := .dcN (L.map fun p => (kd p.1, kv p.2))
section
variable {α β : Type} [DecidableEq α] {kd : α → D} {kn : α → NestedKey} {kv : β → D}
theorem atN_emb (h : KeyOk kd kn) (a : α) : ∀ L : List (α × β), atN (L.map fun p => (kd p.1, kv p.2)) (kn a) = (atA L a).map kv
  | [] => rfl
  | p :: L => by
    have ih := atN_emb h a L
    unfold atN atA at ih ⊢
    rw [List.map_cons, List.find?_cons, List.find?_cons]
    by_cases e : p.1 = a
    · simp [h.nk, e]
    · have e' : ¬ nkD (kd p.1) = some (kn a) := fun q => e (h.inj _ _ (Option.some.inj ((h.nk p.1).symm.trans q)))
      simp only [decide_eq_false e, decide_eq_false e']
      exact ih
theorem any_emb (h : KeyOk kd kn) (a : α) (L : List (α × β)) : ((L.map fun p => (kd p.1, kv p.2)).any fun q => decide (nkD q.1 = some (kn a))) = L.any fun p => decide (p.1 = a) := by
  rw [List.any_map]
  congr 1
  funext p
  show decide (nkD (kd p.1) = some (kn a)) = decide (p.1 = a)
  by_cases e : p.1 = a
  · rw [decide_eq_true e, decide_eq_true (by rw [h.nk, e])]
  · rw [decide_eq_false e, decide_eq_false fun q => e (h.inj _ _ (Option.some.inj ((h.nk p.1).symm.trans q)))]
theorem putN_emb (h : KeyOk kd kn) (a : α) (v : β) (L : List (α × β)) : putN (L.map fun p => (kd p.1, kv p.2)) (kd a) (kn a) (kv v) = (putA L a v).map fun p => (kd p.1, kv p.2) := by
  unfold putN putA
  rw [any_emb h]
  by_cases z : (L.any fun p => decide (p.1 = a)) = true
  · rw [if_pos z, if_pos z, List.map_map, List.map_map]
    refine List.map_congr_left fun p _ => ?_
    show (if nkD (kd p.1) = some (kn a) then (kd p.1, kv v) else (kd p.1, kv p.2)) = (kd (if p.1 = a then (p.1, v) else p).1, kv (if p.1 = a then (p.1, v) else p).2)
    by_cases e : p.1 = a
    · rw [if_pos (by rw [h.nk, e]), if_pos e]
    · rw [if_neg fun q => e (h.inj _ _ (Option.some.inj ((h.nk p.1).symm.trans q))), if_neg e]
  · rw [if_neg z, if_neg z, List.map_append]
    rfl
theorem dGetN_emb (h : KeyOk kd kn) (L : List (α × β)) (a : α) (x : D) : dGetN (emb kd kv L) (kd a) x = some (((atA L a).map kv).getD x) := by
  unfold dGetN emb
  simp only [h.nt, Option.map_some, atN_emb h]
theorem dNx_emb (h : KeyOk kd kn) (L : List (α × β)) (a : α) : dNx (emb kd kv L) (kd a) = (atA L a).map kv := by
  unfold dNx emb
  simp only [h.nt, Option.bind_some, atN_emb h]
theorem dInN_emb (h : KeyOk kd kn) (L : List (α × β)) (a : α) : dInN (kd a) (emb kd kv L) = some (.bl (atA L a).isSome) := by
  unfold dInN emb
  simp only [h.nt, Option.map_some, atN_emb h, Option.isSome_map]
theorem putND_emb (h : KeyOk kd kn) {L : List (α × β)} (hl : L.length < lim) (a : α) (v : β) : putND (emb kd kv L) (kd a) (kv v) = some (emb kd kv (putA L a v)) := by
  unfold putND emb
  simp only [List.length_map, if_pos hl, h.nt, Option.map_some, putN_emb h]
theorem emb_nil : (.dcN [] : D) = emb kd kv ([] : List (α × β)) := rfl
end
theorem isN_emb {α β : Type} {kd : α → D} {kv : β → D} {L : List (α × β)} : isN (emb kd kv L) = some () := rfl
/-! ### tuples of whole numbers; tuples of such tuples -/
def kdI (l : List Int) : D := .tup (l.map D.int)
def knI (l : List Int) : NestedKey := .tup (l.map .num)
def kdL (ls : List (List Int)) : D := .tup (ls.map kdI)
def knL (ls : List (List Int)) : NestedKey := .tup (ls.map knI)
theorem nks_int : ∀ l : List Int, nksD (l.map D.int) = some (l.map .num)
  | [] => rfl
  | a :: l => by
    rw [List.map_cons, List.map_cons]
    show ((nkD (.int a)).bind fun k => (nksD (l.map D.int)).map fun ks => k :: ks) = _
    rw [nks_int l]
    rfl
theorem dp_int : ∀ l : List Int, NestedKey.depthAll (l.map .num) = 0
  | [] => rfl
  | a :: l => by
    rw [List.map_cons]
    show max 0 (NestedKey.depthAll (l.map .num)) = 0
    rw [dp_int l]; rfl
theorem nk_I (l : List Int) : nkD (kdI l) = some (knI l) := by
  show (nksD (l.map D.int)).map NestedKey.tup = _
  rw [nks_int]; rfl
theorem nks_I : ∀ l : List (List Int), nksD (l.map kdI) = some (l.map knI)
  | [] => rfl
  | a :: l => by
    rw [List.map_cons, List.map_cons]
    show ((nkD (kdI a)).bind fun k => (nksD (l.map kdI)).map fun ks => k :: ks) = _
    rw [nks_I l, nk_I]
    rfl
theorem dp_I (l : List Int) : (knI l).depth = 1 := by
  show NestedKey.depthAll (l.map .num) + 1 = 1
  rw [dp_int]
theorem dp_Is : ∀ l : List (List Int), NestedKey.depthAll (l.map knI) ≤ 1
  | [] => by show 0 ≤ 1; omega
  | a :: l => by
    rw [List.map_cons]
    show max (knI a).depth (NestedKey.depthAll (l.map knI)) ≤ 1
    have := dp_I a
    have := dp_Is l
    omega
theorem num_inj : ∀ a b : List Int, a.map NestedKey.num = b.map NestedKey.num → a = b
  | [], [], _ => rfl
  | [], _ :: _, h => by simp at h
  | _ :: _, [], h => by simp at h
  | x :: a, y :: b, h => by
    rw [List.map_cons, List.map_cons] at h
    injection h with h1 h2
    injection h1 with h1
    rw [h1, num_inj a b h2]
theorem knI_inj (a b : List Int) (h : knI a = knI b) : a = b := by
  unfold knI at h
  injection h with h
  exact num_inj a b h
theorem knI_injL : ∀ a b : List (List Int), a.map knI = b.map knI → a = b
  | [], [], _ => rfl
  | [], _ :: _, h => by simp at h
  | _ :: _, [], h => by simp at h
  | x :: a, y :: b, h => by
    rw [List.map_cons, List.map_cons] at h
    injection h with h1 h2
    rw [knI_inj x y h1, knI_injL a b h2]
theorem keyI : KeyOk kdI knI where
  nk := nk_I
  nt := fun l => by
    show ((nksD (l.map D.int)).bind fun ks => if (NestedKey.tup ks).depth ≤ 8 then some (NestedKey.tup ks) else none) = _
    rw [nks_int]
    show (if (knI l).depth ≤ 8 then some (knI l) else none) = some (knI l)
    rw [if_pos (by rw [dp_I]; omega)]
  inj := knI_inj
theorem keyL : KeyOk kdL knL where
  nk := fun l => by
    show (nksD (l.map kdI)).map NestedKey.tup = _
    rw [nks_I]; rfl
  nt := fun l => by
    show ((nksD (l.map kdI)).bind fun ks => if (NestedKey.tup ks).depth ≤ 8 then some (NestedKey.tup ks) else none) = _
    rw [nks_I]
    show (if NestedKey.depthAll (l.map knI) + 1 ≤ 8 then some (knL l) else none) = some (knL l)
    rw [if_pos (by have := dp_Is l; omega)]
  inj := fun a b h => by
    unfold knL at h
    injection h with h
    exact knI_injL a b h
/-! ### the same, to be computed -/
def findF {α β : Type} (eq : α → α → Bool) : List (α × β) → α → Option β
  | [], _ => none
  | p :: r, a => match eq p.1 a with
    | true => some p.2
    | false => findF eq r a
def addF {α : Type} (eq : α → α → Bool) : List (α × Int) → α → List (α × Int)
  | [], a => [(a, 1)]
  | p :: r, a => match eq p.1 a with
    | true => (p.1, p.2 + 1) :: r
    | false => p :: addF eq r a
/-- one more of a -/
def addT {α : Type} [DecidableEq α] (L : List (α × Int)) (a : α) : List (α × Int) := putA L a ((atA L a).getD 0 + 1)
section
variable {α β : Type} [DecidableEq α] {eq : α → α → Bool} (h : ∀ a b, eq a b = true ↔ a = b)
include h
theorem findF_eq (a : α) : ∀ L : List (α × β), findF eq L a = atA L a
  | [] => rfl
  | p :: r => by
    have ih := findF_eq a r
    unfold atA at ih ⊢
    rw [findF, List.find?_cons]
    by_cases e : p.1 = a
    · rw [(h p.1 a).2 e, decide_eq_true e]; rfl
    · have q : eq p.1 a = false := by
        cases z : eq p.1 a with
        | true => exact absurd ((h p.1 a).1 z) e
        | false => rfl
      rw [q, decide_eq_false e]
      exact ih
theorem addF_keys (a : α) : ∀ L : List (α × Int), (L.map Prod.fst).Nodup → ((addF eq L a).map Prod.fst).Nodup ∧ ∀ x, x ∈ (addF eq L a).map Prod.fst → x = a ∨ x ∈ L.map Prod.fst
  | [], _ => by simp [addF]
  | p :: r, n => by
    rw [List.map_cons, List.nodup_cons] at n
    obtain ⟨n1, n2⟩ := addF_keys a r n.2
    by_cases e : p.1 = a
    · rw [addF, (h p.1 a).2 e]
      exact ⟨List.nodup_cons.mpr n, fun x hx => .inr hx⟩
    · have q : eq p.1 a = false := by
        cases z : eq p.1 a with
        | true => exact absurd ((h p.1 a).1 z) e
        | false => rfl
      rw [addF, q]
      refine ⟨List.nodup_cons.mpr ⟨fun z => ?_, n1⟩, fun x hx => ?_⟩
      · rcases n2 _ z with z | z
        · exact e z
        · exact n.1 z
      · rcases List.mem_cons.mp hx with z | z
        · exact .inr (by rw [z]; exact List.mem_cons_self ..)
        · rcases n2 _ z with z | z
          · exact .inl z
          · exact .inr (List.mem_cons_of_mem _ z)
theorem addF_eq (a : α) : ∀ L : List (α × Int), (L.map Prod.fst).Nodup → addF eq L a = addT L a
  | [], _ => rfl
  | p :: r, n => by
    rw [List.map_cons, List.nodup_cons] at n
    have ih := addF_eq a r n.2
    by_cases e : p.1 = a
    · have z : putA (p :: r) a ((atA (p :: r) a).getD 0 + 1) = (p.1, p.2 + 1) :: r := by
        have ea : atA (p :: r) a = some p.2 := by simp [atA, e]
        have em : r.map (fun q => if q.1 = a then (q.1, p.2 + 1) else q) = r := by
          conv => rhs; rw [← List.map_id r]
          refine List.map_congr_left fun q hq => ?_
          rw [if_neg fun z => n.1 (by rw [e, ← z]; exact List.mem_map_of_mem hq)]
          rfl
        unfold putA
        rw [if_pos (by simp [e]), ea, List.map_cons, if_pos e]
        show (p.1, p.2 + 1) :: r.map (fun q => if q.1 = a then (q.1, p.2 + 1) else q) = _
        rw [em]
      rw [addF, (h p.1 a).2 e]
      exact z.symm
    · have q : eq p.1 a = false := by
        cases z : eq p.1 a with
        | true => exact absurd ((h p.1 a).1 z) e
        | false => rfl
      rw [addF, q]
      show p :: addF eq r a = _
      rw [ih]
      have ea : atA (p :: r) a = atA r a := by simp [atA, e]
      unfold addT putA
      rw [ea]
      have eb : ((p :: r).any fun p => decide (p.1 = a)) = r.any fun p => decide (p.1 = a) := by simp [e]
      rw [eb]
      split
      · rw [List.map_cons, if_neg e]
      · rfl
end
def eqI : List Int → List Int → Bool
  | [], [] => true
  | .ofNat a :: l, .ofNat b :: m => Nat.beq a b && eqI l m
  | .negSucc a :: l, .negSucc b :: m => Nat.beq a b && eqI l m
  | _, _ => false
def eqLL : List (List Int) → List (List Int) → Bool
  | [], [] => true
  | a :: l, b :: m => eqI a b && eqLL l m
  | _, _ => false
theorem eqI_iff : ∀ a b : List Int, eqI a b = true ↔ a = b
  | [], [] => by simp [eqI]
  | [], _ :: _ => by simp [eqI]
  | .ofNat _ :: _, [] => by simp [eqI]
  | .negSucc _ :: _, [] => by simp [eqI]
  | .ofNat a :: l, .ofNat b :: m => by
    simp [eqI, eqI_iff l m, Nat.beq_eq]
    intro _
    omega
  | .negSucc a :: l, .negSucc b :: m => by
    simp [eqI, eqI_iff l m, Nat.beq_eq]
  | .ofNat a :: l, .negSucc b :: m => by simp [eqI]
  | .negSucc a :: l, .ofNat b :: m => by simp [eqI]
theorem eqLL_iff : ∀ a b : List (List Int), eqLL a b = true ↔ a = b
  | [], [] => by simp [eqLL]
  | [], _ :: _ => by simp [eqLL]
  | _ :: _, [] => by simp [eqLL]
  | a :: l, b :: m => by simp [eqLL, eqI_iff a b, eqLL_iff l m]
/-! ### the mirrors' readings -/
section
variable {Δ : SD} {P : D → SD → Prop} {E : EX}
@[simp] theorem wp_getN {fo fe : M AK} {ff : M D} : wp (mGetN fo fe ff) Δ (K := ⟨P, E⟩) = wp fo Δ (K := ⟨fun a Δ1 => wp (mGet a) Δ1 (K := ⟨fun d0 Δ2 => wp (mOpt (isN d0)) Δ2 (K := ⟨fun _ Δ3 => wp fe Δ3 (K := ⟨fun b Δ4 => wp ff Δ4 (K := ⟨fun z Δ5 => wp (mGet a) Δ5 (K := ⟨fun d Δ6 => wp (mGet b) Δ6 (K := ⟨fun k Δ7 => wp (mOpt (dGetN d k z)) Δ7 (K := ⟨P, E⟩), E⟩), E⟩), E⟩), E⟩), E⟩), E⟩), E⟩) := by
  unfold mGetN
  rw [wp_bind]
  refine wp_ext fun _ _ => ?_
  rw [wp_bind]
  refine wp_ext fun _ _ => ?_
  rw [wp_bind]
  refine wp_ext fun _ _ => ?_
  rw [wp_bind]
  refine wp_ext fun _ _ => ?_
  rw [wp_bind]
  refine wp_ext fun _ _ => ?_
  rw [wp_bind]
  refine wp_ext fun _ _ => ?_
  rw [wp_bind]
theorem wp_keysN {α β : Type} {kd : α → D} {kv : β → D} {L : List (α × β)} {i : Nat} {P : List D → SD → Prop} (h : Δ[i]? = some (.ow (emb kd kv L))) (q : P (L.map fun p => kd p.1) (Δ.set i (.sh (emb kd kv L)))) : wp (mKeysN i) Δ (K := ⟨P, E⟩) := by
  unfold wp mKeysN
  rw [h]
  show P ((L.map fun p => (kd p.1, kv p.2)).map Prod.fst) _
  rw [List.map_map]
  exact q
end
end DL

/-! plain laws 22: the rows that blocks lead to -/
namespace DL
open PySem L2 PySem.Spec PyProof.Rows
@[simp] theorem wp_dcN1 {Δ : SD} {P : D → SD → Prop} {E : EX} {fk fv : M D} : wp (mDcN1 fk fv) Δ (K := ⟨P, E⟩) = wp fk Δ (K := ⟨fun k Δ1 => wp fv Δ1 (K := ⟨fun v Δ2 => wp (mOpt ((nkT k).map fun _ => D.dcN [(k, v)])) Δ2 (K := ⟨P, E⟩), E⟩), E⟩) := by
  unfold mDcN1
  rw [wp_bind]
  refine wp_ext fun _ _ => ?_
  rw [wp_bind]
abbrev Fnd := List (List Int × Int)
def stepB (t : Int) (p : List Int) (q : Fnd × List (List Int)) (b : List Stp) : Fnd × List (List Int) := match runS p b with
  | none => q
  | some r => if (atA q.1 r).isSome = true then q else (q.1 ++ [(r, t)], q.2 ++ [r])
def presB (t : Int) (bs : List (List Stp)) (q : Fnd × List (List Int)) (p : List Int) : Fnd × List (List Int) := bs.foldl (stepB t p) q
def levB (t : Int) (bs : List (List Stp)) (f : Fnd) (l : List (List Int)) : Fnd × List (List Int) := l.foldl (presB t bs) (f, [])
def bfs (row : List Int) (bs : List (List Stp)) : Nat → Fnd × List (List Int)
  | 0 => ([(row, 0)], [row])
  | n + 1 => levB ((n + 1 : Nat) : Int) bs (bfs row bs n).1 (bfs row bs n).2
theorem putA_new {L : Fnd} {r : List Int} {v : Int} (h : (atA L r).isSome = false) : putA L r v = L ++ [(r, v)] := by
  have e : (L.any fun p => decide (p.1 = r)) = false := by
    cases z : L.any fun p => decide (p.1 = r) with
    | false => rfl
    | true =>
      obtain ⟨p, hp, e⟩ := List.any_eq_true.mp z
      exfalso
      have : (L.find? fun p => decide (p.1 = r)).isSome = true := List.find?_isSome.mpr ⟨p, hp, e⟩
      unfold atA at h
      rw [Option.isSome_map] at h
      rw [this] at h
      cases h
  unfold putA
  rw [e]
  rfl
theorem stepB_len (t : Int) (p : List Int) (q : Fnd × List (List Int)) (b : List Stp) : q.1.length ≤ (stepB t p q b).1.length ∧ (stepB t p q b).1.length ≤ q.1.length + 1 ∧ (q.2.length ≤ q.1.length → (stepB t p q b).2.length ≤ (stepB t p q b).1.length) := by
  unfold stepB
  split
  · exact ⟨Nat.le_refl _, by omega, id⟩
  · split
    · exact ⟨Nat.le_refl _, by omega, id⟩
    · simp
theorem presB_len (t : Int) (p : List Int) : ∀ (bs : List (List Stp)) (q : Fnd × List (List Int)), q.1.length ≤ (presB t bs q p).1.length ∧ (presB t bs q p).1.length ≤ q.1.length + bs.length ∧ (q.2.length ≤ q.1.length → (presB t bs q p).2.length ≤ (presB t bs q p).1.length)
  | [], q => ⟨Nat.le_refl _, by show q.1.length ≤ q.1.length + 0; omega, id⟩
  | b :: bs, q => by
    obtain ⟨h1, h2, h3⟩ := stepB_len t p q b
    obtain ⟨i1, i2, i3⟩ := presB_len t p bs (stepB t p q b)
    refine ⟨Nat.le_trans h1 i1, Nat.le_trans i2 ?_, fun h => i3 (h3 h)⟩
    rw [List.length_cons]
    omega
theorem lev_mono (t : Int) (bs : List (List Stp)) : ∀ (l : List (List Int)) (q : Fnd × List (List Int)), q.1.length ≤ (l.foldl (presB t bs) q).1.length
  | [], q => Nat.le_refl _
  | p :: l, q => Nat.le_trans (presB_len t p bs q).1 (lev_mono t bs l (presB t bs q p))
theorem bfs_mono (row : List Int) (bs : List (List Stp)) (n : Nat) : (bfs row bs n).1.length ≤ (bfs row bs (n + 1)).1.length := lev_mono _ bs (bfs row bs n).2 ((bfs row bs n).1, [])
theorem bfs_mono' (row : List Int) (bs : List (List Stp)) {m n : Nat} (h : m ≤ n) : (bfs row bs m).1.length ≤ (bfs row bs n).1.length := by
  induction h with
  | refl => exact Nat.le_refl _
  | step _ ih => exact Nat.le_trans ih (bfs_mono row bs _)
/-- later rows stand in bounds -/
theorem run_len_le {ss : List Stp} {r r' : List Int} (h : runS r ss = some r') : r'.length ≤ r.length + ss.length := by
  have h1 := runS_change h
  have h2 : puts ss ≤ ss.length := List.length_filter_le _ _
  omega
theorem stepB_rows {t : Int} {p : List Int} {q : Fnd × List (List Int)} {b : List Stp} {B : Nat} (hp : p.length + b.length ≤ B) (hq : ∀ r ∈ q.2, r.length ≤ B) : ∀ r ∈ (stepB t p q b).2, r.length ≤ B := by
  unfold stepB
  split
  · exact hq
  · rename_i r' e
    split
    · exact hq
    · intro r hr
      rcases List.mem_append.mp hr with h | h
      · exact hq r h
      · rw [List.mem_singleton] at h
        subst h
        exact Nat.le_trans (run_len_le e) hp
theorem presB_rows {t : Int} {p : List Int} {B : Nat} : ∀ {bs : List (List Stp)} {q : Fnd × List (List Int)}, (∀ b ∈ bs, p.length + b.length ≤ B) → (∀ r ∈ q.2, r.length ≤ B) → ∀ r ∈ (presB t bs q p).2, r.length ≤ B
  | [], q, _, hq => hq
  | b :: bs, q, hp, hq => presB_rows (bs := bs) (q := stepB t p q b) (fun c hc => hp c (List.mem_cons_of_mem _ hc)) (stepB_rows (hp b (List.mem_cons_self ..)) hq)
theorem levB_rows {t : Int} {bs : List (List Stp)} {B : Nat} : ∀ {l : List (List Int)} {q : Fnd × List (List Int)}, (∀ p ∈ l, ∀ b ∈ bs, p.length + b.length ≤ B) → (∀ r ∈ q.2, r.length ≤ B) → ∀ r ∈ (l.foldl (presB t bs) q).2, r.length ≤ B
  | [], q, _, hq => hq
  | p :: l, q, hp, hq => levB_rows (l := l) (q := presB t bs q p) (fun c hc => hp c (List.mem_cons_of_mem _ hc)) (presB_rows (hp p (List.mem_cons_self ..)) hq)
theorem bfs_rows {row : List Int} {bs : List (List Stp)} {m : Nat} (hb : ∀ b ∈ bs, b.length ≤ m) : ∀ n, ∀ r ∈ (bfs row bs n).2, r.length ≤ row.length + n * m
  | 0, r, h => by
    have h : r ∈ [row] := h
    rw [List.mem_singleton] at h
    subst h
    omega
  | n + 1, r, h => levB_rows (q := ((bfs row bs n).1, [])) (B := row.length + (n + 1) * m) (fun p hp b hb' => by
      have h1 := bfs_rows hb n p hp
      have h2 := hb b hb'
      rw [Nat.add_mul]
      omega) (fun r h => nomatch h) r h
end DL

/-! plain laws 23: the number of shortest ways, by places; rows read backwards, exchanged, renamed -/
namespace DL
open PySem L2
/-- ways to choose -/
def chs : Nat → Nat → Nat
  | _, 0 => 1
  | 0, _ + 1 => 0
  | n + 1, k + 1 => chs n k + chs n (k + 1)
theorem chs_0 {n : Nat} : chs n 0 = 1 := by cases n <;> rfl
theorem chs_s {n k : Nat} : chs (n + 1) (k + 1) = chs n k + chs n (k + 1) := rfl
theorem chs_gt : ∀ {n k : Nat}, n < k → chs n k = 0
  | 0, k + 1, _ => rfl
  | n + 1, k + 1, h => by rw [chs_s, chs_gt (by omega), chs_gt (by omega)]
theorem chs_n : ∀ {n : Nat}, chs n n = 1
  | 0 => rfl
  | n + 1 => by rw [chs_s, chs_n, chs_gt (Nat.lt_succ_self n)]
theorem chs_mul : ∀ (n k : Nat), (k + 1) * chs n (k + 1) + k * chs n k = n * chs n k
  | 0, 0 => rfl
  | 0, k + 1 => by show _ * 0 + _ * 0 = 0 * 0; simp
  | n + 1, 0 => by
    have h := chs_mul n 0
    rw [chs_s, chs_0] at *
    rw [chs_0] at *
    omega
  | n + 1, k + 1 => by
    have h1 := chs_mul n (k + 1)
    have h0 := chs_mul n k
    rw [chs_s, chs_s]
    simp only [Nat.mul_add, Nat.add_mul, Nat.one_mul, Nat.mul_one] at *
    omega
theorem chs_le : ∀ {n k : Nat}, chs n k ≤ 2 ^ n
  | 0, 0 => Nat.le_refl _
  | 0, k + 1 => Nat.zero_le _
  | n + 1, 0 => by rw [chs_0]; exact Nat.one_le_two_pow
  | n + 1, k + 1 => by
    have h1 := chs_le (n := n) (k := k)
    have h2 := chs_le (n := n) (k := k + 1)
    rw [chs_s, Nat.pow_succ]
    omega
theorem chs_symm : ∀ {n a b : Nat}, a + b = n → chs n a = chs n b
  | 0, a, b, h => by
    have h1 : a = 0 := by omega
    have h2 : b = 0 := by omega
    subst h1 h2
    rfl
  | n + 1, 0, b, h => by
    have h1 : b = n + 1 := by omega
    subst h1
    rw [chs_0, chs_n]
  | n + 1, a + 1, 0, h => by
    have h1 : a = n := by omega
    subst h1
    rw [chs_0, chs_n]
  | n + 1, a + 1, b + 1, h => by
    rw [chs_s, chs_s, chs_symm (n := n) (a := a) (b := b + 1) (by omega), chs_symm (n := n) (a := a + 1) (b := b) (by omega), Nat.add_comm]
/-- .. by turns, as the program does it -/
def chI (t : Int) : Nat → Int
  | 0 => 1
  | k + 1 => chI t k * (t - k) / (k + 1)
theorem chI_eq {t : Nat} : ∀ {k : Nat}, k ≤ t → chI t k = (chs t k : Nat)
  | 0, _ => by rw [chs_0]; rfl
  | k + 1, h => by
    have e := chI_eq (t := t) (k := k) (by omega)
    have m := chs_mul t k
    show chI t k * ((t : Int) - k) / (k + 1) = _
    rw [e]
    have q : ((chs t k : Nat) : Int) * ((t : Int) - k) = ((k : Int) + 1) * (chs t (k + 1) : Nat) := by
      have m' : ((((k + 1) * chs t (k + 1) + k * chs t k : Nat)) : Int) = ((t * chs t k : Nat) : Int) := by rw [m]
      simp only [Int.natCast_add, Int.natCast_mul, Int.natCast_one] at m'
      rw [Int.mul_sub, Int.mul_comm _ (t : Int), Int.mul_comm _ (k : Int)]
      omega
    rw [q, Int.mul_ediv_cancel_left _ (by omega)]
theorem chs_step {t i : Nat} (h : i < t) : ((chs t i : Nat) : Int) * ((t : Int) - i) / ((i : Int) + 1) = (chs t (i + 1) : Nat) := by
  rw [← chI_eq (k := i + 1) h, ← chI_eq (k := i) (by omega)]
  rfl
/-! ### sums -/
def sumN : Nat → (Nat → Nat) → Nat
  | 0, _ => 0
  | n + 1, f => sumN n f + f n
theorem sumN_congr {f g : Nat → Nat} : ∀ {n : Nat}, (∀ i, i < n → f i = g i) → sumN n f = sumN n g
  | 0, _ => rfl
  | n + 1, h => by
    show sumN n f + f n = sumN n g + g n
    rw [sumN_congr fun i hi => h i (by omega), h n (by omega)]
theorem sumN_add {f g : Nat → Nat} : ∀ {n : Nat}, sumN n (fun i => f i + g i) = sumN n f + sumN n g
  | 0 => rfl
  | n + 1 => by
    show sumN n (fun i => f i + g i) + (f n + g n) = sumN n f + f n + (sumN n g + g n)
    rw [sumN_add]; omega
theorem sumN_0 : ∀ {n : Nat}, sumN n (fun _ => 0) = 0
  | 0 => rfl
  | n + 1 => by
    show sumN n (fun _ => 0) + 0 = 0
    rw [sumN_0]
theorem sumN_swap {f : Nat → Nat → Nat} {m : Nat} : ∀ {n : Nat}, sumN n (fun i => sumN m (fun j => f i j)) = sumN m (fun j => sumN n (fun i => f i j))
  | 0 => sumN_0.symm
  | n + 1 => by
    show sumN n (fun i => sumN m (fun j => f i j)) + sumN m (fun j => f n j) = sumN m (fun j => sumN n (fun i => f i j) + f n j)
    rw [sumN_add, sumN_swap]
theorem sumN_front {f : Nat → Nat} : ∀ {n : Nat}, sumN (n + 1) f = f 0 + sumN n (fun i => f (i + 1))
  | 0 => by show 0 + f 0 = f 0 + 0; omega
  | n + 1 => by
    show sumN (n + 1) f + f (n + 1) = f 0 + (sumN n (fun i => f (i + 1)) + f (n + 1))
    rw [sumN_front]; omega
theorem sumN_refl : ∀ {n : Nat} {f : Nat → Nat}, sumN n f = sumN n (fun i => f (n - 1 - i))
  | 0, _ => rfl
  | n + 1, f => by
    rw [sumN_front (f := fun i => f (n + 1 - 1 - i))]
    show sumN n f + f n = f (n - 0) + _
    rw [Nat.sub_zero, Nat.add_comm, sumN_refl (n := n) (f := f)]
    congr 1
    exact sumN_congr fun i hi => by congr 1; omega
theorem sumN_cut {f : Nat → Nat} {m : Nat} : ∀ {n : Nat}, m ≤ n → (∀ i, m ≤ i → i < n → f i = 0) → sumN n f = sumN m f
  | 0, h, _ => by
    have : m = 0 := by omega
    subst this; rfl
  | n + 1, h, hz => by
    by_cases e : m = n + 1
    · rw [e]
    · show sumN n f + f n = _
      rw [hz n (by omega) (by omega), sumN_cut (n := n) (by omega) fun i h1 h2 => hz i h1 (by omega), Nat.add_zero]
theorem sum_range {g : Nat → Nat} : ∀ {n : Nat}, ((List.range n).map g).sum = sumN n g
  | 0 => rfl
  | n + 1 => by
    rw [List.range_succ, List.map_append, List.sum_append, sum_range]
    show _ + (g n + 0) = _
    rfl
theorem sum_flat {f : Nat → List Nat} : ∀ {n : Nat}, ((List.range n).flatMap f).sum = sumN n (fun i => (f i).sum)
  | 0 => rfl
  | n + 1 => by
    rw [List.range_succ, List.flatMap_append, List.sum_append, sum_flat]
    show _ + ((f n ++ []).sum) = _
    rw [List.append_nil]
    rfl
theorem flat_len {α : Type} {f : Nat → List α} {m : Nat} (h : ∀ i, (f i).length = m) : ∀ {n : Nat}, ((List.range n).flatMap f).length = n * m
  | 0 => by simp
  | n + 1 => by
    rw [List.range_succ, List.flatMap_append, List.length_append, flat_len h]
    show _ + (f n ++ []).length = _
    rw [List.append_nil, h, Nat.succ_mul]
theorem sum_filter {α : Type} {p : α → Bool} {f : α → Nat} : ∀ {l : List α}, ((l.filter p).map f).sum = (l.map fun x => if p x = true then f x else 0).sum
  | [] => rfl
  | x :: l => by
    rw [List.filter_cons]
    cases h : p x with
    | true => simp [h, sum_filter (l := l)]
    | false => simp [h, sum_filter (l := l)]
/-! ### ways -/
def tot (a b : List Int) : Nat := a.length + b.length - 2 * lcs a b
theorem tot_dst {a b : List Int} : dst a b = (tot a b : Nat) := by
  have h := lcs_le (a := a) (b := b)
  unfold dst tot
  omega
def waysN (a b : List Int) : Nat := if longS a b = [] then ((List.range (a.length + 1)).flatMap fun i => (List.range (b.length + 1)).map fun j => chs (tot a b) (i + j)).sum else ((longS a b).map fun q => chs (tot a b) (q.1 + q.2.1)).sum
def waysS (a b : List Int) : Nat := sumN (a.length + 1 - lcs a b) fun i => sumN (b.length + 1 - lcs a b) fun j => if (a.drop i).take (lcs a b) = (b.drop j).take (lcs a b) then chs (tot a b) (i + j) else 0
theorem cpl_ge {a b : List Int} {n : Nat} (h1 : n ≤ a.length) (h2 : n ≤ b.length) (h : a.take n = b.take n) : n ≤ cpl a b := by
  have e1 := (List.take_append_drop n a).symm
  have e2 := (List.take_append_drop n b).symm
  rw [← h] at e2
  have q := cpl_app (u := a.take n) (s := a.drop n) (t := b.drop n)
  rw [← e1, ← e2, List.length_take] at q
  omega
theorem waysN_eq {a b : List Int} : waysN a b = waysS a b := by
  obtain ⟨l1, l2⟩ := lcs_le (a := a) (b := b)
  unfold waysN waysS
  by_cases h : longS a b = []
  · rw [if_pos h]
    have z := longS_ne.mp h
    rw [sum_flat, z]
    refine sumN_congr fun i hi => ?_
    rw [sum_range]
    exact sumN_congr fun j hj => by simp
  · rw [if_neg h]
    have hp : 0 < lcs a b := by
      rcases Nat.eq_zero_or_pos (lcs a b) with z | z
      · exact absurd (longS_ne.mpr z) h
      · exact z
    have e : ((longS a b).map fun q => chs (tot a b) (q.1 + q.2.1)).sum = sumN a.length fun i => sumN b.length fun j => if cpl (a.drop i) (b.drop j) = lcs a b then chs (tot a b) (i + j) else 0 := by
      unfold longS
      rw [sum_filter]
      unfold sts
      rw [List.map_flatMap, sum_flat]
      refine sumN_congr fun i hi => ?_
      rw [List.map_map, sum_range]
      refine sumN_congr fun j hj => ?_
      simp [hp]
    rw [e]
    have iff : ∀ i j, cpl (a.drop i) (b.drop j) = lcs a b ↔ i + lcs a b ≤ a.length ∧ j + lcs a b ≤ b.length ∧ (a.drop i).take (lcs a b) = (b.drop j).take (lcs a b) := by
      intro i j
      constructor
      · intro h
        have q1 := cpl_le (a := a.drop i) (b := b.drop j)
        have q2 := cpl_take (a := a.drop i) (b := b.drop j)
        rw [h] at q1 q2
        rw [List.length_drop, List.length_drop] at q1
        exact ⟨by omega, by omega, q2⟩
      · rintro ⟨h1, h2, h3⟩
        have q1 := cpl_ge (n := lcs a b) (a := a.drop i) (b := b.drop j) (by rw [List.length_drop]; omega) (by rw [List.length_drop]; omega) h3
        have q2 := lcs_ub (a := a) (b := b) (u := (a.drop i).take (cpl (a.drop i) (b.drop j))) drop_take_infix (by rw [cpl_take]; exact drop_take_infix)
        have q3 := (cpl_le (a := a.drop i) (b := b.drop j)).1
        rw [List.length_take] at q2
        omega
    have cutj : ∀ i, (sumN b.length fun j => if cpl (a.drop i) (b.drop j) = lcs a b then chs (tot a b) (i + j) else 0) = sumN (b.length + 1 - lcs a b) fun j => if cpl (a.drop i) (b.drop j) = lcs a b then chs (tot a b) (i + j) else 0 := fun i =>
      sumN_cut (by omega) fun j h1 h2 => if_neg fun z => by have := (iff i j).mp z; omega
    rw [sumN_cut (m := a.length + 1 - lcs a b) (by omega) fun i h1 h2 => ?_]
    · refine sumN_congr fun i hi => ?_
      rw [cutj]
      refine sumN_congr fun j hj => ?_
      by_cases c : (a.drop i).take (lcs a b) = (b.drop j).take (lcs a b)
      · rw [if_pos c, if_pos ((iff i j).mpr ⟨by omega, by omega, c⟩)]
      · rw [if_neg c, if_neg fun z => c ((iff i j).mp z).2.2]
    · refine (sumN_congr fun j hj => ?_).trans sumN_0
      exact if_neg fun z => by have := (iff i j).mp z; omega
theorem tot_comm {a b : List Int} : tot a b = tot b a := by unfold tot; rw [lcs_comm]; omega
theorem ways_comm {a b : List Int} : waysN b a = waysN a b := by
  rw [waysN_eq, waysN_eq]
  unfold waysS
  rw [sumN_swap, lcs_comm (a := b) (b := a), tot_comm (a := b) (b := a)]
  refine sumN_congr fun i hi => sumN_congr fun j hj => ?_
  by_cases c : (a.drop i).take (lcs a b) = (b.drop j).take (lcs a b)
  · rw [if_pos c, if_pos c.symm, Nat.add_comm]
  · rw [if_neg c, if_neg fun z => c z.symm]
theorem lcs_rev_le {a b : List Int} : lcs a b ≤ lcs a.reverse b.reverse := by
  obtain ⟨u, h1, h2, h3⟩ := lcs_ex (a := a) (b := b)
  rw [← h3, ← List.length_reverse]
  exact lcs_ub (List.reverse_infix.mpr h1) (List.reverse_infix.mpr h2)
theorem lcs_rev {a b : List Int} : lcs a.reverse b.reverse = lcs a b := by
  have h1 := lcs_rev_le (a := a) (b := b)
  have h2 := lcs_rev_le (a := a.reverse) (b := b.reverse)
  rw [List.reverse_reverse, List.reverse_reverse] at h2
  omega
theorem tot_rev {a b : List Int} : tot a.reverse b.reverse = tot a b := by unfold tot; rw [lcs_rev, List.length_reverse, List.length_reverse]
theorem part_rev {a : List Int} {i L : Nat} (h : i + L ≤ a.length) : (a.reverse.drop (a.length + 1 - L - 1 - i)).take L = ((a.drop i).take L).reverse := by
  have e1 : a.length - (a.length + 1 - L - 1 - i) = i + L := by omega
  rw [List.drop_reverse, e1, List.take_reverse, List.length_take]
  have e2 : min (i + L) a.length - L = i := by omega
  have e3 : i + L - i = L := by omega
  rw [e2, List.drop_take, e3]
theorem ways_rev {a b : List Int} : waysN a.reverse b.reverse = waysN a b := by
  obtain ⟨l1, l2⟩ := lcs_le (a := a) (b := b)
  rw [waysN_eq, waysN_eq]
  unfold waysS
  rw [lcs_rev, tot_rev, List.length_reverse, List.length_reverse, sumN_refl]
  refine sumN_congr fun i hi => ?_
  rw [sumN_refl]
  refine sumN_congr fun j hj => ?_
  rw [part_rev (by omega), part_rev (by omega)]
  have et : tot a b = a.length + b.length - 2 * lcs a b := rfl
  by_cases c : (a.drop i).take (lcs a b) = (b.drop j).take (lcs a b)
  · rw [if_pos c, if_pos (by rw [c])]
    exact chs_symm (by omega)
  · rw [if_neg c, if_neg fun z => c (List.reverse_inj.mp z)]
theorem cpl_map {f : Int → Int} (hf : ∀ x y, f x = f y → x = y) : ∀ {a b : List Int}, cpl (a.map f) (b.map f) = cpl a b
  | [], _ => rfl
  | _ :: _, [] => rfl
  | x :: a, y :: b => by
    show (if f x = f y then cpl (a.map f) (b.map f) + 1 else 0) = if x = y then cpl a b + 1 else 0
    by_cases e : x = y
    · rw [if_pos e, if_pos (by rw [e]), cpl_map hf]
    · rw [if_neg e, if_neg fun z => e (hf _ _ z)]
theorem sts_map {f : Int → Int} (hf : ∀ x y, f x = f y → x = y) {a b : List Int} : sts (a.map f) (b.map f) = sts a b := by
  unfold sts
  rw [List.length_map, List.length_map]
  simp only [← List.map_drop, cpl_map hf]
theorem lcs_map {f : Int → Int} (hf : ∀ x y, f x = f y → x = y) {a b : List Int} : lcs (a.map f) (b.map f) = lcs a b := by unfold lcs; rw [sts_map hf]
theorem tot_map {f : Int → Int} (hf : ∀ x y, f x = f y → x = y) {a b : List Int} : tot (a.map f) (b.map f) = tot a b := by unfold tot; rw [lcs_map hf, List.length_map, List.length_map]
theorem ways_map {f : Int → Int} (hf : ∀ x y, f x = f y → x = y) {a b : List Int} : waysN (a.map f) (b.map f) = waysN a b := by
  unfold waysN longS
  rw [sts_map hf, lcs_map hf, tot_map hf, List.length_map, List.length_map]
theorem dst_rev {a b : List Int} : dst a.reverse b.reverse = dst a b := by rw [tot_dst, tot_dst, tot_rev]
theorem dst_map {f : Int → Int} (hf : ∀ x y, f x = f y → x = y) {a b : List Int} : dst (a.map f) (b.map f) = dst a b := by rw [tot_dst, tot_dst, tot_map hf]
end DL

/-! plain laws 24: the number of shortest ways, by the last step -/
namespace DL
open PySem L2
/-- [a row's part from i on, L items] -/
def prt (r : List Int) (i L : Nat) : List Int := (r.drop i).take L
def chm (n : Nat) : Nat → Nat
  | 0 => 0
  | k + 1 => chs n k
/-- the pairs of like parts, weighed -/
def wsum (f : Nat → Nat) (r x : List Int) (L : Nat) : Nat := sumN (r.length + 1 - L) fun i => sumN (x.length + 1 - L) fun j => if prt r i L = prt x j L then f (i + j) else 0
theorem waysS_wsum {r x : List Int} : waysS r x = wsum (chs (tot r x)) r x (lcs r x) := rfl
theorem wsum_congr {f g : Nat → Nat} {r x : List Int} {L : Nat} (h : ∀ k, k ≤ (r.length - L) + (x.length - L) → f k = g k) : wsum f r x L = wsum g r x L :=
  sumN_congr fun i hi => sumN_congr fun j hj => by rw [h (i + j) (by omega)]
theorem wsum_add {f g : Nat → Nat} {r x : List Int} {L : Nat} : wsum (fun k => f k + g k) r x L = wsum f r x L + wsum g r x L := by
  unfold wsum
  rw [← sumN_add]
  refine sumN_congr fun i hi => ?_
  rw [← sumN_add]
  refine sumN_congr fun j hj => ?_
  split <;> rfl
theorem chs_pascal {n k : Nat} : chs (n + 1) k = chm n k + chs n k := by
  cases k with
  | zero => rw [chs_0, chs_0]; rfl
  | succ k => rfl
theorem wsum_rev {f : Nat → Nat} {r x : List Int} {L : Nat} (h1 : L ≤ r.length) (h2 : L ≤ x.length) : wsum f r.reverse x.reverse L = wsum (fun k => f (r.length + x.length - 2 * L - k)) r x L := by
  unfold wsum
  rw [List.length_reverse, List.length_reverse, sumN_refl]
  refine sumN_congr fun i hi => ?_
  rw [sumN_refl]
  refine sumN_congr fun j hj => ?_
  unfold prt
  rw [part_rev (by omega), part_rev (by omega)]
  have e : r.length + 1 - L - 1 - i + (x.length + 1 - L - 1 - j) = r.length + x.length - 2 * L - (i + j) := by omega
  rw [e]
  by_cases c : (r.drop i).take L = (x.drop j).take L
  · rw [if_pos c, if_pos (by rw [c])]
  · rw [if_neg c, if_neg fun z => c (List.reverse_inj.mp z)]
theorem prt_len {r : List Int} {i L : Nat} (h : i + L ≤ r.length) : (prt r i L).length = L := by
  unfold prt
  rw [List.length_take, List.length_drop]
  omega
theorem prt_lcs {r x : List Int} {i j L : Nat} (hi : i + L ≤ r.length) (e : prt r i L = prt x j L) : L ≤ lcs r x := by
  have h := lcs_ub (a := r) (b := x) (u := prt r i L) drop_take_infix (by rw [e]; exact drop_take_infix)
  rw [prt_len hi] at h
  exact h
theorem prt_cons {b : Int} {x : List Int} {j L : Nat} : prt (b :: x) (j + 1) L = prt x j L := rfl
theorem prt_cons0 {b : Int} {x : List Int} {L : Nat} : prt (b :: x) 0 (L + 1) = b :: prt x 0 L := rfl
theorem prt_at {r : List Int} {i L : Nat} (h : i < r.length) : prt r i (L + 1) = r[i] :: prt r (i + 1) L := by
  unfold prt
  rw [List.drop_eq_getElem_cons h]
  rfl
/-- last step at the left: an item put -/
theorem left_put {r x : List Int} {b : Int} {f : Nat → Nat} : (if tot r (b :: x) = tot r x + 1 then wsum f r x (lcs r x) else 0) = sumN (r.length + 1 - lcs r (b :: x)) fun i => sumN (x.length + 1 - lcs r (b :: x)) fun j => if prt r i (lcs r (b :: x)) = prt (b :: x) (j + 1) (lcs r (b :: x)) then f (i + j) else 0 := by
  have l1 := lcs_le (a := r) (b := b :: x)
  have l2 := lcs_le (a := r) (b := x)
  have l3 : lcs r x ≤ lcs r (b :: x) := by
    obtain ⟨u, h1, h2, h3⟩ := lcs_ex (a := r) (b := x)
    rw [← h3]
    exact lcs_ub h1 (h2.trans (List.suffix_cons _ _).isInfix)
  simp only [List.length_cons] at l1
  by_cases c : lcs r (b :: x) = lcs r x
  · rw [if_pos (by unfold tot; rw [List.length_cons, c]; omega), c]
    rfl
  · rw [if_neg (by unfold tot; rw [List.length_cons]; omega)]
    symm
    refine (sumN_congr fun i hi => ?_).trans sumN_0
    refine (sumN_congr fun j hj => ?_).trans sumN_0
    rw [prt_cons]
    exact if_neg fun e => by have := prt_lcs (by omega) e; omega
/-- .. an item taken -/
theorem left_take {r x : List Int} {a : Int} {f : Nat → Nat} : (if tot r x = tot r (a :: x) + 1 then wsum f r (a :: x) (lcs r (a :: x)) else 0) = sumN (r.length - lcs r x) fun i => if r[i]? = some a ∧ prt r (i + 1) (lcs r x) = prt x 0 (lcs r x) then f i else 0 := by
  have l1 := lcs_le (a := r) (b := a :: x)
  have l2 := lcs_le (a := r) (b := x)
  simp only [List.length_cons] at l1
  by_cases c : lcs r (a :: x) = lcs r x + 1
  · rw [if_pos (by unfold tot; rw [List.length_cons, c]; omega), c]
    unfold wsum
    have e : r.length + 1 - (lcs r x + 1) = r.length - lcs r x := by omega
    rw [e, List.length_cons]
    refine sumN_congr fun i hi => ?_
    have e2 : x.length + 1 + 1 - (lcs r x + 1) = (x.length - lcs r x) + 1 := by omega
    rw [e2, sumN_front]
    have z : (sumN (x.length - lcs r x) fun j => if prt r i (lcs r x + 1) = prt (a :: x) (j + 1) (lcs r x + 1) then f (i + (j + 1)) else 0) = 0 := by
      refine (sumN_congr fun j hj => ?_).trans sumN_0
      rw [prt_cons]
      exact if_neg fun e => by have := prt_lcs (by omega) e; omega
    rw [z, Nat.add_zero, Nat.add_zero, prt_at (by omega), prt_cons0, List.getElem?_eq_getElem (by omega)]
    simp
  · rw [if_neg (by
      have : lcs r (a :: x) ≤ lcs r x + 1 := by
        obtain ⟨u, h1, h2, h3⟩ := lcs_ex (a := r) (b := a :: x)
        rcases List.infix_cons_iff.mp h2 with h | h
        · cases u with
          | nil => rw [← h3]; exact Nat.zero_le _
          | cons y u =>
            obtain ⟨t, e⟩ := h
            injection e with e1 e2
            have q := lcs_ub (a := r) (b := x) (u := u) ((List.suffix_cons _ _).isInfix.trans h1) ⟨[], t, by simpa using e2⟩
            rw [← h3, List.length_cons]
            omega
        · have q := lcs_ub h1 h
          omega
      unfold tot; rw [List.length_cons]; omega)]
    symm
    refine (sumN_congr fun i hi => ?_).trans sumN_0
    refine if_neg ?_
    rintro ⟨e1, e2⟩
    rw [List.getElem?_eq_getElem (by omega)] at e1
    have e1 := Option.some.inj e1
    have e3 : prt r i (lcs r x + 1) = prt (a :: x) 0 (lcs r x + 1) := by rw [prt_at (by omega), prt_cons0, e1, e2]
    have q := prt_lcs (by omega) e3
    have : lcs r (a :: x) ≤ lcs r x + 1 := by
      obtain ⟨u, h1, h2, h3⟩ := lcs_ex (a := r) (b := a :: x)
      rcases List.infix_cons_iff.mp h2 with h | h
      · cases u with
        | nil => rw [← h3]; exact Nat.zero_le _
        | cons y u =>
          obtain ⟨t, e⟩ := h
          injection e with e1 e2
          have q := lcs_ub (a := r) (b := x) (u := u) ((List.suffix_cons _ _).isInfix.trans h1) ⟨[], t, by simpa using e2⟩
          rw [← h3, List.length_cons]
          omega
      · have q := lcs_ub h1 h
        omega
    omega
def steps3 : List Int := [1, 2, 3]
/-- the ways whose last step is at the left -/
def lefS (f : Nat → Nat) (r x : List Int) : Nat := (match x with
  | [] => 0
  | b :: x' => if tot r (b :: x') = tot r x' + 1 then wsum f r x' (lcs r x') else 0) + (steps3.map fun a => if tot r x = tot r (a :: x) + 1 then wsum f r (a :: x) (lcs r (a :: x)) else 0).sum
theorem sum_split {r : List Int} {n : Nat} {P : Nat → Prop} [DecidablePred P] {f : Nat → Nat} (hr : ∀ y ∈ r, y ∈ steps3) (hn : n ≤ r.length) : (steps3.map fun a => sumN n fun i => if r[i]? = some a ∧ P i then f i else 0).sum = sumN n fun i => if P i then f i else 0 := by
  show (sumN n _ + (sumN n _ + (sumN n _ + 0))) = _
  rw [Nat.add_zero, ← sumN_add, ← sumN_add]
  refine sumN_congr fun i hi => ?_
  have hi' : i < r.length := by omega
  rw [List.getElem?_eq_getElem hi']
  have m := hr r[i] (List.getElem_mem hi')
  generalize r[i] = y at m
  by_cases p : P i
  · simp only [steps3, List.mem_cons, List.not_mem_nil, or_false] at m
    rcases m with rfl | rfl | rfl <;> simp [p]
  · simp [p]
theorem lefS_eq {r x : List Int} {n : Nat} (hr : ∀ y ∈ r, y ∈ steps3) : lefS (chs n) r x = wsum (chm n) r x (lcs r x) := by
  have l2 := lcs_le (a := r) (b := x)
  unfold lefS
  simp only [left_take]
  rw [sum_split (P := fun i => prt r (i + 1) (lcs r x) = prt x 0 (lcs r x)) hr (by omega)]
  have h0 : wsum (chm n) r x (lcs r x) = (sumN (r.length - lcs r x) fun i => if prt r (i + 1) (lcs r x) = prt x 0 (lcs r x) then chs n i else 0) + sumN (r.length + 1 - lcs r x) fun i => sumN (x.length - lcs r x) fun j => if prt r i (lcs r x) = prt x (j + 1) (lcs r x) then chs n (i + j) else 0 := by
    unfold wsum
    have e1 : x.length + 1 - lcs r x = (x.length - lcs r x) + 1 := by omega
    have e2 : r.length + 1 - lcs r x = (r.length - lcs r x) + 1 := by omega
    have e3 : ∀ i, (sumN (x.length + 1 - lcs r x) fun j => if prt r i (lcs r x) = prt x j (lcs r x) then chm n (i + j) else 0) = (if prt r i (lcs r x) = prt x 0 (lcs r x) then chm n i else 0) + sumN (x.length - lcs r x) fun j => if prt r i (lcs r x) = prt x (j + 1) (lcs r x) then chs n (i + j) else 0 := fun i => by
      rw [e1, sumN_front]
      rfl
    rw [sumN_congr fun i _ => e3 i, sumN_add]
    congr 1
    rw [e2, sumN_front]
    show (if _ then 0 else 0) + _ = _
    rw [ite_self, Nat.zero_add]
    rfl
  rw [h0, Nat.add_comm]
  congr 1
  cases x with
  | nil =>
    show 0 = _
    symm
    refine (sumN_congr fun i hi => ?_).trans sumN_0
    have : ([] : List Int).length - lcs r [] = 0 := by simp
    rw [this]
    rfl
  | cons b x =>
    show (if tot r (b :: x) = tot r x + 1 then wsum (chs n) r x (lcs r x) else 0) = _
    rw [left_put]
    rfl
theorem ways_last {r x : List Int} {n : Nat} (hr : ∀ y ∈ r, y ∈ steps3) (h : tot r x = n + 1) : waysN r x = lefS (chs n) r x + lefS (chs n) r.reverse x.reverse := by
  obtain ⟨l1, l2⟩ := lcs_le (a := r) (b := x)
  rw [waysN_eq, waysS_wsum, lefS_eq hr, lefS_eq fun y hy => hr y (List.mem_reverse.mp hy), lcs_rev, wsum_rev l1 l2, ← wsum_add, h]
  have ht : r.length + x.length - 2 * lcs r x = n + 1 := by rw [← h]; rfl
  refine wsum_congr fun k hk => ?_
  rw [chs_pascal, ht]
  congr 1
  by_cases e : k = n + 1
  · rw [e, Nat.sub_self, chs_gt (Nat.lt_succ_self n)]; rfl
  · have e2 : n + 1 - k = (n - k) + 1 := by omega
    rw [e2]
    show _ = chs n (n - k)
    exact chs_symm (by omega)
theorem waysN_pos {r x : List Int} : 0 < waysN r x := by
  have ge : ∀ {n : Nat} {f : Nat → Nat} {i : Nat}, i < n → f i ≤ sumN n f := by
    intro n f i
    induction n with
    | zero => intro h; omega
    | succ n ih =>
      intro h
      show _ ≤ sumN n f + f n
      by_cases e : i = n
      · rw [e]; omega
      · have := ih (by omega); omega
  have cp : ∀ {n k : Nat}, k ≤ n → 0 < chs n k := by
    intro n
    induction n with
    | zero => intro k h; have : k = 0 := by omega
              subst this; decide
    | succ n ih =>
      intro k h
      cases k with
      | zero => rw [chs_0]; decide
      | succ k => rw [chs_s]; have := ih (k := k) (by omega); omega
  obtain ⟨u, ⟨s1, t1, h1⟩, ⟨s2, t2, h2⟩, h3⟩ := lcs_ex (a := r) (b := x)
  rw [waysN_eq, waysS_wsum]
  have q1 : prt r s1.length (lcs r x) = u := by
    unfold prt
    rw [← h3]
    conv => lhs; rw [← h1]
    simp
  have q2 : prt x s2.length (lcs r x) = u := by
    unfold prt
    rw [← h3]
    conv => lhs; rw [← h2]
    simp
  have e1 := congrArg List.length h1
  have e2 := congrArg List.length h2
  simp only [List.length_append] at e1 e2
  have p : 0 < chs (tot r x) (s1.length + s2.length) := cp (by unfold tot; omega)
  unfold wsum
  refine Nat.lt_of_lt_of_le ?_ (ge (i := s1.length) (by omega))
  refine Nat.lt_of_lt_of_le ?_ (ge (i := s2.length) (by omega))
  rw [if_pos (by rw [q1, q2])]
  exact p
end DL

/-! plain laws 25: a search by layers finds distances and numbers of ways -/
namespace DL
open PySem L2
/-! ### the last step -/
def stps3 : List Stp := steps3.flatMap fun a => [⟨true, true, a⟩, ⟨true, false, a⟩, ⟨false, true, a⟩, ⟨false, false, a⟩]
def pv (r : List Int) (n : Nat) : Option (List Int) → Nat
  | none => 0
  | some y => if tot r y = n then waysN r y else 0
def tlO : List Int → Option (List Int)
  | [] => none
  | _ :: x => some x
theorem wsum_pv {r y : List Int} {n : Nat} : (if n + 1 = tot r y + 1 then wsum (chs n) r y (lcs r y) else 0) = pv r n (some y) := by
  show _ = if tot r y = n then waysN r y else 0
  by_cases e : tot r y = n
  · rw [if_pos e, if_pos (by omega), waysN_eq, waysS_wsum, e]
  · rw [if_neg e, if_neg (by omega)]
theorem lefS_pv {r x : List Int} {n : Nat} (h : tot r x = n + 1) : lefS (chs n) r x = pv r n (tlO x) + (steps3.map fun a => pv r n (some (a :: x))).sum := by
  unfold lefS
  simp only [h, wsum_pv]
  congr 1
  cases x with
  | nil => rfl
  | cons b x =>
    show (if tot r (b :: x) = tot r x + 1 then _ else 0) = _
    rw [h, wsum_pv]
    rfl
theorem pv_rev {r y : List Int} {n : Nat} : pv r.reverse n (some y) = pv r n (some y.reverse) := by
  show (if tot r.reverse y = n then waysN r.reverse y else 0) = if tot r y.reverse = n then waysN r y.reverse else 0
  have e1 := tot_rev (a := r) (b := y.reverse)
  have e2 := ways_rev (a := r) (b := y.reverse)
  rw [List.reverse_reverse] at e1 e2
  rw [e1, e2]
theorem pick3 {P : Int → Nat} {b : Int} (hb : b ∈ steps3) : (steps3.map fun a => if b = a then P a else 0).sum = P b := by
  simp only [steps3, List.mem_cons, List.not_mem_nil, or_false] at hb
  rcases hb with rfl | rfl | rfl <;> simp [steps3]
theorem takeL_pv {r x : List Int} {n : Nat} (hx : ∀ y ∈ x, y ∈ steps3) : (steps3.map fun a => pv r n (stepped x ⟨false, true, a⟩)).sum = pv r n (tlO x) := by
  cases x with
  | nil => rfl
  | cons b x =>
    have e : ∀ a, pv r n (stepped (b :: x) ⟨false, true, a⟩) = if b = a then pv r n (some x) else 0 := fun a => by
      by_cases h : b = a
      · simp [stepped, h]
      · simp [stepped, h, pv]
    simp only [e]
    exact pick3 (P := fun _ => pv r n (some x)) (hx b (List.mem_cons_self ..))
theorem takeR_pv {r x : List Int} {n : Nat} (hx : ∀ y ∈ x, y ∈ steps3) : (steps3.map fun a => pv r n (stepped x ⟨false, false, a⟩)).sum = pv r.reverse n (tlO x.reverse) := by
  rcases List.eq_nil_or_concat x with rfl | ⟨x, b, rfl⟩
  · rfl
  · have e : ∀ a, pv r n (stepped (x.concat b) ⟨false, false, a⟩) = if b = a then pv r n (some x) else 0 := fun a => by
      rw [List.concat_eq_append]
      by_cases h : b = a
      · simp [stepped, h]
      · simp [stepped, h, pv]
    simp only [e]
    rw [List.concat_eq_append, List.reverse_append]
    show _ = pv r.reverse n (some x.reverse)
    rw [pv_rev, List.reverse_reverse]
    exact pick3 (P := fun _ => pv r n (some x)) (hx b (by rw [List.concat_eq_append]; simp))
theorem sum4 {A B C D : Int → Nat} : ∀ {l : List Int}, ((l.flatMap fun a => [A a, B a, C a, D a]).sum) = (l.map C).sum + (l.map A).sum + ((l.map D).sum + (l.map B).sum)
  | [] => rfl
  | a :: l => by
    rw [List.flatMap_cons, List.sum_append, sum4]
    simp only [List.map_cons, List.sum_cons, List.sum_nil]
    omega
theorem ways_steps {r x : List Int} {n : Nat} (hr : ∀ y ∈ r, y ∈ steps3) (hx : ∀ y ∈ x, y ∈ steps3) (h : tot r x = n + 1) : waysN r x = (stps3.map fun s => pv r n (stepped x s.turn)).sum := by
  rw [ways_last hr h, lefS_pv h, lefS_pv (r := r.reverse) (x := x.reverse) (by rw [tot_rev]; exact h)]
  unfold stps3
  rw [List.map_flatMap]
  simp only [List.map_cons, List.map_nil, Stp.turn, Bool.not_true, Bool.not_false]
  rw [sum4, takeL_pv hx, takeR_pv hx]
  have e1 : (steps3.map fun a => pv r n (stepped x ⟨true, true, a⟩)) = steps3.map fun a => pv r n (some (a :: x)) := List.map_congr_left fun a _ => by simp [stepped]
  have e2 : (steps3.map fun a => pv r n (stepped x ⟨true, false, a⟩)) = steps3.map fun a => pv r.reverse n (some (a :: x.reverse)) := List.map_congr_left fun a _ => by
    rw [pv_rev]
    simp [stepped]
  rw [e1, e2]
  omega
/-! ### tables -/
abbrev Lay := List (List Int × Int)
abbrev Sn := List (List Int × Unit)
theorem atA_cons {α β : Type} [DecidableEq α] {p : α × β} {L : List (α × β)} {a : α} : atA (p :: L) a = if p.1 = a then some p.2 else atA L a := by
  unfold atA
  rw [List.find?_cons]
  by_cases e : p.1 = a
  · rw [decide_eq_true e, if_pos e]; rfl
  · rw [decide_eq_false e, if_neg e]
theorem atA_nil {α β : Type} [DecidableEq α] {a : α} : atA ([] : List (α × β)) a = none := rfl
theorem atA_keys {α β : Type} [DecidableEq α] {a : α} : ∀ {L : List (α × β)}, (atA L a).isSome = true ↔ a ∈ L.map Prod.fst
  | [] => by simp [atA_nil]
  | p :: L => by
    rw [atA_cons, List.map_cons, List.mem_cons]
    by_cases e : p.1 = a
    · simp [e]
    · rw [if_neg e, atA_keys]
      exact ⟨.inr, fun z => z.resolve_left fun w => e w.symm⟩
theorem atA_app {α β : Type} [DecidableEq α] {a k : α} {v : β} : ∀ {L : List (α × β)}, (L.any fun p => decide (p.1 = k)) = false → atA (L ++ [(k, v)]) a = if k = a then some v else atA L a
  | [], _ => by rw [List.nil_append, atA_cons]
  | p :: L, h => by
    rw [List.any_cons, Bool.or_eq_false_iff] at h
    have h1 := of_decide_eq_false h.1
    rw [List.cons_append, atA_cons, atA_cons, atA_app h.2]
    by_cases e : p.1 = a
    · rw [if_pos e, if_pos e, if_neg fun z => h1 (e.trans z.symm)]
    · rw [if_neg e, if_neg e]
theorem atA_map {α β : Type} [DecidableEq α] {a k : α} {v : β} : ∀ {L : List (α × β)}, atA (L.map fun p => if p.1 = k then (p.1, v) else p) a = if k = a then (atA L a).map (fun _ => v) else atA L a
  | [] => by simp [atA_nil]
  | p :: L => by
    rw [List.map_cons, atA_cons, atA_cons, atA_map]
    by_cases e1 : p.1 = k
    · rw [if_pos e1]
      by_cases e : p.1 = a
      · simp [e, ← e1]
      · have : ¬ k = a := fun z => e (e1.trans z)
        simp [e, this]
    · rw [if_neg e1]
      by_cases e : p.1 = a
      · have : ¬ k = a := fun z => e1 (e.trans z.symm)
        simp [e, this]
      · simp [e]
theorem atA_put {α β : Type} [DecidableEq α] {a k : α} {v : β} {L : List (α × β)} : atA (putA L k v) a = if k = a then some v else atA L a := by
  unfold putA
  by_cases z : (L.any fun p => decide (p.1 = k)) = true
  · rw [if_pos z, atA_map]
    by_cases e : k = a
    · rw [if_pos e, if_pos e]
      have : (atA L a).isSome = true := atA_keys.mpr (by
        obtain ⟨p, hp, e2⟩ := List.any_eq_true.mp z
        exact List.mem_map.mpr ⟨p, hp, (of_decide_eq_true e2).trans e⟩)
      obtain ⟨w, hw⟩ := Option.isSome_iff_exists.mp this
      rw [hw]; rfl
    · rw [if_neg e, if_neg e]
  · rw [if_neg z]
    exact atA_app (by cases h : (L.any fun p => decide (p.1 = k)) with
      | true => exact absurd h z
      | false => rfl)
theorem putA_ky {κ α : Type} [DecidableEq κ] {kvs : List (κ × α)} {k : κ} {v : α} : (putA kvs k v).map Prod.fst = if k ∈ kvs.map Prod.fst then kvs.map Prod.fst else kvs.map Prod.fst ++ [k] := by
  unfold putA
  have e : (kvs.any fun p => decide (p.1 = k)) = true ↔ k ∈ kvs.map Prod.fst := by
    rw [List.any_eq_true, List.mem_map]
    constructor
    · rintro ⟨p, h, e⟩; exact ⟨p, h, of_decide_eq_true e⟩
    · rintro ⟨p, h, e⟩; exact ⟨p, h, decide_eq_true e⟩
  by_cases h : k ∈ kvs.map Prod.fst
  · rw [if_pos (e.mpr h), if_pos h, List.map_map]
    congr 1
    funext p
    show (if p.1 = k then (p.1, v) else p).1 = p.1
    split <;> rfl
  · rw [if_neg fun z => h (e.mp z), if_neg h, List.map_append]; rfl
theorem putA_nodup {α β : Type} [DecidableEq α] {k : α} {v : β} {L : List (α × β)} (h : (L.map Prod.fst).Nodup) : ((putA L k v).map Prod.fst).Nodup := by
  rw [putA_ky]
  split
  · exact h
  · rename_i c
    exact List.nodup_append.mpr ⟨h, by simp, by intro a ha b hb e; rw [List.mem_singleton] at hb; subst hb; subst e; exact c ha⟩
theorem putA_mem {α β : Type} [DecidableEq α] {k a : α} {v : β} {L : List (α × β)} : a ∈ (putA L k v).map Prod.fst ↔ a ∈ L.map Prod.fst ∨ a = k := by
  rw [putA_ky]
  split
  · rename_i c
    exact ⟨.inl, fun z => z.elim id fun e => by rw [e]; exact c⟩
  · rw [List.mem_append, List.mem_singleton]
theorem nodup_sub_len {α : Type} [DecidableEq α] : ∀ {l m : List α}, l.Nodup → (∀ x ∈ l, x ∈ m) → l.length ≤ m.length
  | [], _, _, _ => Nat.zero_le _
  | x :: l, m, h, s => by
    rw [List.nodup_cons] at h
    have hx := s x (List.mem_cons_self ..)
    have ih := nodup_sub_len (l := l) (m := m.erase x) h.2 fun y hy => (List.mem_erase_of_ne fun (e : y = x) => h.1 (by rw [← e]; exact hy)).mpr (s y (List.mem_cons_of_mem _ hy))
    rw [List.length_erase_of_mem hx] at ih
    have := List.length_pos_of_mem hx
    rw [List.length_cons]
    omega
/-! ### the search -/
def addL (L : Lay) (a : List Int) (c : Int) : Lay := putA L a ((atA L a).getD 0 + c)
def okSn (S : Sn) (q : List Int) : Bool := decide (q.length ≤ 6) && !(atA S q).isSome
def stepL (S : Sn) (p : List Int) (c : Int) (L : Lay) (s : Stp) : Lay := match stepped p s with
  | none => L
  | some q => if okSn S q = true then addL L q c else L
def presL (S : Sn) (L0 : Lay) (L : Lay) (p : List Int) : Lay := stps3.foldl (stepL S p ((atA L0 p).getD 0)) L
def levL (S : Sn) (L0 : Lay) : Lay := (L0.map Prod.fst).foldl (presL S L0) []
def seenL (S : Sn) (l : List (List Int)) : Sn := l.foldl (fun S a => putA S a ()) S
def bf (r : List Int) : Nat → Lay × Sn
  | 0 => ([(r, 1)], [(r, ())])
  | n + 1 => (levL (bf r n).2 (bf r n).1, seenL (bf r n).2 ((levL (bf r n).2 (bf r n).1).map Prod.fst))
def contr (S : Sn) (q : List Int) (c : Int) (o : Option (List Int)) : Int := if o = some q ∧ okSn S q = true then c else 0
theorem stepL_at {S : Sn} {p q : List Int} {c : Int} {L : Lay} {s : Stp} : (atA (stepL S p c L s) q).getD 0 = (atA L q).getD 0 + contr S q c (stepped p s) := by
  unfold stepL contr
  cases e : stepped p s with
  | none => simp
  | some y =>
    show (atA (if okSn S y = true then addL L y c else L) q).getD 0 = _
    by_cases h : y = q
    · subst h
      by_cases k : okSn S y = true
      · rw [if_pos k, if_pos ⟨rfl, k⟩]
        unfold addL
        rw [atA_put, if_pos rfl]; rfl
      · rw [if_neg k, if_neg fun z => k z.2, Int.add_zero]
    · rw [if_neg (c := some y = some q ∧ okSn S q = true) fun z => h (Option.some.inj z.1), Int.add_zero]
      split
      · unfold addL
        rw [atA_put, if_neg h]
      · rfl
theorem presL_at {S : Sn} {p q : List Int} {c : Int} : ∀ {ss : List Stp} {L : Lay}, (atA (ss.foldl (stepL S p c) L) q).getD 0 = (atA L q).getD 0 + (ss.map fun s => contr S q c (stepped p s)).sum
  | [], L => by simp
  | s :: ss, L => by
    rw [List.foldl_cons, presL_at, stepL_at, List.map_cons, List.sum_cons]
    omega
theorem levL_at {S : Sn} {q : List Int} {L0 : Lay} : ∀ {ps : List (List Int)} {L : Lay}, (atA (ps.foldl (presL S L0) L) q).getD 0 = (atA L q).getD 0 + (ps.map fun p => (stps3.map fun s => contr S q ((atA L0 p).getD 0) (stepped p s)).sum).sum
  | [], L => by simp
  | p :: ps, L => by
    rw [List.foldl_cons, levL_at, List.map_cons, List.sum_cons]
    unfold presL
    rw [presL_at]
    omega
/-- where the keys come from -/
theorem stepL_mem {S : Sn} {p a : List Int} {c : Int} {L : Lay} {s : Stp} (h : a ∈ (stepL S p c L s).map Prod.fst) : a ∈ L.map Prod.fst ∨ (stepped p s = some a ∧ okSn S a = true) := by
  unfold stepL at h
  cases e : stepped p s with
  | none => rw [e] at h; exact .inl h
  | some y =>
    rw [e] at h
    by_cases k : okSn S y = true
    · simp only [k, if_true] at h
      rcases putA_mem.mp h with h | h
      · exact .inl h
      · exact .inr ⟨by rw [h], by rw [h]; exact k⟩
    · simp only [k] at h
      exact .inl h
theorem stepL_nodup {S : Sn} {p : List Int} {c : Int} {L : Lay} {s : Stp} (h : (L.map Prod.fst).Nodup) : ((stepL S p c L s).map Prod.fst).Nodup := by
  unfold stepL
  split
  · exact h
  · split
    · exact putA_nodup h
    · exact h
theorem presL_mem {S : Sn} {p a : List Int} {c : Int} : ∀ {ss : List Stp} {L : Lay}, a ∈ ((ss.foldl (stepL S p c) L).map Prod.fst) → a ∈ L.map Prod.fst ∨ (∃ s ∈ ss, stepped p s = some a) ∧ okSn S a = true
  | [], L, h => .inl h
  | s :: ss, L, h => by
    rcases presL_mem (ss := ss) h with h | ⟨⟨s', h1, h2⟩, h3⟩
    · rcases stepL_mem h with h | ⟨h1, h2⟩
      · exact .inl h
      · exact .inr ⟨⟨s, List.mem_cons_self .., h1⟩, h2⟩
    · exact .inr ⟨⟨s', List.mem_cons_of_mem _ h1, h2⟩, h3⟩
theorem presL_nodup {S : Sn} {p : List Int} {c : Int} : ∀ {ss : List Stp} {L : Lay}, (L.map Prod.fst).Nodup → ((ss.foldl (stepL S p c) L).map Prod.fst).Nodup
  | [], L, h => h
  | s :: ss, L, h => presL_nodup (ss := ss) (stepL_nodup h)
theorem levL_mem {S : Sn} {a : List Int} {L0 : Lay} : ∀ {ps : List (List Int)} {L : Lay}, a ∈ ((ps.foldl (presL S L0) L).map Prod.fst) → a ∈ L.map Prod.fst ∨ (∃ p ∈ ps, ∃ s ∈ stps3, stepped p s = some a) ∧ okSn S a = true
  | [], L, h => .inl h
  | p :: ps, L, h => by
    rcases levL_mem (ps := ps) h with h | ⟨⟨p', h1, h2⟩, h3⟩
    · rcases presL_mem h with h | ⟨h1, h2⟩
      · exact .inl h
      · exact .inr ⟨⟨p, List.mem_cons_self .., h1⟩, h2⟩
    · exact .inr ⟨⟨p', List.mem_cons_of_mem _ h1, h2⟩, h3⟩
theorem levL_nodup {S : Sn} {L0 : Lay} : ∀ {ps : List (List Int)} {L : Lay}, (L.map Prod.fst).Nodup → ((ps.foldl (presL S L0) L).map Prod.fst).Nodup
  | [], L, h => h
  | p :: ps, L, h => levL_nodup (ps := ps) (presL_nodup h)
theorem seenL_mem {a : List Int} : ∀ {l : List (List Int)} {S : Sn}, a ∈ (seenL S l).map Prod.fst ↔ a ∈ S.map Prod.fst ∨ a ∈ l
  | [], S => by simp [seenL]
  | x :: l, S => by
    show a ∈ (seenL (putA S x ()) l).map Prod.fst ↔ _
    rw [seenL_mem, putA_mem, List.mem_cons]
    exact or_assoc
theorem seenL_nodup : ∀ {l : List (List Int)} {S : Sn}, (S.map Prod.fst).Nodup → ((seenL S l).map Prod.fst).Nodup
  | [], S, h => h
  | x :: l, S, h => seenL_nodup (l := l) (putA_nodup h)
/-- all rows of up to six of the items -/
def all6 : Nat → List (List Int)
  | 0 => [[]]
  | n + 1 => [] :: (all6 n).flatMap fun x => [1 :: x, 2 :: x, 3 :: x]
theorem all6_mem : ∀ {n : Nat} {x : List Int}, (∀ y ∈ x, y ∈ steps3) → x.length ≤ n → x ∈ all6 n
  | 0, x, _, h => by
    have : x = [] := List.eq_nil_of_length_eq_zero (by omega)
    rw [this]; exact List.mem_cons_self ..
  | n + 1, [], _, _ => List.mem_cons_self ..
  | n + 1, b :: x, hx, h => by
    have ih := all6_mem (n := n) (x := x) (fun y hy => hx y (List.mem_cons_of_mem _ hy)) (by simpa using h)
    refine List.mem_cons_of_mem _ (List.mem_flatMap.mpr ⟨x, ih, ?_⟩)
    have hb := hx b (List.mem_cons_self ..)
    simp only [steps3, List.mem_cons, List.not_mem_nil, or_false] at hb
    rcases hb with rfl | rfl | rfl <;> simp
theorem all6_len : ∀ {n : Nat}, (all6 n).length ≤ 4 ^ n
  | 0 => Nat.le_refl _
  | n + 1 => by
    have e : ∀ l : List (List Int), (l.flatMap fun x => [1 :: x, 2 :: x, 3 :: x]).length = 3 * l.length := by
      intro l
      induction l with
      | nil => rfl
      | cons x l ih => rw [List.flatMap_cons, List.length_append, ih, List.length_cons]; simp only [List.length_cons, List.length_nil]; omega
    show ((all6 n).flatMap fun x => [1 :: x, 2 :: x, 3 :: x]).length + 1 ≤ _
    rw [e, Nat.pow_succ]
    have := all6_len (n := n)
    have : 1 ≤ 4 ^ n := Nat.one_le_pow _ _ (by omega)
    omega
def In3 (x : List Int) : Prop := ∀ y ∈ x, y ∈ steps3
def Gd (r x : List Int) : Prop := In3 x ∧ r.length + x.length + tot r x ≤ 12
structure BfI (r : List Int) (n : Nat) (L : Lay) (S : Sn) : Prop where
  nd : (L.map Prod.fst).Nodup
  sd : (S.map Prod.fst).Nodup
  ky : ∀ x ∈ L.map Prod.fst, tot r x ≤ n ∧ In3 x ∧ x.length ≤ 6
  sy : ∀ x ∈ S.map Prod.fst, tot r x ≤ n ∧ In3 x ∧ x.length ≤ 6
  vl : ∀ x, Gd r x → tot r x = n → atA L x = some ((waysN r x : Nat) : Int)
  sn : ∀ x, Gd r x → tot r x ≤ n → x ∈ S.map Prod.fst
theorem keys_len {β : Type} {L : List (List Int × β)} (nd : (L.map Prod.fst).Nodup) (h : ∀ x ∈ L.map Prod.fst, In3 x ∧ x.length ≤ 6) : L.length ≤ 4096 := by
  have := nodup_sub_len nd (m := all6 6) fun x hx => all6_mem (h x hx).1 (h x hx).2
  rw [List.length_map] at this
  exact Nat.le_trans this all6_len
theorem tot_le {r x : List Int} : x.length ≤ r.length + tot r x ∧ r.length ≤ x.length + tot r x := by
  have := lcs_le (a := r) (b := x)
  unfold tot
  omega
theorem tot_stepped {r x y : List Int} {s : Stp} (h : stepped x s = some y) : tot r y = tot r x + 1 ∨ tot r y + 1 = tot r x := by
  have := dst_stepped (c := r) h
  rw [dst_comm (a := y), dst_comm (a := x), tot_dst, tot_dst] at this
  omega
theorem stepped_in {x y : List Int} {s : Stp} (hs : s.n ∈ steps3) (hx : In3 x) (h : stepped x s = some y) : In3 y := by
  obtain ⟨p, l, n⟩ := s
  intro z hz
  cases p <;> cases l <;> simp [stepped] at h
  · rcases List.eq_nil_or_concat x with rfl | ⟨x, b, rfl⟩
    · simp at h
    · rw [List.concat_eq_append] at h hx
      simp at h
      exact hx z (by rw [h.2]; exact List.mem_append_left _ hz)
  · cases x with
    | nil => simp at h
    | cons b x =>
      simp at h
      exact hx z (by rw [h.2]; exact List.mem_cons_of_mem _ hz)
  · rw [← h] at hz
    rcases List.mem_append.mp hz with hz | hz
    · exact hx z hz
    · rw [List.mem_singleton] at hz; rw [hz]; exact hs
  · rw [← h] at hz
    rcases List.mem_cons.mp hz with hz | hz
    · rw [hz]; exact hs
    · exact hx z hz
theorem turn_iff {x y : List Int} {s : Stp} : stepped x s = some y ↔ stepped y s.turn = some x := by
  have go : ∀ {x y : List Int} {s : Stp}, stepped x s = some y → stepped y s.turn = some x := by
    intro x y s h
    obtain ⟨p, l, n⟩ := s
    cases p <;> cases l <;> simp [stepped, Stp.turn] at h ⊢
    · rcases List.eq_nil_or_concat x with rfl | ⟨x, b, rfl⟩
      · simp at h
      · rw [List.concat_eq_append] at h ⊢
        simp at h
        rw [← h.1, ← h.2]
    · cases x with
      | nil => simp at h
      | cons b x => simp at h; rw [← h.1, ← h.2]
    · rw [← h]; simp
    · rw [← h]; simp
  refine ⟨go, fun h => ?_⟩
  have := go h
  have e : s.turn.turn = s := by cases s; simp [Stp.turn]
  rw [e] at this
  exact this
theorem stps3_n {s : Stp} (h : s ∈ stps3) : s.n ∈ steps3 ∧ s.turn.n ∈ steps3 := by
  unfold stps3 at h
  obtain ⟨a, ha, h⟩ := List.mem_flatMap.mp h
  have : s.n = a := by
    simp only [List.mem_cons, List.not_mem_nil, or_false] at h
    rcases h with rfl | rfl | rfl | rfl <;> rfl
  exact ⟨by rw [this]; exact ha, by show s.n ∈ _; rw [this]; exact ha⟩
theorem sumI_swap {α β : Type} {f : α → β → Int} {m : List β} : ∀ {l : List α}, (l.map fun a => (m.map fun b => f a b).sum).sum = (m.map fun b => (l.map fun a => f a b).sum).sum
  | [] => by
    simp only [List.map_nil, List.sum_nil]
    induction m with
    | nil => rfl
    | cons b m ih => rw [List.map_cons, List.sum_cons, ← ih]; rfl
  | a :: l => by
    simp only [List.map_cons, List.sum_cons]
    rw [sumI_swap]
    induction m with
    | nil => rfl
    | cons b m ih => simp only [List.map_cons, List.sum_cons]; omega
theorem sumI_pick {L : Lay} {y : List Int} : ∀ {ks : List (List Int)}, ks.Nodup → (ks.map fun p => if p = y then (atA L p).getD 0 else 0).sum = if y ∈ ks then (atA L y).getD 0 else 0
  | [], _ => by simp
  | k :: ks, h => by
    rw [List.nodup_cons] at h
    rw [List.map_cons, List.sum_cons, sumI_pick h.2]
    by_cases e : k = y
    · subst e
      rw [if_pos rfl, if_neg h.1, if_pos (List.mem_cons_self ..), Int.add_zero]
    · rw [if_neg e, Int.zero_add]
      by_cases m : y ∈ ks
      · rw [if_pos m, if_pos (List.mem_cons_of_mem _ m)]
      · rw [if_neg m, if_neg fun z => (List.mem_cons.mp z).elim (fun w => e w.symm) m]
theorem sumI_nat {α : Type} {f : α → Nat} : ∀ {l : List α}, (l.map fun a => ((f a : Nat) : Int)).sum = ((l.map f).sum : Nat)
  | [] => rfl
  | a :: l => by rw [List.map_cons, List.sum_cons, sumI_nat, List.map_cons, List.sum_cons, Int.natCast_add]
theorem bf_0 {r : List Int} (hr : In3 r) (hl : r.length ≤ 6) : BfI r 0 (bf r 0).1 (bf r 0).2 := by
  have t0 : tot r r = 0 := by have := dst_self (a := r); rw [tot_dst] at this; omega
  have z : ∀ x, tot r x = 0 → r = x := fun x h => dst_zero.mp (by rw [tot_dst, h]; rfl)
  have w1 : waysN r r = 1 := by
    have l : lcs r r = r.length := by have := lcs_le (a := r) (b := r); have : tot r r = _ := rfl; unfold tot at t0; omega
    rw [waysN_eq, waysS_wsum, l, t0]
    unfold wsum
    have : r.length + 1 - r.length = 1 := by omega
    rw [this]
    show 0 + (0 + if _ then _ else _) = 1
    rw [if_pos rfl]
    rfl
  refine ⟨by simp [bf], by simp [bf], fun x hx => ?_, fun x hx => ?_, fun x _ h => ?_, fun x _ h => ?_⟩
  · have : x = r := by simpa [bf] using hx
    rw [this, t0]; exact ⟨Nat.le_refl _, hr, hl⟩
  · have : x = r := by simpa [bf] using hx
    rw [this, t0]; exact ⟨Nat.le_refl _, hr, hl⟩
  · rw [← z x h, w1]
    show atA [(r, 1)] r = _
    rw [atA_cons, if_pos rfl]
    rfl
  · rw [← z x (by omega)]
    simp [bf]
theorem bf_succ {r : List Int} {n : Nat} {L : Lay} {S : Sn} (hr : In3 r) (I : BfI r n L S) : BfI r (n + 1) (levL S L) (seenL S ((levL S L).map Prod.fst)) := by
  have ky : ∀ x ∈ (levL S L).map Prod.fst, tot r x ≤ n + 1 ∧ In3 x ∧ x.length ≤ 6 := fun x hx => by
    rcases levL_mem hx with h | ⟨⟨p, hp, s, hs, e⟩, k⟩
    · simp at h
    · obtain ⟨k1, k2, _⟩ := I.ky p hp
      unfold okSn at k
      simp only [Bool.and_eq_true, decide_eq_true_eq] at k
      exact ⟨by have := tot_stepped (r := r) e; omega, stepped_in (stps3_n hs).1 k2 e, k.1⟩
  have val : ∀ x, Gd r x → tot r x = n + 1 → (atA (levL S L) x).getD 0 = ((waysN r x : Nat) : Int) := by
    intro q g ht
    have hq6 : q.length ≤ 6 := by have := tot_le (r := r) (x := q); have := g.2; omega
    have ok : okSn S q = true := by
      unfold okSn
      rw [decide_eq_true hq6, Bool.true_and, Bool.not_eq_true']
      cases h : (atA S q).isSome with
      | false => rfl
      | true => have := (I.sy q (atA_keys.mp h)).1; omega
    unfold levL
    rw [levL_at, atA_nil]
    show 0 + _ = _
    rw [Int.zero_add, sumI_swap, ways_steps hr g.1 ht, ← sumI_nat]
    refine congrArg (List.sum (α := Int)) (List.map_congr_left fun s hs => ?_)
    have e1 : ∀ p : List Int, contr S q ((atA L p).getD 0) (stepped p s) = match stepped q s.turn with
        | none => 0
        | some y => if p = y then (atA L p).getD 0 else 0 := fun p => by
      unfold contr
      simp only [ok, and_true]
      cases h : stepped q s.turn with
      | none =>
        refine if_neg fun z => ?_
        rw [turn_iff, h] at z
        cases z
      | some y =>
        show _ = if p = y then _ else _
        by_cases e : p = y
        · rw [if_pos e, if_pos (by rw [turn_iff, h, e])]
        · rw [if_neg e, if_neg fun z => ?_]
          rw [turn_iff, h] at z
          exact e (Option.some.inj z).symm
    simp only [e1]
    cases h : stepped q s.turn with
    | none =>
      show ((L.map Prod.fst).map fun _ => (0 : Int)).sum = _
      have : ∀ l : List (List Int), (l.map fun _ => (0 : Int)).sum = 0 := fun l => by
        induction l with
        | nil => rfl
        | cons a l ih => rw [List.map_cons, List.sum_cons, ih]; rfl
      rw [this]; rfl
    | some y =>
      show ((L.map Prod.fst).map fun p => if p = y then (atA L p).getD 0 else 0).sum = ((pv r n (some y) : Nat) : Int)
      rw [sumI_pick I.nd]
      show _ = (((if tot r y = n then waysN r y else 0) : Nat) : Int)
      have ts := tot_stepped (r := r) h
      by_cases e : tot r y = n
      · have gy : Gd r y := ⟨stepped_in (stps3_n hs).2 g.1 h, by
          have := stepped_len h
          have := g.2
          omega⟩
        have v := I.vl y gy e
        rw [if_pos e, if_pos (atA_keys.mp (by rw [v]; rfl)), v]
        rfl
      · rw [if_neg e, if_neg fun z => by have := (I.ky y z).1; omega]
        rfl
  refine ⟨levL_nodup (by simp), seenL_nodup I.sd, ky, fun x hx => ?_, fun x g ht => ?_, fun x g ht => ?_⟩
  · rcases seenL_mem.mp hx with h | h
    · have := I.sy x h
      exact ⟨by omega, this.2⟩
    · exact ky x h
  · have v := val x g ht
    have := waysN_pos (r := r) (x := x)
    cases h : atA (levL S L) x with
    | none => rw [h] at v; simp at v; omega
    | some w => rw [h] at v; simp at v; rw [v]
  · rw [seenL_mem]
    by_cases e : tot r x = n + 1
    · right
      have v := val x g e
      have := waysN_pos (r := r) (x := x)
      refine atA_keys.mp ?_
      cases h : atA (levL S L) x with
      | none => rw [h] at v; simp at v; omega
      | some w => rfl
    · exact .inl (I.sn x g (by omega))
theorem bf_ok {r : List Int} (hr : In3 r) (hl : r.length ≤ 6) : ∀ n, BfI r n (bf r n).1 (bf r n).2
  | 0 => bf_0 hr hl
  | n + 1 => bf_succ hr (bf_ok hr hl n)
end DL

namespace Pg
open PySem L2 DL
def b_is_integer : M Fl := (mRet (mAndV (mCb (dIsi tbG) (mCons (mSlot 0) (mCons (mV (mPure (.ty "int"))) mNil))) (mNotV (mV (mCb (dIsi tbG) (mCons (mSlot 0) (mCons (mV (mPure (.ty "bool"))) mNil)))))))
def m_is_integer : List D → RD := mDef 1 [] Pg.b_is_integer
def b_is_item : M Fl := (mRet (mAndV (mCall 1 [] Pg.m_is_integer (mCons (mV (mVar 0)) mNil)) (mOp dGe (mSlot 0) (mV (mPure (.int 0))))))
def m_is_item : List D → RD := mDef 1 [] Pg.b_is_item
def b_is_row : M Fl := (mRet (mAndV (mCb (dIsi tbG) (mCons (mSlot 0) (mCons (mV (mPure (.ty "list"))) mNil))) (mCb dAll (mCons (mV (mLc [1] (mItems (mVar 0)) (mTg1 1) (mPure true) (mCall 1 [] Pg.m_is_item (mCons (mV (mVar 1)) mNil)))) mNil))))
def m_is_row : List D → RD := mDef 2 [] Pg.b_is_row
def x_check_row_1 : M Fl := (mIte (mOr (mNot (mTru (mV (mCall 1 [] Pg.m_is_row (mCons (mV (mVar 0)) mNil))))) (mBl (mOp dGt (mV (mCb dLen (mCons (mSlot 0) mNil))) (mV (mPure (.int 200)))))) (mRaise "InvalidRow" (mCons (mV (mVar 0)) mNil)) mNx)
def b_check_row : M Fl := Pg.x_check_row_1
def m_check_row : List D → RD := mDef 1 [] Pg.b_check_row
def x_check_rows_1 : M Fl := (mIte (mBl (mOp dGt (mV (mCb dMax (mCons (mV (mCb dLen (mCons (mSlot 0) mNil))) (mCons (mV (mCb dLen (mCons (mSlot 1) mNil))) mNil)))) (mV (mPure (.int 40))))) (mRaise "TooMany" (mCons (mV (mPure (.int 40))) mNil)) mNx)
def b_check_rows : M Fl := (mSeq (mDrop (mCall 1 [] Pg.m_check_row (mCons (mV (mVar 0)) mNil)))
  (mSeq (mDrop (mCall 1 [] Pg.m_check_row (mCons (mV (mVar 1)) mNil)))
  Pg.x_check_rows_1))
def m_check_rows : List D → RD := mDef 2 [] Pg.b_check_rows
def x_common_length_1 : M Fl := (mWhile (mAnd (mBl (mOp dLt (mV (mOp dAdd (mSlot 2) (mSlot 4))) (mV (mCb dLen (mCons (mSlot 0) mNil))))) (mAnd (mBl (mOp dLt (mV (mOp dAdd (mSlot 3) (mSlot 4))) (mV (mCb dLen (mCons (mSlot 1) mNil))))) (mBl (mOp dEq (mV (mOp dIx (mSlot 0) (mV (mOp dAdd (mSlot 2) (mSlot 4))))) (mV (mOp dIx (mSlot 1) (mV (mOp dAdd (mSlot 3) (mSlot 4))))))))) (mAug dAddI 4 (mV (mPure (.int 1)))) 1000)
def b_common_length : M Fl := (mSeq (mSet 4 (mPure (.int 0)))
  (mSeq Pg.x_common_length_1
  (mRetVar 4)))
def m_common_length : List D → RD := mDef 5 [] Pg.b_common_length
def x_longest_stretches_1 : M Fl := (mForE (mRng dRng1 (mCons (mV (mCb dLen (mCons (mSlot 1) mNil))) mNil)) (mTg1 4) (mDrop (mApp 2 (mTup (mCons (mV (mVar 3)) (mCons (mV (mVar 4)) (mCons (mV (mCall 4 [] Pg.m_common_length (mCons (mV (mVar 0)) (mCons (mV (mVar 1)) (mCons (mV (mVar 3)) (mCons (mV (mVar 4)) mNil)))))) mNil)))))))
def x_longest_stretches_2 : M Fl := (mForE (mRng dRng1 (mCons (mV (mCb dLen (mCons (mSlot 0) mNil))) mNil)) (mTg1 3) Pg.x_longest_stretches_1)
def b_longest_stretches : M Fl := (mSeq (mSetO 2 (mLst mNil))
  (mSeq Pg.x_longest_stretches_2
  (mSeq (mSet 5 (mOp dMaxK (mV (mLc [3, 4, 6] (mItems (mVar 2)) (mTgT [(mTg1 3), (mTg1 4), (mTg1 6)]) (mPure true) (mVar 6))) (mV (mPure (.int 0)))))
  (mRetF (mLc [7] (mItems (mVar 2)) (mTg1 7) (mBl (mChain dEq dGt (mV (mOp dIx (mSlot 7) (mV (mPure (.int 2))))) (mSlot 5) (mV (mPure (.int 0))))) (mVar 7))))))
def m_longest_stretches : List D → RD := mDef 8 [] Pg.b_longest_stretches
def b_gap : M Fl := (mSeq (mSet 2 (mCall 2 [] Pg.m_longest_stretches (mCons (mV (mVar 0)) (mCons (mV (mVar 1)) mNil))))
  (mRet (mOp dSub (mV (mOp dAdd (mV (mCb dLen (mCons (mSlot 0) mNil))) (mV (mCb dLen (mCons (mSlot 1) mNil))))) (mV (mIte (mTru (mSlot 2)) (mOp dMul (mV (mPure (.int 2))) (mV (mOp dIx (mV (mOp dIx (mSlot 2) (mV (mPure (.int 0))))) (mV (mPure (.int 2)))))) (mPure (.int 0)))))))
def m_gap : List D → RD := mDef 3 [] Pg.b_gap
def b_distance : M Fl := (mSeq (mDrop (mCall 2 [] Pg.m_check_rows (mCons (mV (mVar 0)) (mCons (mV (mVar 1)) mNil))))
  (mRet (mCall 2 [] Pg.m_gap (mCons (mV (mVar 0)) (mCons (mV (mVar 1)) mNil)))))
def m_distance : List D → RD := mDef 2 [] Pg.b_distance
def b_steps_of : M Fl := (mSeq (mAsg (mTgT [(mTg1 1), (mTg1 2), (mTg1 3), (mTg1 4)]) (mVar 0))
  (mSeq (mSet 5 (mOp dAdd (mV (mLc [6] (mItems (mVar 1)) (mTg1 6) (mPure true) (mTup (mCons (mV (mPure (.str "take"))) (mCons (mV (mPure (.str "left"))) (mCons (mV (mVar 6)) mNil)))))) (mV (mLc [6] (mItems (mUn dRev (mSlot 2))) (mTg1 6) (mPure true) (mTup (mCons (mV (mPure (.str "put"))) (mCons (mV (mPure (.str "left"))) (mCons (mV (mVar 6)) mNil))))))))
  (mRetF (mOp dCat (mV (mOp dAdd (mSlot 5) (mV (mLc [6] (mItems (mUn dRev (mSlot 3))) (mTg1 6) (mPure true) (mTup (mCons (mV (mPure (.str "take"))) (mCons (mV (mPure (.str "right"))) (mCons (mV (mVar 6)) mNil)))))))) (mV (mLc [6] (mItems (mVar 4)) (mTg1 6) (mPure true) (mTup (mCons (mV (mPure (.str "put"))) (mCons (mV (mPure (.str "right"))) (mCons (mV (mVar 6)) mNil))))))))))
def m_steps_of : List D → RD := mDef 7 [] Pg.b_steps_of
def b_way : M Fl := (mSeq (mDrop (mCall 2 [] Pg.m_check_rows (mCons (mV (mVar 0)) (mCons (mV (mVar 1)) mNil))))
  (mSeq (mSet 2 (mOrV (mCall 2 [] Pg.m_longest_stretches (mCons (mV (mVar 0)) (mCons (mV (mVar 1)) mNil))) (mLst (mCons (mV (mTup (mCons (mV (mPure (.int 0))) (mCons (mV (mPure (.int 0))) (mCons (mV (mPure (.int 0))) mNil))))) mNil))))
  (mSeq (mAsg (mTgT [(mTg1 3), (mTg1 4), (mTg1 5)]) (mOp dIx (mSlot 2) (mV (mPure (.int 0)))))
  (mRetF (mCallN 1 [] Pg.m_steps_of (mCons (mV (mTup (mCons (mV (mCut dCut (mSlot 0) (mPure none) (mPart (mSlot 3)))) (mCons (mV (mCut dCut (mSlot 1) (mPure none) (mPart (mSlot 4)))) (mCons (mV (mCut dCut (mSlot 0) (mPart (mV (mOp dAdd (mSlot 3) (mSlot 5)))) (mPure none))) (mCons (mV (mCut dCut (mSlot 1) (mPart (mV (mOp dAdd (mSlot 4) (mSlot 5)))) (mPure none))) mNil)))))) mNil))))))
def m_way : List D → RD := mDef 6 [] Pg.b_way
def x_choose_1 : M Fl := (mForE (mRng dRng1 (mCons (mSlot 1) mNil)) (mTg1 3) (mSet 2 (mOp dDiv (mV (mOp dMul (mSlot 2) (mV (mOp dSub (mSlot 0) (mSlot 3))))) (mV (mOp dAdd (mSlot 3) (mV (mPure (.int 1))))))))
def b_choose : M Fl := (mSeq (mSet 2 (mPure (.int 1)))
  (mSeq Pg.x_choose_1
  (mRetVar 2)))
def m_choose : List D → RD := mDef 4 [] Pg.b_choose
def x_ways_count_1 : M Fl := (mIte (mTru (mSlot 3)) (mRet (mCb dSum (mCons (mV (mLc [4, 5, 6] (mItems (mVar 3)) (mTgT [(mTg1 4), (mTg1 5), (mTg1 6)]) (mPure true) (mCall 2 [] Pg.m_choose (mCons (mV (mVar 2)) (mCons (mV (mOp dAdd (mSlot 4) (mSlot 5))) mNil))))) mNil))) mNx)
def b_ways_count : M Fl := (mSeq (mDrop (mCall 2 [] Pg.m_check_rows (mCons (mV (mVar 0)) (mCons (mV (mVar 1)) mNil))))
  (mSeq (mAsg (mTgT [(mTg1 2), (mTg1 3)]) (mTup (mCons (mV (mCall 2 [] Pg.m_gap (mCons (mV (mVar 0)) (mCons (mV (mVar 1)) mNil)))) (mCons (mV (mCall 2 [] Pg.m_longest_stretches (mCons (mV (mVar 0)) (mCons (mV (mVar 1)) mNil)))) mNil))))
  (mSeq Pg.x_ways_count_1
  (mRet (mCb dSum (mCons (mV (mLc2 [4, 5] [5] (mRng dRng1 (mCons (mV (mOp dAdd (mV (mCb dLen (mCons (mSlot 0) mNil))) (mV (mPure (.int 1))))) mNil)) (mTg1 4) (mPure true) (mRng dRng1 (mCons (mV (mOp dAdd (mV (mCb dLen (mCons (mSlot 1) mNil))) (mV (mPure (.int 1))))) mNil)) (mTg1 5) (mPure true) (mCall 2 [] Pg.m_choose (mCons (mV (mVar 2)) (mCons (mV (mOp dAdd (mSlot 4) (mSlot 5))) mNil))))) mNil))))))
def m_ways_count : List D → RD := mDef 7 [] Pg.b_ways_count
end Pg
namespace Tk45
open PySem L2 DL DLE PySem.Spec PyProof.Rows
theorem d_lenX {G : Gc} : CaD G (rLenD G.K) dLen := fun Av H ds vs Q fr r q => .inl (d_len Av H ds vs Q fr r q)
def x__law_done_1 : M Fl := (mIte (mOr (mBl (mOp dEq (mSlot 0) (mV (mLst mNil)))) (mBl (mOp dNe (mV (mOp dIx (mSlot 0) (mV (mOp dIx (mV (mLst (mCons (mV (mPure (.int 0))) (mCons (mV (mUn dNeg (mV (mPure (.int 1))))) mNil)))) (mV (mCb dInt (mCons (mV (mOp dEq (mSlot 3) (mV (mPure (.str "right"))))) mNil))))))) (mSlot 4)))) (mRet (mPure .non)) (mSet 0 (mIte (mBl (mOp dEq (mSlot 3) (mV (mPure (.str "left"))))) (mCut dCut (mSlot 0) (mPart (mV (mPure (.int 1)))) (mPure none)) (mCut dCut (mSlot 0) (mPure none) (mPart (mV (mUn dNeg (mV (mPure (.int 1))))))))))
def x__law_done_2 : M Fl := (mIte (mBl (mOp dEq (mSlot 2) (mV (mPure (.str "put"))))) (mSet 0 (mIte (mBl (mOp dEq (mSlot 3) (mV (mPure (.str "left"))))) (mOp dAdd (mV (mLst (mCons (mV (mVar 4)) mNil))) (mSlot 0)) (mOp dAdd (mSlot 0) (mV (mLst (mCons (mV (mVar 4)) mNil)))))) x__law_done_1)
def x__law_done_3 : M Fl := (mForE (mItems (mVar 1)) (mTgT [(mTg1 2), (mTg1 3), (mTg1 4)]) x__law_done_2)
def b__law_done : M Fl := (mSeq (mSet 0 (mCb dListN (mCons (mSlot 0) mNil)))
  (mSeq x__law_done_3
  (mRetVar 0)))
def m__law_done : List D → RD := mDef 5 [] b__law_done
def x__law_pool_1 : M Fl := (mIte (mBl (mOp dLt (mSlot 1) (mV (mCb dLen (mCons (mSlot 0) mNil))))) (mSet 2 (mOp dIx (mSlot 0) (mSlot 1))) mNx)
def b__law_pool : M Fl := (mSeq (mSet 2 (mPure (.int 0)))
  (mSeq x__law_pool_1
  (mSeq (mSet 3 (mCb dAbs (mCons (mSlot 2) mNil)))
  (mSeq (mSet 4 (mOp dMod (mV (mOp dMul (mV (mOp dAdd (mV (mOp dAdd (mV (mOp dMod (mSlot 3) (mV (mPure (.int 2147483629))))) (mV (mOp dMul (mV (mOp dMul (mV (mPure (.int 7919))) (mSlot 1))) (mSlot 1))))) (mV (mPure (.int 13))))) (mV (mPure (.int 48271))))) (mV (mPure (.int 2147483647)))))
  (mRetF (mLst (mCons (mV (mOp dMul (mSlot 3) (mV (mCb dInt (mCons (mV (mOp dGe (mSlot 3) (mV (mOp dPow (mV (mPure (.int 10))) (mV (mPure (.int 18))))))) mNil))))) (mCons (mV (mVar 4)) mNil))))))))
def m__law_pool : List D → RD := mDef 5 [] b__law_pool
def x__law_take_1 : M Fl := (mIte (mBl (mOp dGt (mV (mOp dIx (mSlot 0) (mV (mPure (.int 0))))) (mV (mPure (.int 0))))) (mSeq (mSet 2 (mOp dMod (mV (mOp dIx (mSlot 0) (mV (mPure (.int 0))))) (mSlot 1)))
  (mSeq (mSetIx 0 gSetL (mOp dDiv (mV (mOp dIx (mSlot 0) (mV (mPure (.int 0))))) (mSlot 1)) (mV (mPure (.int 0))))
  (mRetVar 2))) mNx)
def b__law_take : M Fl := (mSeq x__law_take_1
  (mSeq (mSetIx 0 gSetL (mOp dMod (mV (mOp dAdd (mV (mOp dMul (mV (mOp dIx (mSlot 0) (mV (mPure (.int 1))))) (mV (mPure (.int 48271))))) (mV (mPure (.int 11))))) (mV (mPure (.int 2147483647)))) (mV (mPure (.int 1))))
  (mRet (mOp dMod (mV (mOp dDiv (mV (mOp dMod (mV (mOp dMul (mV (mOp dIx (mSlot 0) (mV (mPure (.int 1))))) (mV (mOp dIx (mSlot 0) (mV (mPure (.int 1))))))) (mV (mPure (.int 2147483629))))) (mV (mPure (.int 64))))) (mSlot 1)))))
def m__law_take : List D → RD := mDef 3 [0] b__law_take
def b__law_row : M Fl := (mRetF (mLc [3] (mRng dRng1 (mCons (mV (mCall 2 [0] m__law_take (mCons (mSlot 0) (mCons (mV (mOp dAdd (mSlot 1) (mV (mPure (.int 1))))) mNil)))) mNil)) (mTg1 3) (mPure true) (mOp dIx (mSlot 2) (mV (mCall 2 [0] m__law_take (mCons (mSlot 0) (mCons (mV (mCb dLen (mCons (mSlot 2) mNil))) mNil)))))))
def m__law_row : List D → RD := mDef 4 [0] b__law_row
def x__law_searched_1 : M Fl := (mForE (mItems (mLst (mCons (mV (mPure (.int 1))) (mCons (mV (mPure (.int 2))) (mCons (mV (mPure (.int 3))) mNil))))) (mTg1 3) (mSet 2 (mOp dAdd (mSlot 2) (mV (mLst (mCons (mV (mTup (mCons (mV (mPure (.str "put"))) (mCons (mV (mPure (.str "left"))) (mCons (mV (mVar 3)) mNil))))) (mCons (mV (mTup (mCons (mV (mPure (.str "put"))) (mCons (mV (mPure (.str "right"))) (mCons (mV (mVar 3)) mNil))))) (mCons (mV (mTup (mCons (mV (mPure (.str "take"))) (mCons (mV (mPure (.str "left"))) (mCons (mV (mVar 3)) mNil))))) (mCons (mV (mTup (mCons (mV (mPure (.str "take"))) (mCons (mV (mPure (.str "right"))) (mCons (mV (mVar 3)) mNil))))) mNil)))))))))
def x__law_searched_2 : M Fl := (mIte (mAnd (mBl (mOp dIsNot (mSlot 10) (mV (mPure .non)))) (mAnd (mBl (mOp dLe (mV (mCb dLen (mCons (mSlot 10) mNil))) (mV (mPure (.int 6))))) (mBl (mOp dNotInN (mV (mCb dTuple (mCons (mSlot 10) mNil))) (mSlot 5))))) (mSetIx 7 putND (mOp dAdd (mV (mGetN (mSlot 7) (mV (mCb dTuple (mCons (mSlot 10) mNil))) (mPure (.int 0)))) (mV (mOp dNx (mSlot 4) (mSlot 8)))) (mV (mCb dTuple (mCons (mSlot 10) mNil)))) mNx)
def x__law_searched_3 : M Fl := (mForE (mItems (mVar 2)) (mTg1 9) (mSeq (mSet 10 (mCall 2 [] m__law_done (mCons (mV (mCb dListN (mCons (mSlot 8) mNil))) (mCons (mV (mLst (mCons (mV (mVar 9)) mNil))) mNil))))
  x__law_searched_2))
def x__law_searched_4 : M Fl := (mForE (mKeysE (mVar 4)) (mTg1 8) x__law_searched_3)
def x__law_searched_5 : M Fl := (mForE (mKeysE (mVar 7)) (mTg1 10) (mSetIx 5 putND (mPure (.bl true)) (mSlot 10)))
def x__law_searched_6 : M Fl := (mWhile (mBl (mOp dNotInN (mV (mCb dTuple (mCons (mSlot 1) mNil))) (mSlot 4))) (mSeq (mSetO 7 (mPure (.dcN [])))
  (mSeq x__law_searched_4
  (mSeq x__law_searched_5
  (mPut2 4 6 false false (mVar 7) (mOp dAdd (mSlot 6) (mV (mPure (.int 1)))))))) 1000)
def b__law_searched : M Fl := (mSeq (mSet 2 (mLst mNil))
  (mSeq x__law_searched_1
  (mSeq (mPut3 4 5 6 false true false (mDcN1 (mCb dTuple (mCons (mSlot 0) mNil)) (mPure (.int 1))) (mDcN1 (mCb dTuple (mCons (mSlot 0) mNil)) (mPure (.bl true))) (mPure (.int 0)))
  (mSeq x__law_searched_6
  (mRetF (mLst (mCons (mV (mVar 6)) (mCons (mV (mOp dNx (mSlot 4) (mV (mCb dTuple (mCons (mSlot 1) mNil))))) mNil))))))))
def m__law_searched : List D → RD := mDef 11 [] b__law_searched
def x_law_1 : M Fl := (mIte (mBl (mOp dEq (mV (mCall 2 [0] m__law_take (mCons (mSlot 2) (mCons (mV (mPure (.int 2))) mNil)))) (mV (mPure (.int 0))))) (mSet 4 (mOp dIx (mV (mLst (mCons (mV (mCut dCut (mSlot 3) (mPart (mV (mPure (.int 1)))) (mPure none))) (mCons (mV (mCut dCut (mSlot 3) (mPure none) (mPart (mV (mUn dNeg (mV (mPure (.int 1)))))))) (mCons (mV (mOp dAdd (mV (mCut dCut (mSlot 3) (mPart (mV (mPure (.int 1)))) (mPure none))) (mV (mLst (mCons (mV (mPure (.int 2))) mNil))))) (mCons (mV (mOp dAdd (mV (mLst (mCons (mV (mPure (.int 3))) mNil))) (mV (mCut dCut (mSlot 3) (mPure none) (mPart (mV (mPure (.int 2)))))))) (mCons (mV (mUn dRev (mSlot 3))) (mCons (mV (mVar 3)) mNil)))))))) (mV (mCall 2 [0] m__law_take (mCons (mSlot 2) (mCons (mV (mPure (.int 6))) mNil)))))) mNx)
def x_law_2 : M Fl := (mIte (mOr (mBl (mOp dNe (mV (mLst (mCons (mV (mCall 2 [] Pg.m_distance (mCons (mV (mVar 3)) (mCons (mV (mVar 4)) mNil)))) (mCons (mV (mCall 2 [] Pg.m_ways_count (mCons (mV (mVar 3)) (mCons (mV (mVar 4)) mNil)))) mNil)))) (mSlot 6))) (mBl (mOp dNe (mV (mCall 2 [] Pg.m_distance (mCons (mV (mVar 4)) (mCons (mV (mVar 3)) mNil)))) (mV (mOp dIx (mSlot 6) (mV (mPure (.int 0)))))))) (mRet (mPure (.bl false))) mNx)
def x_law_3 : M Fl := (mIte (mLendT 8 (mOr (mNot (mTru (mV (mCb (dIsi tbG) (mCons (mSlot 8) (mCons (mV (mPure (.ty "list"))) mNil)))))) (mOr (mBl (mOp dNe (mV (mCb dLen (mCons (mSlot 8) mNil))) (mV (mOp dIx (mSlot 6) (mV (mPure (.int 0))))))) (mBl (mOp dNe (mV (mCall 2 [] m__law_done (mCons (mV (mVar 3)) (mCons (mV (mVar 8)) mNil)))) (mSlot 4)))))) (mRet (mPure (.bl false))) mNx)
def x_law_4 : M Fl := (mForE (mRng dRng1 (mCons (mV (mPure (.int 2))) mNil)) (mTg1 7) (mSeq (mSetO 8 (mCallN 2 [] Pg.m_way (mCons (mV (mVar 3)) (mCons (mV (mVar 4)) mNil))))
  (mSeq x_law_3
  (mDrop (mApp 8 (mPure .non))))))
def x_law_5 : M Fl := (mIte (mOr (mBl (mOp dNe (mV (mCb dReprX (mCons (mV (mLst (mCons (mV (mVar 3)) (mCons (mV (mVar 4)) mNil)))) mNil))) (mSlot 5))) (mBl (mOp dNe (mV (mCall 2 [] Pg.m_ways_count (mCons (mV (mVar 4)) (mCons (mV (mVar 3)) mNil)))) (mV (mOp dIx (mSlot 6) (mV (mPure (.int 1)))))))) (mRet (mPure (.bl false))) mNx)
def x_law_6 : M Fl := (mForE (mRng dRng1 (mCons (mV (mCb dMax (mCons (mV (mPure (.int 1))) (mCons (mV (mCb dMin (mCons (mV (mPure (.int 4))) (mCons (mV (mCb dLen (mCons (mSlot 0) mNil))) mNil)))) mNil)))) mNil)) (mTg1 1) (mSeq (mSetO 2 (mCallN 2 [] m__law_pool (mCons (mV (mVar 0)) (mCons (mV (mVar 1)) mNil))))
  (mSeq (mPut2 3 4 false false (mCall 3 [0] m__law_row (mCons (mSlot 2) (mCons (mV (mPure (.int 3))) (mCons (mV (mLst (mCons (mV (mPure (.int 1))) (mCons (mV (mPure (.int 2))) (mCons (mV (mPure (.int 3))) mNil))))) mNil)))) (mCall 3 [0] m__law_row (mCons (mSlot 2) (mCons (mV (mPure (.int 3))) (mCons (mV (mLst (mCons (mV (mPure (.int 1))) (mCons (mV (mPure (.int 2))) (mCons (mV (mPure (.int 3))) mNil))))) mNil)))))
  (mSeq x_law_1
  (mSeq (mPut2 5 6 false false (mCb dReprX (mCons (mV (mLst (mCons (mV (mVar 3)) (mCons (mV (mVar 4)) mNil)))) mNil)) (mCall 2 [] m__law_searched (mCons (mV (mVar 3)) (mCons (mV (mVar 4)) mNil))))
  (mSeq x_law_2
  (mSeq x_law_4
  x_law_5)))))))
def b_law : M Fl := (mSeq x_law_6
  (mRet (mPure (.bl true))))
def m_law : List D → RD := mDef 9 [] b_law
def tops (i : Nat) : Stmt := PySem.Challenge.pw_dequeeffect_k45_distances_by_search.main.body.getD i (.Pass ⟨0, 0, 0, 0⟩)
abbrev s__law_done : Stmt := (tops 26)
theorem sc__law_done : FnScope ["_law_row_here", "_law_deeds", "_law_deed", "_law_end", "_law_item"] ["_law_row_here", "_law_deeds"] (defScope s__law_done) := ⟨rfl, rfl, rfl, by decide +kernel, rfl, by decide +kernel, by decide +kernel⟩
theorem wk__law_done {P : Program} {w : World} {K : PySem.W.Frag} {mg : Str → Option Value} {base : Heap} {T : List (Addr × Str)} (B : Bn mg) (TB : TbOk ⟨K, mg, T⟩ tbG) (F : FnAt K mg "_law_done" "_law_done" s__law_done ["_law_row_here", "_law_deeds"])  : CallD P w K mg base T "_law_done" 1 ["_law_row_here", "_law_deeds"] [] m__law_done :=
  dfn_mk F sc__law_done fun f cd A outer s H E H0 A0 ios W o hio =>
  (db_cons (ds_set (nio hio (by decide)) o.nd rfl (.inl (by rfl)) (DF.de (df_callT call_list_of d_listN (by rfl) B.list bt_list (da_cons (do_slot rfl (.inl (by rfl))) da_nil))))
  (db_cons (ds_for o.pass rfl (di_seq rfl (de_var (nio hio (by decide)) rfl (.inl (by rfl)))) (dg_tup rfl (dgs_cons (dg_name (nio hio (by decide)) o.nd rfl (.inl (by rfl))) (dgs_cons (dg_name (nio hio (by decide)) o.nd rfl (.inl (by rfl))) (dgs_cons (dg_name (nio hio (by decide)) o.nd rfl (.inl (by rfl))) dgs_nil)))) (db_one (ds_if (dt_cmp (op_eqX o.units) d_eq (do_slot rfl (.inl (by rfl))) (DE.o de_str) (by rfl)) (db_one (ds_set (nio hio (by decide)) o.nd rfl (.inl (by rfl)) (de_ite (dt_cmp (op_eqX o.units) d_eq (do_slot rfl (.inl (by rfl))) (DE.o de_str) (by rfl)) (de_op op_addD d_add (DE.o (DF.de (df_lst (da_cons (DE.o (de_var (nio hio (by decide)) rfl (.inl (by rfl)))) da_nil)))) (do_slot rfl (.inl (by rfl)))) (de_op op_addD d_add (do_slot rfl (.inl (by rfl))) (DE.o (DF.de (df_lst (da_cons (DE.o (de_var (nio hio (by decide)) rfl (.inl (by rfl)))) da_nil)))))))) (db_one (ds_if (DW.t (dw_or (dt_cmp (op_eqX o.units) d_eq (do_slot rfl (.inl (by rfl))) (DE.o (DF.de (df_lst da_nil))) (by rfl)) (dw_or1 (dt_cmp (op_neX o.units) d_ne (DE.o (de_ixR ix_seq d_ix (do_slot rfl (.inl (by rfl))) (DE.o (de_ixR ix_seq d_ix (DE.o (DF.de (df_lst (da_cons (DE.o de_int) (da_cons (DE.o (de_un un_neg d_neg (DE.o de_int))) da_nil))))) (DE.o (de_callT call_int1 d_int (by rfl) B.int bt_int (da_cons (DE.o (de_cmp (op_eqX o.units) d_eq (do_slot rfl (.inl (by rfl))) (DE.o de_str) (by rfl))) da_nil))) (fun _ _ => rfl))) (fun _ _ => rfl))) (do_slot rfl (.inl (by rfl))) (by rfl))))) (db_one (ds_ret de_non)) (db_one (ds_set (nio hio (by decide)) o.nd rfl (.inl (by rfl)) (de_ite (dt_cmp (op_eqX o.units) d_eq (do_slot rfl (.inl (by rfl))) (DE.o de_str) (by rfl)) (de_slice sl_all d_cut (do_slot rfl (.inl (by rfl))) (dp_some (DE.o de_int)) dp_none) (de_slice sl_all d_cut (do_slot rfl (.inl (by rfl))) dp_none (dp_some (DE.o (de_un un_neg d_neg (DE.o de_int)))))))))))))
  (db_one (ds_retVar (nio hio (by decide)) rfl (.inl (by rfl))))))
abbrev s__law_pool : Stmt := (tops 24)
theorem sc__law_pool : FnScope ["_law_script", "_law_k", "_law_cell", "_law_whole", "_law_seed"] ["_law_script", "_law_k"] (defScope s__law_pool) := ⟨rfl, rfl, rfl, by decide +kernel, rfl, by decide +kernel, by decide +kernel⟩
theorem wk__law_pool {P : Program} {w : World} {K : PySem.W.Frag} {mg : Str → Option Value} {base : Heap} {T : List (Addr × Str)} (B : Bn mg) (TB : TbOk ⟨K, mg, T⟩ tbG) (F : FnAt K mg "_law_pool" "_law_pool" s__law_pool ["_law_script", "_law_k"])  : CallD P w K mg base T "_law_pool" 1 ["_law_script", "_law_k"] [] m__law_pool :=
  dfn_mk F sc__law_pool fun f cd A outer s H E H0 A0 ios W o hio =>
  (db_cons (ds_set (nio hio (by decide)) o.nd rfl (.inl (by rfl)) de_int)
  (db_cons (ds_if (dt_cmp op_lt (d_cmp _) (do_slot rfl (.inl (by rfl))) (DE.o (de_callB call_lenX d_lenX (by rfl) B.len bt_len (da_cons (do_slot rfl (.inl (by rfl))) da_nil))) (by rfl)) (db_one (ds_set (nio hio (by decide)) o.nd rfl (.inl (by rfl)) (de_ixR ix_seq d_ix (do_slot rfl (.inl (by rfl))) (do_slot rfl (.inl (by rfl))) (fun _ _ => rfl)))) db_nil)
  (db_cons (ds_set (nio hio (by decide)) o.nd rfl (.inl (by rfl)) (de_callB call_abs d_abs (by rfl) B.abs bt_abs (da_cons (do_slot rfl (.inl (by rfl))) da_nil)))
  (db_cons (ds_set (nio hio (by decide)) o.nd rfl (.inl (by rfl)) (de_op op_mod d_mod (DE.o (de_op op_mulD d_mul (DE.o (de_op op_addD d_add (DE.o (de_op op_addD d_add (DE.o (de_op op_mod d_mod (do_slot rfl (.inl (by rfl))) (DE.o de_int))) (DE.o (de_op op_mulD d_mul (DE.o (de_op op_mulD d_mul (DE.o de_int) (do_slot rfl (.inl (by rfl))))) (do_slot rfl (.inl (by rfl))))))) (DE.o de_int))) (DE.o de_int))) (DE.o de_int)))
  (db_one (ds_retF (df_lst (da_cons (DE.o (de_op op_mulD d_mul (do_slot rfl (.inl (by rfl))) (DE.o (de_callT call_int1 d_int (by rfl) B.int bt_int (da_cons (DE.o (de_cmp op_ge (d_cmp _) (do_slot rfl (.inl (by rfl))) (DE.o (de_op op_pow d_pow (DE.o de_int) (DE.o de_int))) (by rfl))) da_nil))))) (da_cons (DE.o (de_var (nio hio (by decide)) rfl (.inl (by rfl)))) da_nil)))))))))
abbrev s__law_take : Stmt := (tops 25)
theorem sc__law_take : FnScope ["_law_pool_here", "_law_many", "_law_found"] ["_law_pool_here", "_law_many"] (defScope s__law_take) := ⟨rfl, rfl, rfl, by decide +kernel, rfl, by decide +kernel, by decide +kernel⟩
theorem wk__law_take {P : Program} {w : World} {K : PySem.W.Frag} {mg : Str → Option Value} {base : Heap} {T : List (Addr × Str)} (B : Bn mg) (TB : TbOk ⟨K, mg, T⟩ tbG) (F : FnAt K mg "_law_take" "_law_take" s__law_take ["_law_pool_here", "_law_many"])  : CallD P w K mg base T "_law_take" 1 ["_law_pool_here", "_law_many"] [0] m__law_take :=
  dfn_mk F sc__law_take fun f cd A outer s H E H0 A0 ios W o hio =>
  (db_cons (ds_if (dt_cmp op_gt (d_cmp _) (DE.o (de_ixR ix_seq d_ix (do_slot rfl (.inl (by rfl))) (DE.o de_int) (fun _ _ => rfl))) (DE.o de_int) (by rfl)) (db_cons (ds_set (nio hio (by decide)) o.nd rfl (.inl (by rfl)) (de_op op_mod d_mod (DE.o (de_ixR ix_seq d_ix (do_slot rfl (.inl (by rfl))) (DE.o de_int) (fun _ _ => rfl))) (do_slot rfl (.inl (by rfl)))))
  (db_cons (ds_setIx set_list set_listD rfl (.inl (by rfl)) (de_op op_fdivW d_div (DE.o (de_ixR ix_seq d_ix (do_slot rfl (.inl (by rfl))) (DE.o de_int) (fun _ _ => rfl))) (do_slot rfl (.inl (by rfl)))) (DE.o de_int))
  (db_one (ds_retVar (nio hio (by decide)) rfl (.inl (by rfl)))))) db_nil)
  (db_cons (ds_setIx set_list set_listD rfl (.inl (by rfl)) (de_op op_mod d_mod (DE.o (de_op op_addD d_add (DE.o (de_op op_mulD d_mul (DE.o (de_ixR ix_seq d_ix (do_slot rfl (.inl (by rfl))) (DE.o de_int) (fun _ _ => rfl))) (DE.o de_int))) (DE.o de_int))) (DE.o de_int)) (DE.o de_int))
  (db_one (ds_ret (de_op op_mod d_mod (DE.o (de_op op_fdivW d_div (DE.o (de_op op_mod d_mod (DE.o (de_op op_mulD d_mul (DE.o (de_ixR ix_seq d_ix (do_slot rfl (.inl (by rfl))) (DE.o de_int) (fun _ _ => rfl))) (DE.o (de_ixR ix_seq d_ix (do_slot rfl (.inl (by rfl))) (DE.o de_int) (fun _ _ => rfl))))) (DE.o de_int))) (DE.o de_int))) (do_slot rfl (.inl (by rfl))))))))
abbrev s__law_row : Stmt := (tops 27)
theorem sc__law_row : FnScope ["_law_pool_here", "_law_most", "_law_items", "_law_turn"] ["_law_pool_here", "_law_most", "_law_items"] (defScope s__law_row) := ⟨rfl, rfl, rfl, by decide +kernel, rfl, by decide +kernel, by decide +kernel⟩
theorem wk__law_row {P : Program} {w : World} {K : PySem.W.Frag} {mg : Str → Option Value} {base : Heap} {T : List (Addr × Str)} (B : Bn mg) (TB : TbOk ⟨K, mg, T⟩ tbG) (F : FnAt K mg "_law_row" "_law_row" s__law_row ["_law_pool_here", "_law_most", "_law_items"]) (c__law_take : CallD P w K mg base T "_law_take" 1 ["_law_pool_here", "_law_many"] [0] m__law_take) : CallD P w K mg base T "_law_row" 2 ["_law_pool_here", "_law_most", "_law_items"] [0] m__law_row :=
  dfn_mk F sc__law_row fun f cd A outer s H E H0 A0 ios W o hio =>
  (db_one (ds_retF (df_lc (own := [("_law_turn", 3)]) rfl o.nd (nios hio (by decide)) (by decide) (di_rng1 (by rfl) B.range (da_cons (DE.o (de_own (ps := ["_law_pool_here", "_law_many"]) c__law_take o (by decide) (by rfl) (da_cons (do_slot rfl (.inr (.inl (by rfl)))) (da_cons (DE.o (de_op op_addD d_add (do_slot rfl (.inl (by rfl))) (DE.o de_int))) da_nil)))) da_nil)) (blkOk_by (N := ["_law_pool_here", "_law_most", "_law_items", "_law_turn"]) (sc := defScope s__law_row) (by decide +kernel)) (fun s1 H1 C1 cl1 fp1 => (dg_name (nio hio (by decide)) (o.blk s1 H1 _ _ fp1).nd rfl (.inl (by rfl)))) (fun s1 H1 C1 cl1 fp1 => dts_nil) (fun s1 H1 C1 cl1 fp1 => (de_ixR ix_seq d_ix (do_slot rfl (.inr (.inl (by rfl)))) (DE.o (de_own (ps := ["_law_pool_here", "_law_many"]) c__law_take (o.blk s1 H1 _ _ fp1) (by decide) (by rfl) (da_cons (do_slot rfl (.inr (.inl (by rfl)))) (da_cons (DE.o (de_callB call_lenX d_lenX (by rfl) B.len bt_len (da_cons (do_slot rfl (.inr (.inl (by rfl)))) da_nil))) da_nil)))) (fun _ _ => rfl))))))
abbrev s__law_searched : Stmt := (tops 29)
theorem sc__law_searched : FnScope ["_law_row_here", "_law_goal", "_law_deeds", "_law_item", "_law_layer", "_law_seen", "_law_length", "_law_later", "_law_present", "_law_step", "_law_after"] ["_law_row_here", "_law_goal"] (defScope s__law_searched) := ⟨rfl, rfl, rfl, by decide +kernel, rfl, by decide +kernel, by decide +kernel⟩
theorem wk__law_searched {P : Program} {w : World} {K : PySem.W.Frag} {mg : Str → Option Value} {base : Heap} {T : List (Addr × Str)} (B : Bn mg) (TB : TbOk ⟨K, mg, T⟩ tbG) (F : FnAt K mg "_law_searched" "_law_searched" s__law_searched ["_law_row_here", "_law_goal"]) (c__law_done : CallD P w K mg base T "_law_done" 1 ["_law_row_here", "_law_deeds"] [] m__law_done) : CallD P w K mg base T "_law_searched" 2 ["_law_row_here", "_law_goal"] [] m__law_searched :=
  dfn_mk F sc__law_searched fun f cd A outer s H E H0 A0 ios W o hio =>
  (db_cons (ds_set (nio hio (by decide)) o.nd rfl (.inl (by rfl)) (DF.de (df_lst da_nil)))
  (db_cons (ds_for o.pass rfl (di_seq rfl (DF.de (df_lst (da_cons (DE.o de_int) (da_cons (DE.o de_int) (da_cons (DE.o de_int) da_nil)))))) (dg_name (nio hio (by decide)) o.nd rfl (.inl (by rfl))) (db_one (ds_set (nio hio (by decide)) o.nd rfl (.inl (by rfl)) (de_op op_addD d_add (do_slot rfl (.inl (by rfl))) (DE.o (DF.de (df_lst (da_cons (DE.o (de_tup (da_cons (DE.o de_str) (da_cons (DE.o de_str) (da_cons (DE.o (de_var (nio hio (by decide)) rfl (.inl (by rfl)))) da_nil))))) (da_cons (DE.o (de_tup (da_cons (DE.o de_str) (da_cons (DE.o de_str) (da_cons (DE.o (de_var (nio hio (by decide)) rfl (.inl (by rfl)))) da_nil))))) (da_cons (DE.o (de_tup (da_cons (DE.o de_str) (da_cons (DE.o de_str) (da_cons (DE.o (de_var (nio hio (by decide)) rfl (.inl (by rfl)))) da_nil))))) (da_cons (DE.o (de_tup (da_cons (DE.o de_str) (da_cons (DE.o de_str) (da_cons (DE.o (de_var (nio hio (by decide)) rfl (.inl (by rfl)))) da_nil))))) da_nil)))))))))))
  (db_cons (ds_par3 (nio hio (by decide)) (nio hio (by decide)) (nio hio (by decide)) rfl o.nd rfl rfl rfl (by decide) (by decide) (by decide) rfl rfl rfl (DE.q (DF.de (df_dcN1 o (de_callT call_tuple_of d_tuple (by rfl) B.tuple bt_tuple (da_cons (do_slot rfl (.inl (by rfl))) da_nil)) de_int))) (DF.q (df_dcN1 o (de_callT call_tuple_of d_tuple (by rfl) B.tuple bt_tuple (da_cons (do_slot rfl (.inl (by rfl))) da_nil)) de_bl)) (DE.q de_int) (by rfl))
  (db_cons (ds_while 1000 o.pass (dt_cmp (op_notInN o.units) d_notInN (DE.o (de_callT call_tuple_of d_tuple (by rfl) B.tuple bt_tuple (da_cons (do_slot rfl (.inl (by rfl))) da_nil))) (do_slot rfl (.inl (by rfl))) (by rfl)) (db_cons (ds_setO (nio hio (by decide)) o.nd rfl (.inl (by rfl)) df_dcN0)
  (db_cons (ds_for o.pass rfl (di_keysE (de_var (nio hio (by decide)) rfl (.inl (by rfl)))) (dg_name (nio hio (by decide)) o.nd rfl (.inl (by rfl))) (db_one (ds_for o.pass rfl (di_seq rfl (de_var (nio hio (by decide)) rfl (.inl (by rfl)))) (dg_name (nio hio (by decide)) o.nd rfl (.inl (by rfl))) (db_cons (ds_set (nio hio (by decide)) o.nd rfl (.inl (by rfl)) (de_own (ps := ["_law_row_here", "_law_deeds"]) c__law_done o (by decide) (by rfl) (da_cons (DE.o (DF.de (df_callT call_list_of d_listN (by rfl) B.list bt_list (da_cons (do_slot rfl (.inl (by rfl))) da_nil)))) (da_cons (DE.o (DF.de (df_lst (da_cons (DE.o (de_var (nio hio (by decide)) rfl (.inl (by rfl)))) da_nil)))) da_nil))))
  (db_one (ds_if (DW.t (dw_and (dt_cmp op_isNotD d_isNot (do_slot rfl (.inl (by rfl))) (DE.o de_non) (by rfl)) (dw_and (dt_cmp op_le (d_cmp _) (DE.o (de_callB call_lenX d_lenX (by rfl) B.len bt_len (da_cons (do_slot rfl (.inl (by rfl))) da_nil))) (DE.o de_int) (by rfl)) (dw_and1 (dt_cmp (op_notInN o.units) d_notInN (DE.o (de_callT call_tuple_of d_tuple (by rfl) B.tuple bt_tuple (da_cons (do_slot rfl (.inl (by rfl))) da_nil))) (do_slot rfl (.inl (by rfl))) (by rfl)))))) (db_one (ds_setIx (set_nd o.units) set_nd_D rfl (.inl (by rfl)) (de_op op_addD d_add (DE.o (de_getN o (do_slot rfl (.inl (by rfl))) (DE.o (de_callT call_tuple_of d_tuple (by rfl) B.tuple bt_tuple (da_cons (do_slot rfl (.inl (by rfl))) da_nil))) de_int)) (DE.o (de_ixR (ix_nd o.units) d_nx (do_slot rfl (.inl (by rfl))) (do_slot rfl (.inl (by rfl))) (fun _ _ => rfl)))) (DE.o (de_callT call_tuple_of d_tuple (by rfl) B.tuple bt_tuple (da_cons (do_slot rfl (.inl (by rfl))) da_nil))))) db_nil))))))
  (db_cons (ds_for o.pass rfl (di_keysE (de_var (nio hio (by decide)) rfl (.inl (by rfl)))) (dg_name (nio hio (by decide)) o.nd rfl (.inl (by rfl))) (db_one (ds_setIx (set_nd o.units) set_nd_D rfl (.inl (by rfl)) de_bl (do_slot rfl (.inl (by rfl))))))
  (db_one (ds_par (nio hio (by decide)) (nio hio (by decide)) rfl o.nd rfl rfl (by decide) rfl rfl (DE.q (de_var (nio hio (by decide)) rfl (.inl (by rfl)))) (DE.q (de_op op_addD d_add (do_slot rfl (.inl (by rfl))) (DE.o de_int))) (by rfl)))))))
  (db_one (ds_retF (df_lst (da_cons (DE.o (de_var (nio hio (by decide)) rfl (.inl (by rfl)))) (da_cons (DE.o (de_ixR (ix_nd o.units) d_nx (do_slot rfl (.inl (by rfl))) (DE.o (de_callT call_tuple_of d_tuple (by rfl) B.tuple bt_tuple (da_cons (do_slot rfl (.inl (by rfl))) da_nil))) (fun _ _ => rfl))) da_nil)))))))))
abbrev s_is_integer : Stmt := (tops 6)
theorem sc_is_integer : FnScope ["thing"] ["thing"] (defScope s_is_integer) := ⟨rfl, rfl, rfl, by decide +kernel, rfl, by decide +kernel, by decide +kernel⟩
theorem wk_is_integer {P : Program} {w : World} {K : PySem.W.Frag} {mg : Str → Option Value} {base : Heap} {T : List (Addr × Str)} (B : Bn mg) (TB : TbOk ⟨K, mg, T⟩ tbG) (F : FnAt K mg "is_integer" "is_integer" s_is_integer ["thing"])  : CallD P w K mg base T "is_integer" 1 ["thing"] [] Pg.m_is_integer :=
  dfn_mk F sc_is_integer fun f cd A outer s H E H0 A0 ios W o hio =>
  (db_one (ds_ret (de_and rfl (de_callB call_isiX (d_isi TB) (by rfl) B.isinstance bt_isinstance (da_cons (do_slot rfl (.inl (by rfl))) (da_cons (DE.o (de_ty (by rfl) B.int bt_int)) da_nil))) (de_one (de_not rfl (DE.o (de_callB call_isiX (d_isi TB) (by rfl) B.isinstance bt_isinstance (da_cons (do_slot rfl (.inl (by rfl))) (da_cons (DE.o (de_ty (by rfl) B.bool bt_bool)) da_nil)))))))))
abbrev s_is_item : Stmt := (tops 7)
theorem sc_is_item : FnScope ["thing"] ["thing"] (defScope s_is_item) := ⟨rfl, rfl, rfl, by decide +kernel, rfl, by decide +kernel, by decide +kernel⟩
theorem wk_is_item {P : Program} {w : World} {K : PySem.W.Frag} {mg : Str → Option Value} {base : Heap} {T : List (Addr × Str)} (B : Bn mg) (TB : TbOk ⟨K, mg, T⟩ tbG) (F : FnAt K mg "is_item" "is_item" s_is_item ["thing"]) (c_is_integer : CallD P w K mg base T "is_integer" 1 ["thing"] [] Pg.m_is_integer) : CallD P w K mg base T "is_item" 2 ["thing"] [] Pg.m_is_item :=
  dfn_mk F sc_is_item fun f cd A outer s H E H0 A0 ios W o hio =>
  (db_one (ds_ret (de_and rfl (de_own (ps := ["thing"]) c_is_integer o (by decide) (by rfl) (da_cons (DE.o (de_var (nio hio (by decide)) rfl (.inl (by rfl)))) da_nil)) (de_one (de_cmp op_ge (d_cmp _) (do_slot rfl (.inl (by rfl))) (DE.o de_int) (by rfl))))))
abbrev s_is_row : Stmt := (tops 8)
theorem sc_is_row : FnScope ["thing", "item"] ["thing"] (defScope s_is_row) := ⟨rfl, rfl, rfl, by decide +kernel, rfl, by decide +kernel, by decide +kernel⟩
theorem wk_is_row {P : Program} {w : World} {K : PySem.W.Frag} {mg : Str → Option Value} {base : Heap} {T : List (Addr × Str)} (B : Bn mg) (TB : TbOk ⟨K, mg, T⟩ tbG) (F : FnAt K mg "is_row" "is_row" s_is_row ["thing"]) (c_is_item : CallD P w K mg base T "is_item" 2 ["thing"] [] Pg.m_is_item) : CallD P w K mg base T "is_row" 3 ["thing"] [] Pg.m_is_row :=
  dfn_mk F sc_is_row fun f cd A outer s H E H0 A0 ios W o hio =>
  (db_one (ds_ret (de_and rfl (de_callB call_isiX (d_isi TB) (by rfl) B.isinstance bt_isinstance (da_cons (do_slot rfl (.inl (by rfl))) (da_cons (DE.o (de_ty (by rfl) B.list bt_list)) da_nil))) (de_one (de_callB (cr_all rfl) d_all (by rfl) B.all bt_all (da_cons (DE.o (DF.de (df_lc (own := [("item", 1)]) rfl o.nd (nios hio (by decide)) (by decide) (di_seq rfl (de_var (nio hio (by decide)) rfl (.inl (by rfl)))) (blkOk_by (N := ["thing", "item"]) (sc := defScope s_is_row) (by decide +kernel)) (fun s1 H1 C1 cl1 fp1 => (dg_name (nio hio (by decide)) (o.blk s1 H1 _ _ fp1).nd rfl (.inl (by rfl)))) (fun s1 H1 C1 cl1 fp1 => dts_nil) (fun s1 H1 C1 cl1 fp1 => (de_own (ps := ["thing"]) c_is_item (o.blk s1 H1 _ _ fp1) (by decide) (by rfl) (da_cons (DE.o (de_var (nio hio (by decide)) rfl (.inl (by rfl)))) da_nil)))))) da_nil))))))
abbrev s_check_row : Stmt := (tops 9)
theorem sc_check_row : FnScope ["row"] ["row"] (defScope s_check_row) := ⟨rfl, rfl, rfl, by decide +kernel, rfl, by decide +kernel, by decide +kernel⟩
theorem wk_check_row {P : Program} {w : World} {K : PySem.W.Frag} {mg : Str → Option Value} {base : Heap} {T : List (Addr × Str)} (B : Bn mg) (TB : TbOk ⟨K, mg, T⟩ tbG) (F : FnAt K mg "check_row" "check_row" s_check_row ["row"]) (c_is_row : CallD P w K mg base T "is_row" 3 ["thing"] [] Pg.m_is_row) (gc_MOST_ITEMS : ∃ t, mg "MOST_ITEMS" = some (.int 200 t)) (ex_InvalidRow : ExD P w K mg base "InvalidRow") : CallD P w K mg base T "check_row" 4 ["row"] [] Pg.m_check_row :=
  dfn_mk F sc_check_row fun f cd A outer s H E H0 A0 ios W o hio =>
  (db_one (ds_if (DW.t (dw_or (dt_not (dt_tru rfl (DE.o (de_own (ps := ["thing"]) c_is_row o (by decide) (by rfl) (da_cons (DE.o (de_var (nio hio (by decide)) rfl (.inl (by rfl)))) da_nil))))) (dw_or1 (dt_cmp op_gt (d_cmp _) (DE.o (de_callB call_lenX d_lenX (by rfl) B.len bt_len (da_cons (do_slot rfl (.inl (by rfl))) da_nil))) (DE.o (de_gint (by rfl) gc_MOST_ITEMS)) (by rfl))))) (db_one (ds_raise ex_InvalidRow o (by decide) (by rfl) (da_cons (DE.o (de_var (nio hio (by decide)) rfl (.inl (by rfl)))) da_nil))) db_nil))
abbrev s_check_rows : Stmt := (tops 16)
theorem sc_check_rows : FnScope ["row", "goal"] ["row", "goal"] (defScope s_check_rows) := ⟨rfl, rfl, rfl, by decide +kernel, rfl, by decide +kernel, by decide +kernel⟩
theorem wk_check_rows {P : Program} {w : World} {K : PySem.W.Frag} {mg : Str → Option Value} {base : Heap} {T : List (Addr × Str)} (B : Bn mg) (TB : TbOk ⟨K, mg, T⟩ tbG) (F : FnAt K mg "check_rows" "check_rows" s_check_rows ["row", "goal"]) (c_check_row : CallD P w K mg base T "check_row" 4 ["row"] [] Pg.m_check_row) (gc_MOST_MOVED : ∃ t, mg "MOST_MOVED" = some (.int 40 t)) (ex_TooMany : ExD P w K mg base "TooMany") : CallD P w K mg base T "check_rows" 5 ["row", "goal"] [] Pg.m_check_rows :=
  dfn_mk F sc_check_rows fun f cd A outer s H E H0 A0 ios W o hio =>
  (db_cons (ds_drop (de_own (ps := ["row"]) c_check_row o (by decide) (by rfl) (da_cons (DE.o (de_var (nio hio (by decide)) rfl (.inl (by rfl)))) da_nil)))
  (db_cons (ds_drop (de_own (ps := ["row"]) c_check_row o (by decide) (by rfl) (da_cons (DE.o (de_var (nio hio (by decide)) rfl (.inl (by rfl)))) da_nil)))
  (db_one (ds_if (dt_cmp op_gt (d_cmp _) (DE.o (de_callB (call_maxX rfl) d_max (by rfl) B.max bt_max (da_cons (DE.o (de_callB call_lenX d_lenX (by rfl) B.len bt_len (da_cons (do_slot rfl (.inl (by rfl))) da_nil))) (da_cons (DE.o (de_callB call_lenX d_lenX (by rfl) B.len bt_len (da_cons (do_slot rfl (.inl (by rfl))) da_nil))) da_nil)))) (DE.o (de_gint (by rfl) gc_MOST_MOVED)) (by rfl)) (db_one (ds_raise ex_TooMany o (by decide) (by rfl) (da_cons (DE.o (de_gint (by rfl) gc_MOST_MOVED)) da_nil))) db_nil))))
abbrev s_common_length : Stmt := (tops 17)
theorem sc_common_length : FnScope ["row", "goal", "i", "j", "length"] ["row", "goal", "i", "j"] (defScope s_common_length) := ⟨rfl, rfl, rfl, by decide +kernel, rfl, by decide +kernel, by decide +kernel⟩
theorem wk_common_length {P : Program} {w : World} {K : PySem.W.Frag} {mg : Str → Option Value} {base : Heap} {T : List (Addr × Str)} (B : Bn mg) (TB : TbOk ⟨K, mg, T⟩ tbG) (F : FnAt K mg "common_length" "common_length" s_common_length ["row", "goal", "i", "j"])  : CallD P w K mg base T "common_length" 1 ["row", "goal", "i", "j"] [] Pg.m_common_length :=
  dfn_mk F sc_common_length fun f cd A outer s H E H0 A0 ios W o hio =>
  (db_cons (ds_set (nio hio (by decide)) o.nd rfl (.inl (by rfl)) de_int)
  (db_cons (ds_while 1000 o.pass (DW.t (dw_and (dt_cmp op_lt (d_cmp _) (DE.o (de_op op_addD d_add (do_slot rfl (.inl (by rfl))) (do_slot rfl (.inl (by rfl))))) (DE.o (de_callB call_lenX d_lenX (by rfl) B.len bt_len (da_cons (do_slot rfl (.inl (by rfl))) da_nil))) (by rfl)) (dw_and (dt_cmp op_lt (d_cmp _) (DE.o (de_op op_addD d_add (do_slot rfl (.inl (by rfl))) (do_slot rfl (.inl (by rfl))))) (DE.o (de_callB call_lenX d_lenX (by rfl) B.len bt_len (da_cons (do_slot rfl (.inl (by rfl))) da_nil))) (by rfl)) (dw_and1 (dt_cmp (op_eqX o.units) d_eq (DE.o (de_ixR ix_seq d_ix (do_slot rfl (.inl (by rfl))) (DE.o (de_op op_addD d_add (do_slot rfl (.inl (by rfl))) (do_slot rfl (.inl (by rfl))))) (fun _ _ => rfl))) (DE.o (de_ixR ix_seq d_ix (do_slot rfl (.inl (by rfl))) (DE.o (de_op op_addD d_add (do_slot rfl (.inl (by rfl))) (do_slot rfl (.inl (by rfl))))) (fun _ _ => rfl))) (by rfl)))))) (db_one (ds_aug (nio hio (by decide)) iop_add d_addI o.nd rfl (.inl (by rfl)) (DE.o de_int))))
  (db_one (ds_retVar (nio hio (by decide)) rfl (.inl (by rfl))))))
abbrev s_longest_stretches : Stmt := (tops 18)
theorem sc_longest_stretches : FnScope ["row", "goal", "found", "i", "j", "most", "length", "stretch"] ["row", "goal"] (defScope s_longest_stretches) := ⟨rfl, rfl, rfl, by decide +kernel, rfl, by decide +kernel, by decide +kernel⟩
theorem wk_longest_stretches {P : Program} {w : World} {K : PySem.W.Frag} {mg : Str → Option Value} {base : Heap} {T : List (Addr × Str)} (B : Bn mg) (TB : TbOk ⟨K, mg, T⟩ tbG) (F : FnAt K mg "longest_stretches" "longest_stretches" s_longest_stretches ["row", "goal"]) (c_common_length : CallD P w K mg base T "common_length" 1 ["row", "goal", "i", "j"] [] Pg.m_common_length) : CallD P w K mg base T "longest_stretches" 2 ["row", "goal"] [] Pg.m_longest_stretches :=
  dfn_mk F sc_longest_stretches fun f cd A outer s H E H0 A0 ios W o hio =>
  (db_cons (ds_setO (nio hio (by decide)) o.nd rfl (.inl (by rfl)) (df_lst da_nil))
  (db_cons (ds_for o.pass rfl (di_rng1 (by rfl) B.range (da_cons (DE.o (de_callB call_lenX d_lenX (by rfl) B.len bt_len (da_cons (do_slot rfl (.inl (by rfl))) da_nil))) da_nil)) (dg_name (nio hio (by decide)) o.nd rfl (.inl (by rfl))) (db_one (ds_for o.pass rfl (di_rng1 (by rfl) B.range (da_cons (DE.o (de_callB call_lenX d_lenX (by rfl) B.len bt_len (da_cons (do_slot rfl (.inl (by rfl))) da_nil))) da_nil)) (dg_name (nio hio (by decide)) o.nd rfl (.inl (by rfl))) (db_one (ds_drop (de_append rfl rfl (.inl (by rfl)) (de_tup (da_cons (DE.o (de_var (nio hio (by decide)) rfl (.inl (by rfl)))) (da_cons (DE.o (de_var (nio hio (by decide)) rfl (.inl (by rfl)))) (da_cons (DE.o (de_own (ps := ["row", "goal", "i", "j"]) c_common_length o (by decide) (by rfl) (da_cons (DE.o (de_var (nio hio (by decide)) rfl (.inl (by rfl)))) (da_cons (DE.o (de_var (nio hio (by decide)) rfl (.inl (by rfl)))) (da_cons (DE.o (de_var (nio hio (by decide)) rfl (.inl (by rfl)))) (da_cons (DE.o (de_var (nio hio (by decide)) rfl (.inl (by rfl)))) da_nil)))))) da_nil))))))))))
  (db_cons (ds_set (nio hio (by decide)) o.nd rfl (.inr (by rfl)) (de_maxK rfl rfl (by rfl) B.max bt_max (DE.o (DF.de (df_lc (own := [("i", 3), ("j", 4), ("length", 6)]) rfl o.nd (nios hio (by decide)) (by decide) (di_seq rfl (de_var (nio hio (by decide)) rfl (.inl (by rfl)))) (blkOk_by (N := ["row", "goal", "found", "i", "j", "most", "length", "stretch"]) (sc := defScope s_longest_stretches) (by decide +kernel)) (fun s1 H1 C1 cl1 fp1 => (dg_tup rfl (dgs_cons (dg_name (nio hio (by decide)) (o.blk s1 H1 _ _ fp1).nd rfl (.inl (by rfl))) (dgs_cons (dg_name (nio hio (by decide)) (o.blk s1 H1 _ _ fp1).nd rfl (.inl (by rfl))) (dgs_cons (dg_name (nio hio (by decide)) (o.blk s1 H1 _ _ fp1).nd rfl (.inl (by rfl))) dgs_nil))))) (fun s1 H1 C1 cl1 fp1 => dts_nil) (fun s1 H1 C1 cl1 fp1 => (de_var (nio hio (by decide)) rfl (.inl (by rfl))))))) (DE.o de_int)))
  (db_one (ds_retF (df_lc (own := [("stretch", 7)]) rfl o.nd (nios hio (by decide)) (by decide) (di_seq rfl (de_var (nio hio (by decide)) rfl (.inl (by rfl)))) (blkOk_by (N := ["row", "goal", "found", "i", "j", "most", "length", "stretch"]) (sc := defScope s_longest_stretches) (by decide +kernel)) (fun s2 H2 C2 cl2 fp2 => (dg_name (nio hio (by decide)) (o.blk s2 H2 _ _ fp2).nd rfl (.inl (by rfl)))) (fun s2 H2 C2 cl2 fp2 => (dts_one (dt_chain (op_eqX (o.blk s2 H2 _ _ fp2).units) op_gt d_eq (d_cmp _) (DE.o (de_ixR ix_seq d_ix (do_slot rfl (.inl (by rfl))) (DE.o de_int) (fun _ _ => rfl))) (do_slot rfl (.inr (.inl (by rfl)))) (DE.o de_int)))) (fun s2 H2 C2 cl2 fp2 => (de_var (nio hio (by decide)) rfl (.inl (by rfl))))))))))
abbrev s_gap : Stmt := (tops 19)
theorem sc_gap : FnScope ["row", "goal", "found"] ["row", "goal"] (defScope s_gap) := ⟨rfl, rfl, rfl, by decide +kernel, rfl, by decide +kernel, by decide +kernel⟩
theorem wk_gap {P : Program} {w : World} {K : PySem.W.Frag} {mg : Str → Option Value} {base : Heap} {T : List (Addr × Str)} (B : Bn mg) (TB : TbOk ⟨K, mg, T⟩ tbG) (F : FnAt K mg "gap" "gap" s_gap ["row", "goal"]) (c_longest_stretches : CallD P w K mg base T "longest_stretches" 2 ["row", "goal"] [] Pg.m_longest_stretches) : CallD P w K mg base T "gap" 3 ["row", "goal"] [] Pg.m_gap :=
  dfn_mk F sc_gap fun f cd A outer s H E H0 A0 ios W o hio =>
  (db_cons (ds_set (nio hio (by decide)) o.nd rfl (.inl (by rfl)) (de_own (ps := ["row", "goal"]) c_longest_stretches o (by decide) (by rfl) (da_cons (DE.o (de_var (nio hio (by decide)) rfl (.inl (by rfl)))) (da_cons (DE.o (de_var (nio hio (by decide)) rfl (.inl (by rfl)))) da_nil))))
  (db_one (ds_ret (de_op op_sub d_sub (DE.o (de_op op_addD d_add (DE.o (de_callB call_lenX d_lenX (by rfl) B.len bt_len (da_cons (do_slot rfl (.inl (by rfl))) da_nil))) (DE.o (de_callB call_lenX d_lenX (by rfl) B.len bt_len (da_cons (do_slot rfl (.inl (by rfl))) da_nil))))) (DE.o (de_ite (dt_tru rfl (do_slot rfl (.inl (by rfl)))) (de_op op_mulD d_mul (DE.o de_int) (DE.o (de_ixR ix_seq d_ix (DE.o (de_ixR ix_seq d_ix (do_slot rfl (.inl (by rfl))) (DE.o de_int) (fun _ _ => rfl))) (DE.o de_int) (fun _ _ => rfl)))) de_int))))))
abbrev s_distance : Stmt := (tops 20)
theorem sc_distance : FnScope ["row", "goal"] ["row", "goal"] (defScope s_distance) := ⟨rfl, rfl, rfl, by decide +kernel, rfl, by decide +kernel, by decide +kernel⟩
theorem wk_distance {P : Program} {w : World} {K : PySem.W.Frag} {mg : Str → Option Value} {base : Heap} {T : List (Addr × Str)} (B : Bn mg) (TB : TbOk ⟨K, mg, T⟩ tbG) (F : FnAt K mg "distance" "distance" s_distance ["row", "goal"]) (c_check_rows : CallD P w K mg base T "check_rows" 5 ["row", "goal"] [] Pg.m_check_rows) (c_gap : CallD P w K mg base T "gap" 3 ["row", "goal"] [] Pg.m_gap) : CallD P w K mg base T "distance" 6 ["row", "goal"] [] Pg.m_distance :=
  dfn_mk F sc_distance fun f cd A outer s H E H0 A0 ios W o hio =>
  (db_cons (ds_drop (de_own (ps := ["row", "goal"]) c_check_rows o (by decide) (by rfl) (da_cons (DE.o (de_var (nio hio (by decide)) rfl (.inl (by rfl)))) (da_cons (DE.o (de_var (nio hio (by decide)) rfl (.inl (by rfl)))) da_nil))))
  (db_one (ds_ret (de_own (ps := ["row", "goal"]) c_gap o (by decide) (by rfl) (da_cons (DE.o (de_var (nio hio (by decide)) rfl (.inl (by rfl)))) (da_cons (DE.o (de_var (nio hio (by decide)) rfl (.inl (by rfl)))) da_nil))))))
abbrev s_steps_of : Stmt := (tops 11)
theorem sc_steps_of : FnScope ["long", "p", "x", "s", "y", "steps", "item"] ["long"] (defScope s_steps_of) := ⟨rfl, rfl, rfl, by decide +kernel, rfl, by decide +kernel, by decide +kernel⟩
theorem wk_steps_of {P : Program} {w : World} {K : PySem.W.Frag} {mg : Str → Option Value} {base : Heap} {T : List (Addr × Str)} (B : Bn mg) (TB : TbOk ⟨K, mg, T⟩ tbG) (F : FnAt K mg "steps_of" "steps_of" s_steps_of ["long"])  : CallD P w K mg base T "steps_of" 1 ["long"] [] Pg.m_steps_of :=
  dfn_mk F sc_steps_of fun f cd A outer s H E H0 A0 ios W o hio =>
  (db_cons (ds_asg (de_var (nio hio (by decide)) rfl (.inl (by rfl))) (dg_tup rfl (dgs_cons (dg_name (nio hio (by decide)) o.nd rfl (.inl (by rfl))) (dgs_cons (dg_name (nio hio (by decide)) o.nd rfl (.inl (by rfl))) (dgs_cons (dg_name (nio hio (by decide)) o.nd rfl (.inl (by rfl))) (dgs_cons (dg_name (nio hio (by decide)) o.nd rfl (.inl (by rfl))) dgs_nil))))))
  (db_cons (ds_set (nio hio (by decide)) o.nd rfl (.inl (by rfl)) (de_op op_addD d_add (DE.o (DF.de (df_lc (own := [("item", 6)]) rfl o.nd (nios hio (by decide)) (by decide) (di_seq rfl (de_var (nio hio (by decide)) rfl (.inl (by rfl)))) (blkOk_by (N := ["long", "p", "x", "s", "y", "steps", "item"]) (sc := defScope s_steps_of) (by decide +kernel)) (fun s1 H1 C1 cl1 fp1 => (dg_name (nio hio (by decide)) (o.blk s1 H1 _ _ fp1).nd rfl (.inl (by rfl)))) (fun s1 H1 C1 cl1 fp1 => dts_nil) (fun s1 H1 C1 cl1 fp1 => (de_tup (da_cons (DE.o de_str) (da_cons (DE.o de_str) (da_cons (DE.o (de_var (nio hio (by decide)) rfl (.inl (by rfl)))) da_nil)))))))) (DE.o (DF.de (df_lc (own := [("item", 6)]) rfl o.nd (nios hio (by decide)) (by decide) (di_seq rfl (DF.de (df_rev o (do_slot rfl (.inl (by rfl)))))) (blkOk_by (N := ["long", "p", "x", "s", "y", "steps", "item"]) (sc := defScope s_steps_of) (by decide +kernel)) (fun s2 H2 C2 cl2 fp2 => (dg_name (nio hio (by decide)) (o.blk s2 H2 _ _ fp2).nd rfl (.inl (by rfl)))) (fun s2 H2 C2 cl2 fp2 => dts_nil) (fun s2 H2 C2 cl2 fp2 => (de_tup (da_cons (DE.o de_str) (da_cons (DE.o de_str) (da_cons (DE.o (de_var (nio hio (by decide)) rfl (.inl (by rfl)))) da_nil))))))))))
  (db_one (ds_retF (df_op op_addD d_cat (DE.o (de_op op_addD d_add (do_slot rfl (.inl (by rfl))) (DE.o (DF.de (df_lc (own := [("item", 6)]) rfl o.nd (nios hio (by decide)) (by decide) (di_seq rfl (DF.de (df_rev o (do_slot rfl (.inl (by rfl)))))) (blkOk_by (N := ["long", "p", "x", "s", "y", "steps", "item"]) (sc := defScope s_steps_of) (by decide +kernel)) (fun s3 H3 C3 cl3 fp3 => (dg_name (nio hio (by decide)) (o.blk s3 H3 _ _ fp3).nd rfl (.inl (by rfl)))) (fun s3 H3 C3 cl3 fp3 => dts_nil) (fun s3 H3 C3 cl3 fp3 => (de_tup (da_cons (DE.o de_str) (da_cons (DE.o de_str) (da_cons (DE.o (de_var (nio hio (by decide)) rfl (.inl (by rfl)))) da_nil)))))))))) (DE.o (DF.de (df_lc (own := [("item", 6)]) rfl o.nd (nios hio (by decide)) (by decide) (di_seq rfl (de_var (nio hio (by decide)) rfl (.inl (by rfl)))) (blkOk_by (N := ["long", "p", "x", "s", "y", "steps", "item"]) (sc := defScope s_steps_of) (by decide +kernel)) (fun s4 H4 C4 cl4 fp4 => (dg_name (nio hio (by decide)) (o.blk s4 H4 _ _ fp4).nd rfl (.inl (by rfl)))) (fun s4 H4 C4 cl4 fp4 => dts_nil) (fun s4 H4 C4 cl4 fp4 => (de_tup (da_cons (DE.o de_str) (da_cons (DE.o de_str) (da_cons (DE.o (de_var (nio hio (by decide)) rfl (.inl (by rfl)))) da_nil)))))))))))))
abbrev s_way : Stmt := (tops 21)
theorem sc_way : FnScope ["row", "goal", "found", "i", "j", "length"] ["row", "goal"] (defScope s_way) := ⟨rfl, rfl, rfl, by decide +kernel, rfl, by decide +kernel, by decide +kernel⟩
theorem wk_way {P : Program} {w : World} {K : PySem.W.Frag} {mg : Str → Option Value} {base : Heap} {T : List (Addr × Str)} (B : Bn mg) (TB : TbOk ⟨K, mg, T⟩ tbG) (F : FnAt K mg "way" "way" s_way ["row", "goal"]) (c_check_rows : CallD P w K mg base T "check_rows" 5 ["row", "goal"] [] Pg.m_check_rows) (c_longest_stretches : CallD P w K mg base T "longest_stretches" 2 ["row", "goal"] [] Pg.m_longest_stretches) (c_steps_of : CallD P w K mg base T "steps_of" 1 ["long"] [] Pg.m_steps_of) : CallD P w K mg base T "way" 6 ["row", "goal"] [] Pg.m_way :=
  dfn_mk F sc_way fun f cd A outer s H E H0 A0 ios W o hio =>
  (db_cons (ds_drop (de_own (ps := ["row", "goal"]) c_check_rows o (by decide) (by rfl) (da_cons (DE.o (de_var (nio hio (by decide)) rfl (.inl (by rfl)))) (da_cons (DE.o (de_var (nio hio (by decide)) rfl (.inl (by rfl)))) da_nil))))
  (db_cons (ds_set (nio hio (by decide)) o.nd rfl (.inl (by rfl)) (de_or rfl (de_own (ps := ["row", "goal"]) c_longest_stretches o (by decide) (by rfl) (da_cons (DE.o (de_var (nio hio (by decide)) rfl (.inl (by rfl)))) (da_cons (DE.o (de_var (nio hio (by decide)) rfl (.inl (by rfl)))) da_nil))) (de_one (DF.de (df_lst (da_cons (DE.o (de_tup (da_cons (DE.o de_int) (da_cons (DE.o de_int) (da_cons (DE.o de_int) da_nil))))) da_nil))))))
  (db_cons (ds_asg (de_ixR ix_seq d_ix (do_slot rfl (.inl (by rfl))) (DE.o de_int) (fun _ _ => rfl)) (dg_tup rfl (dgs_cons (dg_name (nio hio (by decide)) o.nd rfl (.inl (by rfl))) (dgs_cons (dg_name (nio hio (by decide)) o.nd rfl (.inl (by rfl))) (dgs_cons (dg_name (nio hio (by decide)) o.nd rfl (.inl (by rfl))) dgs_nil)))))
  (db_one (ds_retF (df_own (ps := ["long"]) c_steps_of o (by decide) (by rfl) (da_cons (DE.o (de_tup (da_cons (DE.o (de_slice sl_all d_cut (do_slot rfl (.inl (by rfl))) dp_none (dp_some (do_slot rfl (.inl (by rfl)))))) (da_cons (DE.o (de_slice sl_all d_cut (do_slot rfl (.inl (by rfl))) dp_none (dp_some (do_slot rfl (.inl (by rfl)))))) (da_cons (DE.o (de_slice sl_all d_cut (do_slot rfl (.inl (by rfl))) (dp_some (DE.o (de_op op_addD d_add (do_slot rfl (.inl (by rfl))) (do_slot rfl (.inl (by rfl)))))) dp_none)) (da_cons (DE.o (de_slice sl_all d_cut (do_slot rfl (.inl (by rfl))) (dp_some (DE.o (de_op op_addD d_add (do_slot rfl (.inl (by rfl))) (do_slot rfl (.inl (by rfl)))))) dp_none)) da_nil)))))) da_nil)))))))
abbrev s_choose : Stmt := (tops 13)
theorem sc_choose : FnScope ["many", "some", "found", "turn"] ["many", "some"] (defScope s_choose) := ⟨rfl, rfl, rfl, by decide +kernel, rfl, by decide +kernel, by decide +kernel⟩
theorem wk_choose {P : Program} {w : World} {K : PySem.W.Frag} {mg : Str → Option Value} {base : Heap} {T : List (Addr × Str)} (B : Bn mg) (TB : TbOk ⟨K, mg, T⟩ tbG) (F : FnAt K mg "choose" "choose" s_choose ["many", "some"])  : CallD P w K mg base T "choose" 1 ["many", "some"] [] Pg.m_choose :=
  dfn_mk F sc_choose fun f cd A outer s H E H0 A0 ios W o hio =>
  (db_cons (ds_set (nio hio (by decide)) o.nd rfl (.inl (by rfl)) de_int)
  (db_cons (ds_for o.pass rfl (di_rng1 (by rfl) B.range (da_cons (do_slot rfl (.inl (by rfl))) da_nil)) (dg_name (nio hio (by decide)) o.nd rfl (.inl (by rfl))) (db_one (ds_set (nio hio (by decide)) o.nd rfl (.inl (by rfl)) (de_op op_fdivW d_div (DE.o (de_op op_mulD d_mul (do_slot rfl (.inl (by rfl))) (DE.o (de_op op_sub d_sub (do_slot rfl (.inl (by rfl))) (do_slot rfl (.inl (by rfl))))))) (DE.o (de_op op_addD d_add (do_slot rfl (.inl (by rfl))) (DE.o de_int)))))))
  (db_one (ds_retVar (nio hio (by decide)) rfl (.inl (by rfl))))))
abbrev s_ways_count : Stmt := (tops 22)
theorem sc_ways_count : FnScope ["row", "goal", "total", "found", "i", "j", "length"] ["row", "goal"] (defScope s_ways_count) := ⟨rfl, rfl, rfl, by decide +kernel, rfl, by decide +kernel, by decide +kernel⟩
theorem wk_ways_count {P : Program} {w : World} {K : PySem.W.Frag} {mg : Str → Option Value} {base : Heap} {T : List (Addr × Str)} (B : Bn mg) (TB : TbOk ⟨K, mg, T⟩ tbG) (F : FnAt K mg "ways_count" "ways_count" s_ways_count ["row", "goal"]) (c_check_rows : CallD P w K mg base T "check_rows" 5 ["row", "goal"] [] Pg.m_check_rows) (c_choose : CallD P w K mg base T "choose" 1 ["many", "some"] [] Pg.m_choose) (c_gap : CallD P w K mg base T "gap" 3 ["row", "goal"] [] Pg.m_gap) (c_longest_stretches : CallD P w K mg base T "longest_stretches" 2 ["row", "goal"] [] Pg.m_longest_stretches) : CallD P w K mg base T "ways_count" 6 ["row", "goal"] [] Pg.m_ways_count :=
  dfn_mk F sc_ways_count fun f cd A outer s H E H0 A0 ios W o hio =>
  (db_cons (ds_drop (de_own (ps := ["row", "goal"]) c_check_rows o (by decide) (by rfl) (da_cons (DE.o (de_var (nio hio (by decide)) rfl (.inl (by rfl)))) (da_cons (DE.o (de_var (nio hio (by decide)) rfl (.inr (.inl (by rfl))))) da_nil))))
  (db_cons (ds_asg (de_tup (da_cons (DE.o (de_own (ps := ["row", "goal"]) c_gap o (by decide) (by rfl) (da_cons (DE.o (de_var (nio hio (by decide)) rfl (.inl (by rfl)))) (da_cons (DE.o (de_var (nio hio (by decide)) rfl (.inr (.inl (by rfl))))) da_nil)))) (da_cons (DE.o (de_own (ps := ["row", "goal"]) c_longest_stretches o (by decide) (by rfl) (da_cons (DE.o (de_var (nio hio (by decide)) rfl (.inl (by rfl)))) (da_cons (DE.o (de_var (nio hio (by decide)) rfl (.inr (.inl (by rfl))))) da_nil)))) da_nil))) (dg_tup rfl (dgs_cons (dg_name (nio hio (by decide)) o.nd rfl (.inr (by rfl))) (dgs_cons (dg_name (nio hio (by decide)) o.nd rfl (.inl (by rfl))) dgs_nil))))
  (db_cons (ds_if (dt_tru rfl (do_slot rfl (.inl (by rfl)))) (db_one (ds_ret (de_callB (cr_sum rfl) d_sum (by rfl) B.sum bt_sum (da_cons (DE.o (DF.de (df_lc (own := [("i", 4), ("j", 5), ("length", 6)]) rfl o.nd (nios hio (by decide)) (by decide) (di_seq rfl (de_var (nio hio (by decide)) rfl (.inl (by rfl)))) (blkOk_by (N := ["row", "goal", "total", "found", "i", "j", "length"]) (sc := defScope s_ways_count) (by decide +kernel)) (fun s1 H1 C1 cl1 fp1 => (dg_tup rfl (dgs_cons (dg_name (nio hio (by decide)) (o.blk s1 H1 _ _ fp1).nd rfl (.inl (by rfl))) (dgs_cons (dg_name (nio hio (by decide)) (o.blk s1 H1 _ _ fp1).nd rfl (.inl (by rfl))) (dgs_cons (dg_name (nio hio (by decide)) (o.blk s1 H1 _ _ fp1).nd rfl (.inl (by rfl))) dgs_nil))))) (fun s1 H1 C1 cl1 fp1 => dts_nil) (fun s1 H1 C1 cl1 fp1 => (de_own (ps := ["many", "some"]) c_choose (o.blk s1 H1 _ _ fp1) (by decide) (by rfl) (da_cons (DE.o (de_var (nio hio (by decide)) rfl (.inr (.inl (by rfl))))) (da_cons (DE.o (de_op op_addD d_add (do_slot rfl (.inl (by rfl))) (do_slot rfl (.inl (by rfl))))) da_nil))))))) da_nil)))) db_nil)
  (db_one (ds_ret (de_callB (cr_sum rfl) d_sum (by rfl) B.sum bt_sum (da_cons (DE.o (DF.de (df_lc2 (own := [("i", 4), ("j", 5)]) (vs1 := [5]) rfl o.nd (nios hio (by decide)) (by decide) (by decide) (by decide) (di_rng1 (by rfl) B.range (da_cons (DE.o (de_op op_addD d_add (DE.o (de_callB call_lenX d_lenX (by rfl) B.len bt_len (da_cons (do_slot rfl (.inl (by rfl))) da_nil))) (DE.o de_int))) da_nil)) (blkOk_by (N := ["row", "goal", "total", "found", "i", "j", "length"]) (sc := defScope s_ways_count) (by decide +kernel)) (fun s2 H2 C2 cl2 fp2 => (dg_name (nio hio (by decide)) (o.blk s2 H2 _ _ fp2).nd rfl (.inl (by rfl)))) (fun s2 H2 C2 cl2 fp2 => dts_nil) (fun s2 H2 C2 cl2 fp2 => (dik_rng1 (by rfl) B.range (da_cons (DE.o (de_op op_addD d_add (DE.o (de_callB call_lenX d_lenX (by rfl) B.len bt_len (da_cons (do_slot rfl (.inr (.inl (by rfl)))) da_nil))) (DE.o de_int))) da_nil))) (fun s2 H2 C2 cl2 fp2 => (dg_name (nio hio (by decide)) (o.blk s2 H2 _ _ fp2).nd rfl (.inl (by rfl)))) (fun s2 H2 C2 cl2 fp2 => dts_nil) (fun s2 H2 C2 cl2 fp2 => (de_own (ps := ["many", "some"]) c_choose (o.blk s2 H2 _ _ fp2) (by decide) (by rfl) (da_cons (DE.o (de_var (nio hio (by decide)) rfl (.inr (.inl (by rfl))))) (da_cons (DE.o (de_op op_addD d_add (do_slot rfl (.inl (by rfl))) (do_slot rfl (.inl (by rfl))))) da_nil))))))) da_nil)))))))
abbrev s_law : Stmt := (tops 30)
theorem sc_law : FnScope ["_law_script", "_law_k", "_law_pool_here", "_law_row_here", "_law_goal", "_law_kept", "_law_due", "_law_turn", "_law_found"] ["_law_script"] (defScope s_law) := ⟨rfl, rfl, rfl, by decide +kernel, rfl, by decide +kernel, by decide +kernel⟩
theorem wk_law {P : Program} {w : World} {K : PySem.W.Frag} {mg : Str → Option Value} {base : Heap} {T : List (Addr × Str)} (B : Bn mg) (TB : TbOk ⟨K, mg, T⟩ tbG) {f : Addr} {fd : FuncData} (F : Fun K "law" "law" s_law f fd) (c__law_done : CallD P w K mg base T "_law_done" 1 ["_law_row_here", "_law_deeds"] [] m__law_done) (c__law_pool : CallD P w K mg base T "_law_pool" 1 ["_law_script", "_law_k"] [] m__law_pool) (c__law_row : CallD P w K mg base T "_law_row" 2 ["_law_pool_here", "_law_most", "_law_items"] [0] m__law_row) (c__law_searched : CallD P w K mg base T "_law_searched" 2 ["_law_row_here", "_law_goal"] [] m__law_searched) (c__law_take : CallD P w K mg base T "_law_take" 1 ["_law_pool_here", "_law_many"] [0] m__law_take) (c_distance : CallD P w K mg base T "distance" 6 ["row", "goal"] [] Pg.m_distance) (c_way : CallD P w K mg base T "way" 6 ["row", "goal"] [] Pg.m_way) (c_ways_count : CallD P w K mg base T "ways_count" 6 ["row", "goal"] [] Pg.m_ways_count) : DFn P w K mg base T 21 f fd ["_law_script"] [] m_law :=
  @dfn_body P w K mg base T "law" s_law ["_law_script", "_law_k", "_law_pool_here", "_law_row_here", "_law_goal", "_law_kept", "_law_due", "_law_turn", "_law_found"] ["_law_script"] [] 20 b_law "law" f fd F sc_law (fun f cd A outer s H E H0 A0 ios W o hio =>
  (db_cons (ds_for o.pass rfl (di_rng1 (by rfl) B.range (da_cons (DE.o (de_callB (call_maxX rfl) d_max (by rfl) B.max bt_max (da_cons (DE.o de_int) (da_cons (DE.o (de_callB (call_minX rfl) d_min (by rfl) B.min bt_min (da_cons (DE.o de_int) (da_cons (DE.o (de_callB call_lenX d_lenX (by rfl) B.len bt_len (da_cons (do_slot rfl (.inl (by rfl))) da_nil))) da_nil)))) da_nil)))) da_nil)) (dg_name (nio hio (by decide)) o.nd rfl (.inl (by rfl))) (db_cons (ds_setO (nio hio (by decide)) o.nd rfl (.inl (by rfl)) (df_own (ps := ["_law_script", "_law_k"]) c__law_pool o (by decide) (by rfl) (da_cons (DE.o (de_var (nio hio (by decide)) rfl (.inl (by rfl)))) (da_cons (DE.o (de_var (nio hio (by decide)) rfl (.inl (by rfl)))) da_nil))))
  (db_cons (ds_par (nio hio (by decide)) (nio hio (by decide)) rfl o.nd rfl rfl (by decide) rfl rfl (DE.q (de_own (ps := ["_law_pool_here", "_law_most", "_law_items"]) c__law_row o (by decide) (by rfl) (da_cons (do_slot rfl (.inl (by rfl))) (da_cons (DE.o de_int) (da_cons (DE.o (DF.de (df_lst (da_cons (DE.o de_int) (da_cons (DE.o de_int) (da_cons (DE.o de_int) da_nil)))))) da_nil))))) (DE.q (de_own (ps := ["_law_pool_here", "_law_most", "_law_items"]) c__law_row o (by decide) (by rfl) (da_cons (do_slot rfl (.inl (by rfl))) (da_cons (DE.o de_int) (da_cons (DE.o (DF.de (df_lst (da_cons (DE.o de_int) (da_cons (DE.o de_int) (da_cons (DE.o de_int) da_nil)))))) da_nil))))) (by rfl))
  (db_cons (ds_if (dt_cmp (op_eqX o.units) d_eq (DE.o (de_own (ps := ["_law_pool_here", "_law_many"]) c__law_take o (by decide) (by rfl) (da_cons (do_slot rfl (.inl (by rfl))) (da_cons (DE.o de_int) da_nil)))) (DE.o de_int) (by rfl)) (db_one (ds_set (nio hio (by decide)) o.nd rfl (.inl (by rfl)) (de_ixR ix_seq d_ix (DE.o (DF.de (df_lst (da_cons (DE.o (de_slice sl_all d_cut (do_slot rfl (.inl (by rfl))) (dp_some (DE.o de_int)) dp_none)) (da_cons (DE.o (de_slice sl_all d_cut (do_slot rfl (.inl (by rfl))) dp_none (dp_some (DE.o (de_un un_neg d_neg (DE.o de_int)))))) (da_cons (DE.o (de_op op_addD d_add (DE.o (de_slice sl_all d_cut (do_slot rfl (.inl (by rfl))) (dp_some (DE.o de_int)) dp_none)) (DE.o (DF.de (df_lst (da_cons (DE.o de_int) da_nil)))))) (da_cons (DE.o (de_op op_addD d_add (DE.o (DF.de (df_lst (da_cons (DE.o de_int) da_nil)))) (DE.o (de_slice sl_all d_cut (do_slot rfl (.inl (by rfl))) dp_none (dp_some (DE.o de_int)))))) (da_cons (DE.o (DF.de (df_rev o (do_slot rfl (.inl (by rfl)))))) (da_cons (DE.o (de_var (nio hio (by decide)) rfl (.inl (by rfl)))) da_nil))))))))) (DE.o (de_own (ps := ["_law_pool_here", "_law_many"]) c__law_take o (by decide) (by rfl) (da_cons (do_slot rfl (.inl (by rfl))) (da_cons (DE.o de_int) da_nil)))) (fun _ _ => rfl)))) db_nil)
  (db_cons (ds_par (nio hio (by decide)) (nio hio (by decide)) rfl o.nd rfl rfl (by decide) rfl rfl (DE.q (de_callB (call_reprX (o.gd (by decide)) o.units) d_reprX (by rfl) B.repr bt_repr (da_cons (DE.o (DF.de (df_lst (da_cons (DE.o (de_var (nio hio (by decide)) rfl (.inl (by rfl)))) (da_cons (DE.o (de_var (nio hio (by decide)) rfl (.inl (by rfl)))) da_nil))))) da_nil))) (DE.q (de_own (ps := ["_law_row_here", "_law_goal"]) c__law_searched o (by decide) (by rfl) (da_cons (DE.o (de_var (nio hio (by decide)) rfl (.inl (by rfl)))) (da_cons (DE.o (de_var (nio hio (by decide)) rfl (.inl (by rfl)))) da_nil)))) (by rfl))
  (db_cons (ds_if (DW.t (dw_or (dt_cmp (op_neX o.units) d_ne (DE.o (DF.de (df_lst (da_cons (DE.o (de_own (ps := ["row", "goal"]) c_distance o (by decide) (by rfl) (da_cons (DE.o (de_var (nio hio (by decide)) rfl (.inl (by rfl)))) (da_cons (DE.o (de_var (nio hio (by decide)) rfl (.inl (by rfl)))) da_nil)))) (da_cons (DE.o (de_own (ps := ["row", "goal"]) c_ways_count o (by decide) (by rfl) (da_cons (DE.o (de_var (nio hio (by decide)) rfl (.inl (by rfl)))) (da_cons (DE.o (de_var (nio hio (by decide)) rfl (.inl (by rfl)))) da_nil)))) da_nil))))) (do_slot rfl (.inl (by rfl))) (by rfl)) (dw_or1 (dt_cmp (op_neX o.units) d_ne (DE.o (de_own (ps := ["row", "goal"]) c_distance o (by decide) (by rfl) (da_cons (DE.o (de_var (nio hio (by decide)) rfl (.inl (by rfl)))) (da_cons (DE.o (de_var (nio hio (by decide)) rfl (.inl (by rfl)))) da_nil)))) (DE.o (de_ixR ix_seq d_ix (do_slot rfl (.inl (by rfl))) (DE.o de_int) (fun _ _ => rfl))) (by rfl))))) (db_one (ds_ret de_bl)) db_nil)
  (db_cons (ds_for o.pass rfl (di_rng1 (by rfl) B.range (da_cons (DE.o de_int) da_nil)) (dg_name (nio hio (by decide)) o.nd rfl (.inl (by rfl))) (db_cons (ds_setO (nio hio (by decide)) o.nd rfl (.inl (by rfl)) (df_own (ps := ["row", "goal"]) c_way o (by decide) (by rfl) (da_cons (DE.o (de_var (nio hio (by decide)) rfl (.inl (by rfl)))) (da_cons (DE.o (de_var (nio hio (by decide)) rfl (.inl (by rfl)))) da_nil))))
  (db_cons (ds_if (dt_lend (hio_nil hio) (DW.t (dw_or (dt_not (dt_tru rfl (DE.o (de_callB call_isiX (d_isi TB) (by rfl) B.isinstance bt_isinstance (da_cons (do_slot rfl (.inl (by rfl))) (da_cons (DE.o (de_ty (by rfl) B.list bt_list)) da_nil)))))) (dw_or (dt_cmp (op_neX o.units) d_ne (DE.o (de_callB call_lenX d_lenX (by rfl) B.len bt_len (da_cons (do_slot rfl (.inl (by rfl))) da_nil))) (DE.o (de_ixR ix_seq d_ix (do_slot rfl (.inl (by rfl))) (DE.o de_int) (fun _ _ => rfl))) (by rfl)) (dw_or1 (dt_cmp (op_neX o.units) d_ne (DE.o (de_own (ps := ["_law_row_here", "_law_deeds"]) c__law_done o (by decide) (by rfl) (da_cons (DE.o (de_var (nio hio (by decide)) rfl (.inl (by rfl)))) (da_cons (DE.o (de_var (nio hio (by decide)) rfl (.inl (by rfl)))) da_nil)))) (do_slot rfl (.inl (by rfl))) (by rfl))))))) (db_one (ds_ret de_bl)) db_nil)
  (db_one (ds_drop (de_append rfl rfl (.inl (by rfl)) de_non))))))
  (db_one (ds_if (DW.t (dw_or (dt_cmp (op_neX o.units) d_ne (DE.o (de_callB (call_reprX (o.gd (by decide)) o.units) d_reprX (by rfl) B.repr bt_repr (da_cons (DE.o (DF.de (df_lst (da_cons (DE.o (de_var (nio hio (by decide)) rfl (.inl (by rfl)))) (da_cons (DE.o (de_var (nio hio (by decide)) rfl (.inl (by rfl)))) da_nil))))) da_nil))) (do_slot rfl (.inl (by rfl))) (by rfl)) (dw_or1 (dt_cmp (op_neX o.units) d_ne (DE.o (de_own (ps := ["row", "goal"]) c_ways_count o (by decide) (by rfl) (da_cons (DE.o (de_var (nio hio (by decide)) rfl (.inl (by rfl)))) (da_cons (DE.o (de_var (nio hio (by decide)) rfl (.inl (by rfl)))) da_nil)))) (DE.o (de_ixR ix_seq d_ix (do_slot rfl (.inl (by rfl))) (DE.o de_int) (fun _ _ => rfl))) (by rfl))))) (db_one (ds_ret de_bl)) db_nil)))))))))
  (db_one (ds_ret de_bl))))
abbrev s_ex_InvalidRow : Stmt := (clsAt (tops 2) 0)
theorem sc_ex_InvalidRow : FnScope ["self", "value"] ["self", "value"] (defScope s_ex_InvalidRow) := ⟨rfl, rfl, rfl, by decide +kernel, rfl, by decide +kernel, by decide +kernel⟩
theorem wk_ex_InvalidRow {P : Program} {w : World} {K : PySem.W.Frag} {mg : Str → Option Value} {base : Heap} {f : Addr} {fd : FuncData} (F : Fun K "__init__" "InvalidRow.__init__" s_ex_InvalidRow f fd) {D : Addr} {mc : Value} (hD : mg "RowError" = some (.ref D)) (r : ClX.CRead K D mc) (vV : PySem.W.findCls K (.ref D) mc "__init__" = some (.val (.builtin "ValueError.__init__"))) : FnOk P w K mg base (L2.CX P w) 1 f fd ["self", "value"] (spI K "ValueError" "ValueError.__new__" "ValueError.__init__" (tl_ValueError)) :=
  ok_init F sc_ex_InvalidRow fun cd A outer s H E => pss_cons (ps_expr (pe_bio exb_V (by rfl) hD r vV (pa_cons (pe_var (i := 0) rfl (.inl (by rfl))) (pa_cons (pe_var (i := 1) rfl (.inl (by rfl))) pa_nil)))) (pss_one (ps_os1 (pe_var (i := 0) rfl (.inl (by rfl))) (pe_var (i := 1) rfl (.inl (by rfl)))))
abbrev s_ex_TooMany : Stmt := (clsAt (tops 3) 0)
theorem sc_ex_TooMany : FnScope ["self", "value"] ["self", "value"] (defScope s_ex_TooMany) := ⟨rfl, rfl, rfl, by decide +kernel, rfl, by decide +kernel, by decide +kernel⟩
theorem wk_ex_TooMany {P : Program} {w : World} {K : PySem.W.Frag} {mg : Str → Option Value} {base : Heap} {f : Addr} {fd : FuncData} (F : Fun K "__init__" "TooMany.__init__" s_ex_TooMany f fd) (hD : mg "OverflowError" = none) (vV : PySem.W.findCls K (.type "OverflowError") (.type "type") "__init__" = some (.val (.builtin "OverflowError.__init__"))) : FnOk P w K mg base (L2.CX P w) 1 f fd ["self", "value"] (spI K "OverflowError" "OverflowError.__new__" "OverflowError.__init__" (tl_OverflowError)) :=
  ok_init F sc_ex_TooMany fun cd A outer s H E => pss_cons (ps_expr (pe_bi exb_O (by rfl) hD PyProof.Rows.Boot.«OverflowError» vV (pa_cons (pe_var (i := 0) rfl (.inl (by rfl))) (pa_cons (pe_var (i := 1) rfl (.inl (by rfl))) pa_nil)))) (pss_one (ps_os1 (pe_var (i := 0) rfl (.inl (by rfl))) (pe_var (i := 1) rfl (.inl (by rfl)))))
theorem all_facts {P : Program} {w : World} {K : PySem.W.Frag} {h : Heap} {mg : Str → Option Value} {fa : Addr} (X : K.In h) (G : h.Ns mainGlobals mg) (hfa : mg "law" = some (.ref fa))
  (No_Effect : PySem.W.nsIn K mainGlobals "Effect" = some none)
  (No_Yard : PySem.W.nsIn K mainGlobals "Yard" = some none)
  (No_Session : PySem.W.nsIn K mainGlobals "Session" = some none)
  {f0 : Addr} {oc0 kV0 dc0 pm0 cd0 ct0 : Value} {od0 an0 : Option Addr} {sl0 : Array (Option Value)}
  (a0 : PySem.W.nsIn K mainGlobals "_law_done" = some (some (.ref f0)))
  (l0 : K.lookup f0 = some ⟨oc0, od0, .func (PySem.W.fnOf "_law_done" "_law_done" (defArgs s__law_done) (defBody s__law_done) (defScope s__law_done) .none kV0 dc0 pm0 an0 cd0 ct0), sl0⟩)
  (c0 : PySem.W.codeIn K cd0 "_law_done" = true)
  (k0 : PySem.W.keepIn K (.ref f0) = true)
  {f1 : Addr} {oc1 kV1 dc1 pm1 cd1 ct1 : Value} {od1 an1 : Option Addr} {sl1 : Array (Option Value)}
  (a1 : PySem.W.nsIn K mainGlobals "_law_pool" = some (some (.ref f1)))
  (l1 : K.lookup f1 = some ⟨oc1, od1, .func (PySem.W.fnOf "_law_pool" "_law_pool" (defArgs s__law_pool) (defBody s__law_pool) (defScope s__law_pool) .none kV1 dc1 pm1 an1 cd1 ct1), sl1⟩)
  (c1 : PySem.W.codeIn K cd1 "_law_pool" = true)
  (k1 : PySem.W.keepIn K (.ref f1) = true)
  {f2 : Addr} {oc2 kV2 dc2 pm2 cd2 ct2 : Value} {od2 an2 : Option Addr} {sl2 : Array (Option Value)}
  (a2 : PySem.W.nsIn K mainGlobals "_law_take" = some (some (.ref f2)))
  (l2 : K.lookup f2 = some ⟨oc2, od2, .func (PySem.W.fnOf "_law_take" "_law_take" (defArgs s__law_take) (defBody s__law_take) (defScope s__law_take) .none kV2 dc2 pm2 an2 cd2 ct2), sl2⟩)
  (c2 : PySem.W.codeIn K cd2 "_law_take" = true)
  (k2 : PySem.W.keepIn K (.ref f2) = true)
  {f3 : Addr} {oc3 kV3 dc3 pm3 cd3 ct3 : Value} {od3 an3 : Option Addr} {sl3 : Array (Option Value)}
  (a3 : PySem.W.nsIn K mainGlobals "_law_row" = some (some (.ref f3)))
  (l3 : K.lookup f3 = some ⟨oc3, od3, .func (PySem.W.fnOf "_law_row" "_law_row" (defArgs s__law_row) (defBody s__law_row) (defScope s__law_row) .none kV3 dc3 pm3 an3 cd3 ct3), sl3⟩)
  (c3 : PySem.W.codeIn K cd3 "_law_row" = true)
  (k3 : PySem.W.keepIn K (.ref f3) = true)
  {f4 : Addr} {oc4 kV4 dc4 pm4 cd4 ct4 : Value} {od4 an4 : Option Addr} {sl4 : Array (Option Value)}
  (a4 : PySem.W.nsIn K mainGlobals "_law_searched" = some (some (.ref f4)))
  (l4 : K.lookup f4 = some ⟨oc4, od4, .func (PySem.W.fnOf "_law_searched" "_law_searched" (defArgs s__law_searched) (defBody s__law_searched) (defScope s__law_searched) .none kV4 dc4 pm4 an4 cd4 ct4), sl4⟩)
  (c4 : PySem.W.codeIn K cd4 "_law_searched" = true)
  (k4 : PySem.W.keepIn K (.ref f4) = true)
  {f5 : Addr} {oc5 kV5 dc5 pm5 cd5 ct5 : Value} {od5 an5 : Option Addr} {sl5 : Array (Option Value)}
  (a5 : PySem.W.nsIn K mainGlobals "is_integer" = some (some (.ref f5)))
  (l5 : K.lookup f5 = some ⟨oc5, od5, .func (PySem.W.fnOf "is_integer" "is_integer" (defArgs s_is_integer) (defBody s_is_integer) (defScope s_is_integer) .none kV5 dc5 pm5 an5 cd5 ct5), sl5⟩)
  (c5 : PySem.W.codeIn K cd5 "is_integer" = true)
  (k5 : PySem.W.keepIn K (.ref f5) = true)
  {f6 : Addr} {oc6 kV6 dc6 pm6 cd6 ct6 : Value} {od6 an6 : Option Addr} {sl6 : Array (Option Value)}
  (a6 : PySem.W.nsIn K mainGlobals "is_item" = some (some (.ref f6)))
  (l6 : K.lookup f6 = some ⟨oc6, od6, .func (PySem.W.fnOf "is_item" "is_item" (defArgs s_is_item) (defBody s_is_item) (defScope s_is_item) .none kV6 dc6 pm6 an6 cd6 ct6), sl6⟩)
  (c6 : PySem.W.codeIn K cd6 "is_item" = true)
  (k6 : PySem.W.keepIn K (.ref f6) = true)
  {f7 : Addr} {oc7 kV7 dc7 pm7 cd7 ct7 : Value} {od7 an7 : Option Addr} {sl7 : Array (Option Value)}
  (a7 : PySem.W.nsIn K mainGlobals "is_row" = some (some (.ref f7)))
  (l7 : K.lookup f7 = some ⟨oc7, od7, .func (PySem.W.fnOf "is_row" "is_row" (defArgs s_is_row) (defBody s_is_row) (defScope s_is_row) .none kV7 dc7 pm7 an7 cd7 ct7), sl7⟩)
  (c7 : PySem.W.codeIn K cd7 "is_row" = true)
  (k7 : PySem.W.keepIn K (.ref f7) = true)
  {f8 : Addr} {oc8 kV8 dc8 pm8 cd8 ct8 : Value} {od8 an8 : Option Addr} {sl8 : Array (Option Value)}
  (a8 : PySem.W.nsIn K mainGlobals "check_row" = some (some (.ref f8)))
  (l8 : K.lookup f8 = some ⟨oc8, od8, .func (PySem.W.fnOf "check_row" "check_row" (defArgs s_check_row) (defBody s_check_row) (defScope s_check_row) .none kV8 dc8 pm8 an8 cd8 ct8), sl8⟩)
  (c8 : PySem.W.codeIn K cd8 "check_row" = true)
  (k8 : PySem.W.keepIn K (.ref f8) = true)
  {f9 : Addr} {oc9 kV9 dc9 pm9 cd9 ct9 : Value} {od9 an9 : Option Addr} {sl9 : Array (Option Value)}
  (a9 : PySem.W.nsIn K mainGlobals "check_rows" = some (some (.ref f9)))
  (l9 : K.lookup f9 = some ⟨oc9, od9, .func (PySem.W.fnOf "check_rows" "check_rows" (defArgs s_check_rows) (defBody s_check_rows) (defScope s_check_rows) .none kV9 dc9 pm9 an9 cd9 ct9), sl9⟩)
  (c9 : PySem.W.codeIn K cd9 "check_rows" = true)
  (k9 : PySem.W.keepIn K (.ref f9) = true)
  {f10 : Addr} {oc10 kV10 dc10 pm10 cd10 ct10 : Value} {od10 an10 : Option Addr} {sl10 : Array (Option Value)}
  (a10 : PySem.W.nsIn K mainGlobals "common_length" = some (some (.ref f10)))
  (l10 : K.lookup f10 = some ⟨oc10, od10, .func (PySem.W.fnOf "common_length" "common_length" (defArgs s_common_length) (defBody s_common_length) (defScope s_common_length) .none kV10 dc10 pm10 an10 cd10 ct10), sl10⟩)
  (c10 : PySem.W.codeIn K cd10 "common_length" = true)
  (k10 : PySem.W.keepIn K (.ref f10) = true)
  {f11 : Addr} {oc11 kV11 dc11 pm11 cd11 ct11 : Value} {od11 an11 : Option Addr} {sl11 : Array (Option Value)}
  (a11 : PySem.W.nsIn K mainGlobals "longest_stretches" = some (some (.ref f11)))
  (l11 : K.lookup f11 = some ⟨oc11, od11, .func (PySem.W.fnOf "longest_stretches" "longest_stretches" (defArgs s_longest_stretches) (defBody s_longest_stretches) (defScope s_longest_stretches) .none kV11 dc11 pm11 an11 cd11 ct11), sl11⟩)
  (c11 : PySem.W.codeIn K cd11 "longest_stretches" = true)
  (k11 : PySem.W.keepIn K (.ref f11) = true)
  {f12 : Addr} {oc12 kV12 dc12 pm12 cd12 ct12 : Value} {od12 an12 : Option Addr} {sl12 : Array (Option Value)}
  (a12 : PySem.W.nsIn K mainGlobals "gap" = some (some (.ref f12)))
  (l12 : K.lookup f12 = some ⟨oc12, od12, .func (PySem.W.fnOf "gap" "gap" (defArgs s_gap) (defBody s_gap) (defScope s_gap) .none kV12 dc12 pm12 an12 cd12 ct12), sl12⟩)
  (c12 : PySem.W.codeIn K cd12 "gap" = true)
  (k12 : PySem.W.keepIn K (.ref f12) = true)
  {f13 : Addr} {oc13 kV13 dc13 pm13 cd13 ct13 : Value} {od13 an13 : Option Addr} {sl13 : Array (Option Value)}
  (a13 : PySem.W.nsIn K mainGlobals "distance" = some (some (.ref f13)))
  (l13 : K.lookup f13 = some ⟨oc13, od13, .func (PySem.W.fnOf "distance" "distance" (defArgs s_distance) (defBody s_distance) (defScope s_distance) .none kV13 dc13 pm13 an13 cd13 ct13), sl13⟩)
  (c13 : PySem.W.codeIn K cd13 "distance" = true)
  (k13 : PySem.W.keepIn K (.ref f13) = true)
  {f14 : Addr} {oc14 kV14 dc14 pm14 cd14 ct14 : Value} {od14 an14 : Option Addr} {sl14 : Array (Option Value)}
  (a14 : PySem.W.nsIn K mainGlobals "steps_of" = some (some (.ref f14)))
  (l14 : K.lookup f14 = some ⟨oc14, od14, .func (PySem.W.fnOf "steps_of" "steps_of" (defArgs s_steps_of) (defBody s_steps_of) (defScope s_steps_of) .none kV14 dc14 pm14 an14 cd14 ct14), sl14⟩)
  (c14 : PySem.W.codeIn K cd14 "steps_of" = true)
  (k14 : PySem.W.keepIn K (.ref f14) = true)
  {f15 : Addr} {oc15 kV15 dc15 pm15 cd15 ct15 : Value} {od15 an15 : Option Addr} {sl15 : Array (Option Value)}
  (a15 : PySem.W.nsIn K mainGlobals "way" = some (some (.ref f15)))
  (l15 : K.lookup f15 = some ⟨oc15, od15, .func (PySem.W.fnOf "way" "way" (defArgs s_way) (defBody s_way) (defScope s_way) .none kV15 dc15 pm15 an15 cd15 ct15), sl15⟩)
  (c15 : PySem.W.codeIn K cd15 "way" = true)
  (k15 : PySem.W.keepIn K (.ref f15) = true)
  {f16 : Addr} {oc16 kV16 dc16 pm16 cd16 ct16 : Value} {od16 an16 : Option Addr} {sl16 : Array (Option Value)}
  (a16 : PySem.W.nsIn K mainGlobals "choose" = some (some (.ref f16)))
  (l16 : K.lookup f16 = some ⟨oc16, od16, .func (PySem.W.fnOf "choose" "choose" (defArgs s_choose) (defBody s_choose) (defScope s_choose) .none kV16 dc16 pm16 an16 cd16 ct16), sl16⟩)
  (c16 : PySem.W.codeIn K cd16 "choose" = true)
  (k16 : PySem.W.keepIn K (.ref f16) = true)
  {f17 : Addr} {oc17 kV17 dc17 pm17 cd17 ct17 : Value} {od17 an17 : Option Addr} {sl17 : Array (Option Value)}
  (a17 : PySem.W.nsIn K mainGlobals "ways_count" = some (some (.ref f17)))
  (l17 : K.lookup f17 = some ⟨oc17, od17, .func (PySem.W.fnOf "ways_count" "ways_count" (defArgs s_ways_count) (defBody s_ways_count) (defScope s_ways_count) .none kV17 dc17 pm17 an17 cd17 ct17), sl17⟩)
  (c17 : PySem.W.codeIn K cd17 "ways_count" = true)
  (k17 : PySem.W.keepIn K (.ref f17) = true)
  {f18 : Addr} {oc18 kV18 dc18 pm18 cd18 ct18 : Value} {od18 an18 : Option Addr} {sl18 : Array (Option Value)}
  (a18 : PySem.W.nsIn K mainGlobals "law" = some (some (.ref f18)))
  (l18 : K.lookup f18 = some ⟨oc18, od18, .func (PySem.W.fnOf "law" "law" (defArgs s_law) (defBody s_law) (defScope s_law) .none kV18 dc18 pm18 an18 cd18 ct18), sl18⟩)
  (c18 : PySem.W.codeIn K cd18 "law" = true)
  (k18 : PySem.W.keepIn K (.ref f18) = true)
  {C_InvalidRow : Addr}
  (A_InvalidRow : PySem.W.nsIn K mainGlobals "InvalidRow" = some (some (.ref C_InvalidRow)))
  {nm_InvalidRow q_InvalidRow : Str} {N_InvalidRow : Addr} {bs_InvalidRow bm_InvalidRow : List Value} {sn_InvalidRow : List Str} {sub_InvalidRow : List Value} {ab_InvalidRow : Bool} {col_InvalidRow : Option Bool} {dd_InvalidRow : Option Addr} {y0_InvalidRow y1_InvalidRow y2_InvalidRow y3_InvalidRow y5_InvalidRow : Option Value}
  (X_InvalidRow : K.lookup C_InvalidRow = some (excClassObj nm_InvalidRow q_InvalidRow C_InvalidRow N_InvalidRow bs_InvalidRow bm_InvalidRow true sn_InvalidRow sub_InvalidRow ab_InvalidRow col_InvalidRow dd_InvalidRow y0_InvalidRow y1_InvalidRow y2_InvalidRow y3_InvalidRow y5_InvalidRow "ValueError.__new__"))
  (InvalidRow_sa : PySem.W.findIn K (.ref C_InvalidRow) "__setattr__" = some (some (.builtin "object.__setattr__")))
  (InvalidRow_ex : PySem.W.subIn K (.ref C_InvalidRow) (.type "BaseException") = some true)
  (InvalidRow_ty : PySem.W.typeIn K (.ref C_InvalidRow) = some (.type "type"))
  (InvalidRow_kC : PySem.W.keepIn K (.ref C_InvalidRow) = true)
  (InvalidRow_va : PySem.W.findIn K (.ref C_InvalidRow) "value" = some none)
  {fxInvalidRow : Addr} {ocxInvalidRow kVxInvalidRow dcxInvalidRow pmxInvalidRow cdxInvalidRow ctxInvalidRow : Value} {odxInvalidRow anxInvalidRow : Option Addr} {slxInvalidRow : Array (Option Value)}
  (axInvalidRow : PySem.W.findIn K (.ref C_InvalidRow) "__init__" = some (some (.ref fxInvalidRow)))
  (txInvalidRow : PySem.W.typeIn K (.ref fxInvalidRow) = some (.type "function"))
  (lxInvalidRow : K.lookup fxInvalidRow = some ⟨ocxInvalidRow, odxInvalidRow, .func (PySem.W.fnOf "__init__" "InvalidRow.__init__" (defArgs s_ex_InvalidRow) (defBody s_ex_InvalidRow) (defScope s_ex_InvalidRow) .none kVxInvalidRow dcxInvalidRow pmxInvalidRow anxInvalidRow cdxInvalidRow ctxInvalidRow), slxInvalidRow⟩)
  (cxInvalidRow : PySem.W.codeIn K cdxInvalidRow "InvalidRow.__init__" = true)
  (kxInvalidRow : PySem.W.keepIn K (.ref fxInvalidRow) = true)
  {C_RowError : Addr}
  (A_RowError : PySem.W.nsIn K mainGlobals "RowError" = some (some (.ref C_RowError)))
  (RowError_rd : PySem.W.readsIn K C_RowError (.type "type") = true)
  (RowError_ga : PySem.W.specialIn K (.ref C_RowError) "__getattribute__" = some (some (.builtin "type.__getattribute__")))
  (RowError_in : PySem.W.findCls K (.ref C_RowError) (.type "type") "__init__" = some (.val (.builtin "ValueError.__init__")))
  {C_TooMany : Addr}
  (A_TooMany : PySem.W.nsIn K mainGlobals "TooMany" = some (some (.ref C_TooMany)))
  {nm_TooMany q_TooMany : Str} {N_TooMany : Addr} {bs_TooMany bm_TooMany : List Value} {sn_TooMany : List Str} {sub_TooMany : List Value} {ab_TooMany : Bool} {col_TooMany : Option Bool} {dd_TooMany : Option Addr} {y0_TooMany y1_TooMany y2_TooMany y3_TooMany y5_TooMany : Option Value}
  (X_TooMany : K.lookup C_TooMany = some (excClassObj nm_TooMany q_TooMany C_TooMany N_TooMany bs_TooMany bm_TooMany true sn_TooMany sub_TooMany ab_TooMany col_TooMany dd_TooMany y0_TooMany y1_TooMany y2_TooMany y3_TooMany y5_TooMany "OverflowError.__new__"))
  (TooMany_sa : PySem.W.findIn K (.ref C_TooMany) "__setattr__" = some (some (.builtin "object.__setattr__")))
  (TooMany_ex : PySem.W.subIn K (.ref C_TooMany) (.type "BaseException") = some true)
  (TooMany_ty : PySem.W.typeIn K (.ref C_TooMany) = some (.type "type"))
  (TooMany_kC : PySem.W.keepIn K (.ref C_TooMany) = true)
  (TooMany_va : PySem.W.findIn K (.ref C_TooMany) "value" = some none)
  {fxTooMany : Addr} {ocxTooMany kVxTooMany dcxTooMany pmxTooMany cdxTooMany ctxTooMany : Value} {odxTooMany anxTooMany : Option Addr} {slxTooMany : Array (Option Value)}
  (axTooMany : PySem.W.findIn K (.ref C_TooMany) "__init__" = some (some (.ref fxTooMany)))
  (txTooMany : PySem.W.typeIn K (.ref fxTooMany) = some (.type "function"))
  (lxTooMany : K.lookup fxTooMany = some ⟨ocxTooMany, odxTooMany, .func (PySem.W.fnOf "__init__" "TooMany.__init__" (defArgs s_ex_TooMany) (defBody s_ex_TooMany) (defScope s_ex_TooMany) .none kVxTooMany dcxTooMany pmxTooMany anxTooMany cdxTooMany ctxTooMany), slxTooMany⟩)
  (cxTooMany : PySem.W.codeIn K cdxTooMany "TooMany.__init__" = true)
  (kxTooMany : PySem.W.keepIn K (.ref fxTooMany) = true)
  (N_TooManyB : PySem.W.nsIn K mainGlobals "OverflowError" = some none)
  (V_TooManyB : PySem.W.findCls K (.type "OverflowError") (.type "type") "__init__" = some (.val (.builtin "OverflowError.__init__")))
  {tk0 : Tok}
  (g0 : PySem.W.nsIn K mainGlobals "MOST_ITEMS" = some (some (.int 200 tk0)))
  {tk1 : Tok}
  (g1 : PySem.W.nsIn K mainGlobals "MOST_MOVED" = some (some (.int 40 tk1)))
  (z0 : PySem.W.nsIn K mainGlobals "isinstance" = some none)
  (z1 : PySem.W.nsIn K mainGlobals "len" = some none)
  (z2 : PySem.W.nsIn K mainGlobals "all" = some none)
  (z3 : PySem.W.nsIn K mainGlobals "any" = some none)
  (z4 : PySem.W.nsIn K mainGlobals "max" = some none)
  (z5 : PySem.W.nsIn K mainGlobals "min" = some none)
  (z6 : PySem.W.nsIn K mainGlobals "sum" = some none)
  (z7 : PySem.W.nsIn K mainGlobals "abs" = some none)
  (z8 : PySem.W.nsIn K mainGlobals "range" = some none)
  (z9 : PySem.W.nsIn K mainGlobals "enumerate" = some none)
  (z10 : PySem.W.nsIn K mainGlobals "zip" = some none)
  (z11 : PySem.W.nsIn K mainGlobals "repr" = some none)
  (z12 : PySem.W.nsIn K mainGlobals "sorted" = some none)
  (z13 : PySem.W.nsIn K mainGlobals "int" = some none)
  (z14 : PySem.W.nsIn K mainGlobals "bool" = some none)
  (z15 : PySem.W.nsIn K mainGlobals "str" = some none)
  (z16 : PySem.W.nsIn K mainGlobals "list" = some none)
  (z17 : PySem.W.nsIn K mainGlobals "tuple" = some none)
  (z18 : PySem.W.nsIn K mainGlobals "dict" = some none)
  (z19 : PySem.W.nsIn K mainGlobals "set" = some none)
  (R_InvalidRow : DLE.refsT tl_ValueError bm_InvalidRow = true)
  (R_TooMany : DLE.refsT tl_OverflowError bm_TooMany = true) :
  ∃ (fd : FuncData) (cs : List (Addr × Addr)) (T : List (Addr × Str)), (∀ p ∈ cs, h.get? p.2 = some { cls := .none, data := .fields #[] }) ∧ (∀ p ∈ cs, K.lookup p.2 = none) ∧ (∀ p ∈ cs, PySem.W.CodeHd h p.1 p.2) ∧ (∀ t ∈ T, ∃ p ∈ cs, p.2 = t.1) ∧ (∀ (s : Shared) (u : Value), BindsTo s fd ⟨[u], []⟩ [("_law_script", u)]) ∧ ∀ base : Heap, K.In base → base.Ns mainGlobals mg → (∀ p ∈ cs, LamX.TabB base mg p.1 p.2) → DFn P w K mg base T 21 fa fd ["_law_script"] [] m_law := by
  have e := hfa.symm.trans (PySem.W.mg_of X G a18)
  cases e
  have B : Bn mg := bn_mk X G z0 z1 z2 z3 z4 z5 z6 z7 z8 z9 z10 z11 z12 z13 z14 z15 z16 z17 z18 z19
  refine ⟨PySem.W.fnOf "law" "law" (defArgs s_law) (defBody s_law) (defScope s_law) .none kV18 dc18 pm18 an18 cd18 ct18, [], [], fun _ h => (nomatch h), fun _ h => (nomatch h), fun _ h => (nomatch h), fun _ h => (nomatch h), fun s v => .of_eq rfl, fun base _ _ TBs => ?_⟩
  have TB : TbOk ⟨K, mg, []⟩ tbG := tb_ok (.inr (PySem.W.mg_none_of X G No_Effect)) (.inr (PySem.W.mg_none_of X G No_Yard)) (.inr (PySem.W.mg_none_of X G No_Session)) (fun C E _ h => nomatch (h.symm.trans (PySem.W.mg_none_of X G No_Session) : some _ = none))
  have E_InvalidRow : ExD P w K mg base "InvalidRow" := ⟨_, _, _, _, _, _, _, PySem.W.mg_of X G A_InvalidRow, ⟨exb_V, ⟨_, _, _, _, _, _, _, _, _, _, _, _, _, _, _, X_InvalidRow, R_InvalidRow⟩, InvalidRow_sa, InvalidRow_ex, InvalidRow_ty, InvalidRow_kC⟩, InvalidRow_va, axInvalidRow, txInvalidRow, (fun_mk lxInvalidRow cxInvalidRow kxInvalidRow).binds (fun _ _ _ _ _ _ us hl => match us, hl with | [_, _], _ => rfl), wk_ex_InvalidRow (fun_mk lxInvalidRow cxInvalidRow kxInvalidRow) (PySem.W.mg_of X G A_RowError) ⟨RowError_rd, RowError_ga⟩ RowError_in⟩
  have E_TooMany : ExD P w K mg base "TooMany" := ⟨_, _, _, _, _, _, _, PySem.W.mg_of X G A_TooMany, ⟨exb_O, ⟨_, _, _, _, _, _, _, _, _, _, _, _, _, _, _, X_TooMany, R_TooMany⟩, TooMany_sa, TooMany_ex, TooMany_ty, TooMany_kC⟩, TooMany_va, axTooMany, txTooMany, (fun_mk lxTooMany cxTooMany kxTooMany).binds (fun _ _ _ _ _ _ us hl => match us, hl with | [_, _], _ => rfl), wk_ex_TooMany (fun_mk lxTooMany cxTooMany kxTooMany) (PySem.W.mg_none_of X G N_TooManyB) V_TooManyB⟩
  have C_f__law_done := wk__law_done (P := P) (w := w) (base := base) B TB (fnat_mk X G a0 l0 c0 k0 fun _ _ _ _ _ _ us hl => match us, hl with | [_, _], _ => rfl) 
  have C_f__law_pool := wk__law_pool (P := P) (w := w) (base := base) B TB (fnat_mk X G a1 l1 c1 k1 fun _ _ _ _ _ _ us hl => match us, hl with | [_, _], _ => rfl) 
  have C_f__law_take := wk__law_take (P := P) (w := w) (base := base) B TB (fnat_mk X G a2 l2 c2 k2 fun _ _ _ _ _ _ us hl => match us, hl with | [_, _], _ => rfl) 
  have C_f__law_row := wk__law_row (P := P) (w := w) (base := base) B TB (fnat_mk X G a3 l3 c3 k3 fun _ _ _ _ _ _ us hl => match us, hl with | [_, _, _], _ => rfl) C_f__law_take
  have C_f__law_searched := wk__law_searched (P := P) (w := w) (base := base) B TB (fnat_mk X G a4 l4 c4 k4 fun _ _ _ _ _ _ us hl => match us, hl with | [_, _], _ => rfl) C_f__law_done
  have C_f_is_integer := wk_is_integer (P := P) (w := w) (base := base) B TB (fnat_mk X G a5 l5 c5 k5 fun _ _ _ _ _ _ us hl => match us, hl with | [_], _ => rfl) 
  have C_f_is_item := wk_is_item (P := P) (w := w) (base := base) B TB (fnat_mk X G a6 l6 c6 k6 fun _ _ _ _ _ _ us hl => match us, hl with | [_], _ => rfl) C_f_is_integer
  have C_f_is_row := wk_is_row (P := P) (w := w) (base := base) B TB (fnat_mk X G a7 l7 c7 k7 fun _ _ _ _ _ _ us hl => match us, hl with | [_], _ => rfl) C_f_is_item
  have C_f_check_row := wk_check_row (P := P) (w := w) (base := base) B TB (fnat_mk X G a8 l8 c8 k8 fun _ _ _ _ _ _ us hl => match us, hl with | [_], _ => rfl) C_f_is_row ⟨_, PySem.W.mg_of X G g0⟩ E_InvalidRow
  have C_f_check_rows := wk_check_rows (P := P) (w := w) (base := base) B TB (fnat_mk X G a9 l9 c9 k9 fun _ _ _ _ _ _ us hl => match us, hl with | [_, _], _ => rfl) C_f_check_row ⟨_, PySem.W.mg_of X G g1⟩ E_TooMany
  have C_f_common_length := wk_common_length (P := P) (w := w) (base := base) B TB (fnat_mk X G a10 l10 c10 k10 fun _ _ _ _ _ _ us hl => match us, hl with | [_, _, _, _], _ => rfl) 
  have C_f_longest_stretches := wk_longest_stretches (P := P) (w := w) (base := base) B TB (fnat_mk X G a11 l11 c11 k11 fun _ _ _ _ _ _ us hl => match us, hl with | [_, _], _ => rfl) C_f_common_length
  have C_f_gap := wk_gap (P := P) (w := w) (base := base) B TB (fnat_mk X G a12 l12 c12 k12 fun _ _ _ _ _ _ us hl => match us, hl with | [_, _], _ => rfl) C_f_longest_stretches
  have C_f_distance := wk_distance (P := P) (w := w) (base := base) B TB (fnat_mk X G a13 l13 c13 k13 fun _ _ _ _ _ _ us hl => match us, hl with | [_, _], _ => rfl) C_f_check_rows C_f_gap
  have C_f_steps_of := wk_steps_of (P := P) (w := w) (base := base) B TB (fnat_mk X G a14 l14 c14 k14 fun _ _ _ _ _ _ us hl => match us, hl with | [_], _ => rfl) 
  have C_f_way := wk_way (P := P) (w := w) (base := base) B TB (fnat_mk X G a15 l15 c15 k15 fun _ _ _ _ _ _ us hl => match us, hl with | [_, _], _ => rfl) C_f_check_rows C_f_longest_stretches C_f_steps_of
  have C_f_choose := wk_choose (P := P) (w := w) (base := base) B TB (fnat_mk X G a16 l16 c16 k16 fun _ _ _ _ _ _ us hl => match us, hl with | [_, _], _ => rfl) 
  have C_f_ways_count := wk_ways_count (P := P) (w := w) (base := base) B TB (fnat_mk X G a17 l17 c17 k17 fun _ _ _ _ _ _ us hl => match us, hl with | [_, _], _ => rfl) C_f_check_rows C_f_choose C_f_gap C_f_longest_stretches
  exact wk_law B TB (fun_mk l18 c18 k18) C_f__law_done C_f__law_pool C_f__law_row C_f__law_searched C_f__law_take C_f_distance C_f_way C_f_ways_count
end Tk45

namespace Tk45
open PySem L2 DL
theorem integer_ok {n : Int} : wpR (Pg.m_is_integer [.int n]) (K := ⟨Is (.bl true), noF⟩) := by
  unfold Pg.m_is_integer Pg.b_is_integer
  rw [wpR_def]
  simp [startD]
  exact ⟨rfl, rfl⟩
theorem item_ok {n : Int} : wpR (Pg.m_is_item [.int n]) (K := ⟨Is (.bl (decide (0 ≤ n))), noF⟩) := by
  unfold Pg.m_is_item Pg.b_is_item
  rw [wpR_def]
  simp [startD]
  refine wpR_use integer_ok ?_
  rintro d fr es ⟨rfl, rfl⟩
  simp
  exact ⟨rfl, rfl⟩
theorem row_ok {xs : List Int} (h : Nn xs) (hl : xs.length ≤ lim) : wpR (Pg.m_is_row [rowD xs]) (K := ⟨Is (.bl true), noF⟩) := by
  unfold Pg.m_is_row Pg.b_is_row
  rw [wpR_def]
  simp [startD]
  refine wp_turns_mapA (fun _ => .bl true) (fun n hn => ?_) ?_
  · simp
    refine wpR_use item_ok ?_
    rintro d fr es ⟨rfl, rfl⟩
    simp [h n hn]
  · have e : (xs.all fun _ => true) = true := by simp
    simp [hl, bls_mapA (f := fun _ : Int => true), e]
    exact ⟨rfl, rfl⟩
theorem steps_of_ok {p x s y : List Int} (h : p.length ≤ 1000 ∧ x.length ≤ 1000 ∧ s.length ≤ 1000 ∧ y.length ≤ 1000) : wpR (Pg.m_steps_of [longD (some (p, x, s, y))]) (K := ⟨IsF (stpsD (stepsOf p x s y)), noF⟩) := by
  unfold Pg.m_steps_of Pg.b_steps_of longD
  rw [wpR_def]
  have h3 : 3 ≤ lim := by decide
  obtain ⟨h1, h2, h4, h5⟩ := h
  have cv : ∀ {xs : List Int} {a b : Bool}, D.lst (xs.map fun n => stD ⟨a, b, n⟩) = stpsD (xs.map (Stp.mk a b)) := by
    intro xs a b; simp [stpsD, Function.comp_def]
  simp [startD, -List.map_reverse]
  refine wp_turns_mapA (fun n => stD ⟨false, true, n⟩) (fun n hn => ?_) ?_
  · simp [h3]; rfl
  have q1 : p.length ≤ lim := by unfold lim; omega
  simp [q1, cv, -List.map_reverse]
  refine wp_turns_mapA (fun n => stD ⟨true, true, n⟩) (fun n hn => ?_) ?_
  · simp [h3]; rfl
  have q2 : x.length ≤ lim := by unfold lim; omega
  have q3 : p.length + x.length ≤ lim := by unfold lim; omega
  simp [q2, q3, cv, -List.map_reverse]
  refine wp_turns_mapA (fun n => stD ⟨false, false, n⟩) (fun n hn => ?_) ?_
  · simp [h3]; rfl
  have q4 : s.length ≤ lim := by unfold lim; omega
  have q5 : p.length + x.length + s.length ≤ lim := by unfold lim; omega
  have q5' : p.length + (x.length + s.length) ≤ lim := by unfold lim; omega
  simp [q4, q5, q5', cv, -List.map_reverse]
  refine wp_turns_mapA (fun n => stD ⟨true, false, n⟩) (fun n hn => ?_) ?_
  · simp [h3]; rfl
  have q6 : y.length ≤ lim := by unfold lim; omega
  have q7 : p.length + x.length + s.length + y.length ≤ lim := by unfold lim; omega
  have q7' : p.length + (x.length + (s.length + y.length)) ≤ lim := by unfold lim; omega
  have q8 : p.length + (x.length + s.length) + y.length ≤ lim := by unfold lim; omega
  simp [q6, q7, q7', q8, cv, -List.map_reverse]
  simp [stepsOf, -List.map_reverse]
  exact ⟨rfl, rfl, rfl⟩
/-- what is_item says -/
def itB : D → Bool
  | .int n => decide (0 ≤ n)
  | _ => false
def flat : D → Bool
  | .non | .bl _ | .int _ | .str _ => true
  | _ => false
theorem integer_flat {x : D} (h : flat x = true) : wpR (Pg.m_is_integer [x]) (K := ⟨Is (.bl (match x with | .int _ => true | _ => false)), noF⟩) := by
  unfold Pg.m_is_integer Pg.b_is_integer
  rw [wpR_def]
  cases x <;> first
    | (cases h; done)
    | (simp [startD]; exact ⟨rfl, rfl⟩)
theorem item_flat {x : D} (h : flat x = true) : wpR (Pg.m_is_item [x]) (K := ⟨Is (.bl (itB x)), noF⟩) := by
  unfold Pg.m_is_item Pg.b_is_item
  rw [wpR_def]
  simp [startD]
  refine wpR_use (integer_flat h) ?_
  rintro d fr es ⟨rfl, rfl⟩
  cases x <;> first
    | (cases h; done)
    | (simp [itB]; exact ⟨rfl, rfl⟩)
theorem row_flat {xs : List D} (h : ∀ x ∈ xs, flat x = true) (hl : xs.length ≤ lim) : wpR (Pg.m_is_row [.lst xs]) (K := ⟨Is (.bl (xs.all itB)), noF⟩) := by
  unfold Pg.m_is_row Pg.b_is_row
  rw [wpR_def]
  simp [startD]
  have e0 : xs = xs.map fun x => x := by simp
  conv => lhs; rw [e0]
  refine wp_turns_mapA (cv := fun x => x) (fun x => .bl (itB x)) (fun x hx => ?_) ?_
  · simp
    refine wpR_use (item_flat (h x hx)) ?_
    rintro d fr es ⟨rfl, rfl⟩
    simp
  · simp [hl, bls_mapA (f := itB)]
    exact ⟨rfl, rfl⟩
/-- not a list, not an object -/
def offL : D → Bool
  | .non | .bl _ | .int _ | .str _ | .tup _ | .dct _ => true
  | _ => false
theorem row_no {x : D} (h : offL x = true) : wpR (Pg.m_is_row [x]) (K := ⟨Is (.bl false), noF⟩) := by
  unfold Pg.m_is_row Pg.b_is_row
  rw [wpR_def]
  cases x <;> first
    | (cases h; done)
    | (simp [startD]; exact ⟨rfl, rfl⟩)
theorem check_row_ok {r : List Int} (h : Nn r) (hl : r.length ≤ 200) : wpR (Pg.m_check_row [rowD r]) (K := ⟨Is .non, noF⟩) := by
  unfold Pg.m_check_row Pg.b_check_row Pg.x_check_row_1
  rw [wpR_def]
  have c : ¬ (200 : Int) < r.length := by omega
  simp [startD]
  refine wpR_use (row_ok h (by unfold lim; omega)) ?_
  rintro _ fr es ⟨rfl, rfl⟩
  simp [c]
  exact ⟨rfl, rfl⟩

theorem check_rows_ok {a b : List Int} (ha : Nn a) (hb : Nn b) (h1 : a.length ≤ 40) (h2 : b.length ≤ 40) : wpR (Pg.m_check_rows [rowD a, rowD b]) (K := ⟨Is .non, noF⟩) := by
  unfold Pg.m_check_rows Pg.b_check_rows Pg.x_check_rows_1
  rw [wpR_def]
  simp [startD]
  refine wpR_use (check_row_ok ha (by omega)) ?_
  rintro _ fr es ⟨rfl, rfl⟩
  simp
  refine wpR_use (check_row_ok hb (by omega)) ?_
  rintro _ fr es ⟨rfl, rfl⟩
  simp
  exact ⟨by split <;> omega, rfl, rfl⟩
theorem drop_at {a : List Int} {n : Nat} (h : n < a.length) : a.drop n = a[n] :: a.drop (n + 1) := List.drop_eq_getElem_cons h
def ClI (a b : List Int) (i j : Nat) (k : Nat) (Δ : SD) : Prop := ∃ l : Nat, Δ = [.sh (rowD a), .sh (rowD b), .sh (.int (i : Nat)), .sh (.int (j : Nat)), .sh (.int (l : Nat))] ∧ l + cpl (a.drop (i + l)) (b.drop (j + l)) = cpl (a.drop i) (b.drop j) ∧ k = a.length - (i + l)
theorem cpl_cons {x y : Int} {a b : List Int} : cpl (x :: a) (y :: b) = if x = y then cpl a b + 1 else 0 := rfl
theorem cpl_nil_r {a : List Int} : cpl a [] = 0 := by cases a <;> rfl
theorem common_length_ok {a b : List Int} {i j : Nat} (ha : a.length ≤ 900) : wpR (Pg.m_common_length [rowD a, rowD b, .int (i : Nat), .int (j : Nat)]) (K := ⟨Is (.int (cpl (a.drop i) (b.drop j) : Nat)), noF⟩) := by
  unfold Pg.m_common_length Pg.b_common_length
  generalize hx : Pg.x_common_length_1 = x1
  rw [wpR_def]
  simp [startD]
  subst hx
  unfold Pg.x_common_length_1
  refine wp_while (ClI a b i j) (n := 1000) (k := a.length - (i + 0)) (by omega) ⟨0, rfl, by simp, rfl⟩ ?_
  rintro k Δ ⟨l, rfl, hl, hk⟩
  have e1 : ((i : Int) + (l : Int)) = ((i + l : Nat) : Int) := by omega
  have e2 : ((j : Int) + (l : Int)) = ((j + l : Nat) : Int) := by omega
  simp
  by_cases c1 : i + l < a.length
  · have c1' : (i : Int) + l < a.length := by omega
    simp [c1']
    by_cases c2 : j + l < b.length
    · have c2' : (j : Int) + l < b.length := by omega
      have d1 := atI_nat c1
      have d2 := atI_nat c2
      simp only [Int.natCast_add] at d1 d2
      simp [c2', d1, d2]
      rw [drop_at c1, drop_at c2, cpl_cons] at hl
      by_cases c3 : a[i + l] = b[j + l]
      · simp [c3] at hl ⊢
        exact ⟨a.length - (i + (l + 1)), by omega, l + 1, by simp, by
          have x1 : i + (l + 1) = i + l + 1 := by omega
          have x2 : j + (l + 1) = j + l + 1 := by omega
          rw [x1, x2]; omega, rfl⟩
      · simp [c3] at hl ⊢
        rw [← hl]
        exact ⟨rfl, rfl⟩
    · have c2' : ¬ (j : Int) + l < b.length := by omega
      simp [c2']
      rw [List.drop_eq_nil_of_le (by omega : b.length ≤ j + l), cpl_nil_r] at hl
      rw [← hl]
      exact ⟨rfl, rfl⟩
  · have c1' : ¬ (i : Int) + l < a.length := by omega
    simp [c1']
    rw [List.drop_eq_nil_of_le (by omega : a.length ≤ i + l)] at hl
    simp [cpl] at hl
    rw [← hl]
    exact ⟨rfl, rfl⟩
def strD (q : Nat × Nat × Nat) : D := .tup [.int (q.1 : Nat), .int (q.2.1 : Nat), .int (q.2.2 : Nat)]
def strI (a b : List Int) (i n : Nat) : List (Nat × Nat × Nat) := (List.range n).map fun j => (i, j, cpl (a.drop i) (b.drop j))
def LsJ (a b : List Int) (n : Nat) (Δ : SD) : Prop := ∃ s3 s4 acc, Δ = [.sh (rowD a), .sh (rowD b), .ow (.lst (acc.map strD)), s3, s4, .un, .un, .un] ∧ acc = (List.range n).flatMap fun i => strI a b i b.length
def LsI (a b : List Int) (i n : Nat) (Δ : SD) : Prop := ∃ s4 acc, Δ = [.sh (rowD a), .sh (rowD b), .ow (.lst (acc.map strD)), .sh (.int (i : Nat)), s4, .un, .un, .un] ∧ acc = ((List.range i).flatMap fun i => strI a b i b.length) ++ strI a b i n
theorem strI_succ {a b : List Int} {i n : Nat} : strI a b i (n + 1) = strI a b i n ++ [(i, n, cpl (a.drop i) (b.drop n))] := by
  unfold strI; rw [List.range_succ, List.map_append]; rfl
theorem strI_len {a b : List Int} {i n : Nat} : (strI a b i n).length = n := by simp [strI]
theorem sts_len {a b : List Int} {n : Nat} : ((List.range n).flatMap fun i => strI a b i b.length).length = n * b.length := by
  induction n with
  | zero => simp
  | succ n ih => rw [List.range_succ, List.flatMap_append, List.length_append, ih]; simp [strI_len, Nat.succ_mul]
theorem maxI_lcs {l : List (Nat × Nat × Nat)} : (maxI (l.map fun q => ((q.2.2 : Nat) : Int))).getD 0 = (((l.map fun q => q.2.2).foldl max 0 : Nat) : Int) := by
  obtain ⟨h1, h2, h3⟩ := foldl_max (l := l.map fun q => q.2.2) (n := 0)
  cases e : maxI (l.map fun q => ((q.2.2 : Nat) : Int)) with
  | none =>
    cases l with
    | nil => rfl
    | cons q l => cases e
  | some m =>
    obtain ⟨m1, m2⟩ := maxI_is e
    obtain ⟨q, hq, rfl⟩ := List.mem_map.mp m1
    have a1 := h2 q.2.2 (List.mem_map.mpr ⟨q, hq, rfl⟩)
    show ((q.2.2 : Nat) : Int) = _
    rcases h3 with h3 | h3
    · omega
    · obtain ⟨q', hq', e'⟩ := List.mem_map.mp h3
      have := m2 ((q'.2.2 : Nat) : Int) (List.mem_map.mpr ⟨q', hq', rfl⟩)
      omega
theorem longest_stretches_ok {a b : List Int} (ha : a.length ≤ 200) (hb : b.length ≤ 200) : wpR (Pg.m_longest_stretches [rowD a, rowD b]) (K := ⟨IsF (.lst ((longS a b).map strD)), noF⟩) := by
  have hm : ∀ n, n ≤ 200 → n * b.length ≤ 40000 := fun n hn => Nat.le_trans (Nat.mul_le_mul hn hb) (by omega)
  unfold Pg.m_longest_stretches Pg.b_longest_stretches Pg.x_longest_stretches_2
  rw [wpR_def]
  have l0 : (0 : Nat) ≤ lim := by decide
  have l3 : (3 : Nat) ≤ lim := by decide
  simp [startD, l0]
  refine ⟨by omega, wp_for_ints (LsJ a b) ⟨_, _, [], rfl, rfl⟩ ?_ ?_⟩
  · rintro i Δ hi ⟨s3, s4, acc, rfl, ha0⟩
    unfold Pg.x_longest_stretches_1
    simp
    refine ⟨by omega, wp_for_ints (LsI a b i) ⟨s4, acc, by simp, by simpa [strI] using ha0⟩ ?_ ?_⟩
    · rintro j Δ hj ⟨s4, acc, rfl, ha1⟩
      simp
      refine wpR_use (common_length_ok (by omega)) ?_
      rintro _ fr es ⟨rfl, rfl⟩
      have ll : acc.length < lim := by
        rw [ha1, List.length_append, sts_len, strI_len]
        have := hm i (by omega)
        unfold lim; omega
      simp [l3, ll]
      exact ⟨.sh (.int (j : Nat)), acc ++ [(i, j, cpl (a.drop i) (b.drop j))], by simp [strD], by rw [ha1, strI_succ, List.append_assoc]⟩
    · rintro Δ ⟨s4, acc, rfl, ha1⟩
      simp
      exact ⟨_, _, acc, rfl, by rw [ha1, List.range_succ, List.flatMap_append]; simp⟩
  · rintro Δ ⟨s3, s4, acc, rfl, es⟩
    have es : acc = sts a b := es
    have el : (sts a b).length ≤ lim := by
      have := sts_len (a := a) (b := b) (n := a.length)
      have e2 : ((List.range a.length).flatMap fun i => strI a b i b.length) = sts a b := rfl
      rw [← e2, this]
      have := hm a.length ha
      unfold lim; omega
    rw [es]
    simp
    refine wp_turns_mapA (fun q : Nat × Nat × Nat => D.int (q.2.2 : Nat)) (fun q hq => ?_) ?_
    · simp [strD]
    · have e1 : dInts ((sts a b).map fun q => D.int (q.2.2 : Nat)) = some ((sts a b).map fun q => ((q.2.2 : Nat) : Int)) := by
        have e0 : ((sts a b).map fun q => D.int (q.2.2 : Nat)) = ((sts a b).map fun q => ((q.2.2 : Nat) : Int)).map D.int := by rw [List.map_map]; rfl
        rw [e0]; exact dInts_map
      have e2 : (maxI ((sts a b).map fun q => ((q.2.2 : Nat) : Int))).getD 0 = (lcs a b : Nat) := maxI_lcs
      simp [el, e1, e2]
      refine wp_turns_filtA (fun q : Nat × Nat × Nat => decide (q.2.2 = lcs a b) && decide (0 < lcs a b)) strD (fun q hq => ?_) ?_
      · by_cases c1 : q.2.2 = lcs a b
        · by_cases c2 : 0 < lcs a b
          · have c2' : (0 : Int) < (lcs a b : Nat) := by omega
            simp [strD, c1, c2, c2']
          · have c2' : ¬ (0 : Int) < (lcs a b : Nat) := by omega
            simp [strD, c1, c2, c2']
        · have c1' : ¬ ((q.2.2 : Nat) : Int) = (lcs a b : Nat) := by omega
          simp [strD, c1, c1']
      · have e3 : ((sts a b).filter fun q => decide (q.2.2 = lcs a b) && decide (0 < lcs a b)) = longS a b := rfl
        have e4 : (longS a b).length ≤ lim := Nat.le_trans (List.length_filter_le _ _) el
        simp [e3, e4]
        exact ⟨rfl, rfl, rfl⟩
theorem gap_ok {a b : List Int} (ha : a.length ≤ 200) (hb : b.length ≤ 200) : wpR (Pg.m_gap [rowD a, rowD b]) (K := ⟨Is (.int (dst a b)), noF⟩) := by
  unfold Pg.m_gap Pg.b_gap
  rw [wpR_def]
  simp [startD]
  refine wpR_use (longest_stretches_ok ha hb) ?_
  rintro _ fr es ⟨rfl, rfl, rfl⟩
  have hw := way1_ok (a := a) (b := b)
  cases e : longS a b with
  | nil =>
    have := longS_ne.mp e
    simp
    unfold dst
    rw [this]
    exact ⟨by simp, rfl⟩
  | cons q qs =>
    unfold way1 at hw
    rw [e] at hw
    have h1 := hw.1
    simp only [List.headD_cons] at h1
    simp [strD]
    rw [h1]
    refine ⟨?_, ?_⟩
    · exact bits_small (.inl (by omega))
    · exact ⟨rfl, rfl⟩
theorem distance_ok {a b : List Int} (ha : Nn a) (hb : Nn b) (h1 : a.length ≤ 40) (h2 : b.length ≤ 40) : wpR (Pg.m_distance [rowD a, rowD b]) (K := ⟨Is (.int (dst a b)), noF⟩) := by
  unfold Pg.m_distance Pg.b_distance
  rw [wpR_def]
  simp [startD]
  refine wpR_use (check_rows_ok ha hb h1 h2) ?_
  rintro _ fr es ⟨rfl, rfl⟩
  simp
  refine wpR_use (gap_ok (by omega) (by omega)) ?_
  rintro _ fr es ⟨rfl, rfl⟩
  simp
  exact ⟨rfl, rfl⟩
theorem cut_to {a : List Int} {n : Nat} (h : n ≤ a.length) : dCut (rowD a) none (some (n : Nat)) = some (rowD (a.take n)) := by simp
theorem cut_from {a : List Int} {n : Nat} (h : n ≤ a.length) : dCut (rowD a) (some (n : Nat)) none = some (rowD (a.drop n)) := by simp
theorem way_ok {a b : List Int} (ha : Nn a) (hb : Nn b) (h1 : a.length ≤ 40) (h2 : b.length ≤ 40) : wpR (Pg.m_way [rowD a, rowD b]) (K := ⟨IsF (stpsD (wayS a b)), noF⟩) := by
  unfold Pg.m_way Pg.b_way
  rw [wpR_def]
  have l1 : (1 : Nat) ≤ lim := by decide
  have l3 : (3 : Nat) ≤ lim := by decide
  have l4 : (4 : Nat) ≤ lim := by decide
  simp [startD]
  refine wpR_use (check_rows_ok ha hb h1 h2) ?_
  rintro _ fr es ⟨rfl, rfl⟩
  simp
  refine wpR_use (longest_stretches_ok (by omega) (by omega)) ?_
  rintro _ fr es ⟨rfl, rfl, rfl⟩
  obtain ⟨w1, w2, w3, w4⟩ := way1_ok (a := a) (b := b)
  have fin : ∀ i j l : Nat, (way1 a b) = (i, j, l) → wpR (Pg.m_steps_of [.tup [rowD (a.take i), rowD (b.take j), rowD (a.drop (i + l)), rowD (b.drop (j + l))]]) (K := ⟨IsF (stpsD (wayS a b)), noF⟩) := fun i j l e => by
    have := steps_of_ok (p := a.take i) (x := b.take j) (s := a.drop (i + l)) (y := b.drop (j + l)) ⟨by simp; omega, by simp; omega, by simp; omega, by simp; omega⟩
    unfold wayS
    rw [e]
    exact this
  have main : ∀ i j l : Nat, (way1 a b) = (i, j, l) → True := fun _ _ _ _ => trivial
  cases e : longS a b with
  | nil =>
    have ew : way1 a b = (0, 0, 0) := by unfold way1; rw [e]; rfl
    have f := fin 0 0 0 ew
    have z1 : ∀ r : List Int, cutG r none (some 0) = [] := fun r => cutG_to (n := 0)
    have z2 : ∀ r : List Int, cutG r (some 0) none = r := fun r => cutG_from (n := 0)
    simp only [List.take_zero, List.drop_zero, Nat.add_zero] at f
    simp [l1, l3, l4, z1, z2]
    refine wpR_use f ?_
    rintro _ fr es ⟨rfl, rfl, rfl⟩
    simp
    exact ⟨rfl, rfl, rfl⟩
  | cons q qs =>
    obtain ⟨i, j, l⟩ := q
    have ew : way1 a b = (i, j, l) := by unfold way1; rw [e]; rfl
    rw [ew] at w1 w2 w3 w4
    dsimp only at w1 w2 w3 w4
    have f := fin i j l ew
    have c1 := cut_to (a := a) (n := i) (by omega)
    have c2 := cut_to (a := b) (n := j) (by omega)
    have c3 := cut_from (a := a) (n := i + l) (by omega)
    have c4 := cut_from (a := b) (n := j + l) (by omega)
    simp only [Int.natCast_add, dCut_row, Option.some.injEq] at c3 c4
    simp [strD, l1, l3, l4, c3, c4]
    refine wpR_use f ?_
    rintro _ fr es ⟨rfl, rfl, rfl⟩
    simp
    exact ⟨rfl, rfl, rfl⟩
theorem two_lim : 2 ≤ lim := by decide
def ChI (t k : Nat) (i : Nat) (Δ : SD) : Prop := ∃ s3, Δ = [.sh (.int (t : Nat)), .sh (.int (k : Nat)), .sh (.int (chs t i : Nat)), s3]
theorem choose_ok {t k : Nat} (hk : k ≤ t) (ht : t ≤ 100) : wpR (Pg.m_choose [.int t, .int k]) (K := ⟨Is (.int (chs t k : Nat)), noF⟩) := by
  unfold Pg.m_choose Pg.b_choose Pg.x_choose_1
  rw [wpR_def]
  simp [startD]
  refine ⟨by omega, wp_for_ints (ChI t k) ⟨_, by rw [chs_0]; rfl⟩ ?_ ?_⟩
  · rintro i Δ hi ⟨s3, rfl⟩
    simp
    refine ⟨bits_small (.inr (by omega)), div_ok (by omega) (by omega), .sh (.int i), ?_⟩
    rw [chs_step (by omega)]
  · rintro Δ ⟨s3, rfl⟩
    simp
    exact ⟨rfl, rfl⟩
theorem sum_ints {α : Type} {f : α → Nat} : ∀ {l : List α}, (l.map fun x => ((f x : Nat) : Int)).sum = ((l.map f).sum : Nat)
  | [] => rfl
  | x :: l => by
    rw [List.map_cons, List.map_cons, List.sum_cons, List.sum_cons, sum_ints, Int.natCast_add]
theorem ways_count_ok {a b : List Int} (ha : Nn a) (hb : Nn b) (h1 : a.length ≤ 40) (h2 : b.length ≤ 40) : wpR (Pg.m_ways_count [rowD a, rowD b]) (K := ⟨Is (.int (waysN a b : Nat)), noF⟩) := by
  unfold Pg.m_ways_count Pg.b_ways_count
  rw [wpR_def]
  simp [startD]
  refine wpR_use (check_rows_ok ha hb h1 h2) ?_
  rintro _ fr es ⟨rfl, rfl⟩
  simp
  refine wpR_use (gap_ok (by omega) (by omega)) ?_
  rintro _ fr es ⟨rfl, rfl⟩
  simp
  refine wpR_use (longest_stretches_ok (by omega) (by omega)) ?_
  rintro _ fr es ⟨rfl, rfl, rfl⟩
  simp [two_lim]
  unfold Pg.x_ways_count_1
  simp
  have bnd : ∀ {i j : Nat}, i + j ≤ tot a b → wpR (Pg.m_choose [.int (dst a b), .int ((i : Nat) + (j : Nat) : Int)]) (K := ⟨Is (.int (chs (tot a b) (i + j) : Nat)), noF⟩) := fun {i j} h => by
    have ht : tot a b ≤ 100 := by unfold tot; omega
    have q := choose_ok h ht
    rw [Int.natCast_add] at q
    rw [tot_dst]
    exact q
  have fin : ∀ {α : Type} {l : List α} {f : α → Nat}, dInts (l.map fun x => D.int (f x : Nat)) = some (l.map fun x => ((f x : Nat) : Int)) := fun {α l f} => by
    have e : (l.map fun x => D.int (f x : Nat)) = (l.map fun x => ((f x : Nat) : Int)).map D.int := by rw [List.map_map]; rfl
    rw [e]; exact dInts_map
  have le : ∀ {q : Nat × Nat × Nat}, q ∈ longS a b → q.1 + q.2.1 ≤ tot a b := fun {q} hq => by
    unfold longS at hq
    rw [List.mem_filter] at hq
    obtain ⟨m1, m2⟩ := hq
    simp only [Bool.and_eq_true, decide_eq_true_eq] at m2
    have s := str_in m1
    unfold tot
    omega
  by_cases h : longS a b = []
  · rw [if_pos h]
    have z := longS_ne.mp h
    refine ⟨by omega, ?_⟩
    have ei : ∀ n, DL.intsFrom 0 n = (List.range n).map fun i => D.int ((0 : Int) + (i : Nat)) := fun n => rfl
    rw [ei]
    refine wp_turns2_mapA (fun i => (List.range (b.length + 1)).map fun j => D.int (chs (tot a b) (i + j) : Nat)) (fun i hi => ?_) ?_
    · have hi := List.mem_range.mp hi
      simp
      refine ⟨by omega, ?_⟩
      rw [ei]
      refine wp_turns_mapA (fun j => D.int (chs (tot a b) (i + j) : Nat)) (fun j hj => ?_) ?_
      · have hj := List.mem_range.mp hj
        simp
        refine wpR_use (bnd (i := i) (j := j) (by unfold tot; omega)) ?_
        rintro _ fr es ⟨rfl, rfl⟩
        simp
      · simp
    · have ef : ((List.range (a.length + 1)).flatMap fun i => (List.range (b.length + 1)).map fun j => D.int (chs (tot a b) (i + j) : Nat)) = (((List.range (a.length + 1)).flatMap fun i => (List.range (b.length + 1)).map fun j => chs (tot a b) (i + j)).map fun n : Nat => D.int (n : Nat)) := by
        rw [List.map_flatMap]
        simp only [List.map_map]
        rfl
      rw [ef]
      have el : (((List.range (a.length + 1)).flatMap fun i => (List.range (b.length + 1)).map fun j => chs (tot a b) (i + j))).length ≤ lim := by
        rw [flat_len (m := b.length + 1) fun i => by simp]
        have := Nat.mul_le_mul (show a.length + 1 ≤ 41 by omega) (show b.length + 1 ≤ 41 by omega)
        unfold lim; omega
      have ew : waysN a b = ((List.range (a.length + 1)).flatMap fun i => (List.range (b.length + 1)).map fun j => chs (tot a b) (i + j)).sum := by unfold waysN; rw [if_pos h]
      rw [ew]
      generalize ((List.range (a.length + 1)).flatMap fun i => (List.range (b.length + 1)).map fun j => chs (tot a b) (i + j)) = L at *
      have fin2 : dInts (L.map fun n => D.int (n : Nat)) = some (L.map fun n => ((n : Nat) : Int)) := fin (f := fun n => n)
      have s2 : (L.map fun n => ((n : Nat) : Int)).sum = (L.sum : Nat) := by
        have := sum_ints (f := fun n : Nat => n) (l := L)
        rw [List.map_id'] at this
        exact this
      refine ⟨by rw [List.length_map]; exact el, ?_⟩
      simp [fin2, s2]
      exact ⟨rfl, rfl⟩
  · rw [if_neg h]
    refine wp_turns_mapA (fun q : Nat × Nat × Nat => D.int (chs (tot a b) (q.1 + q.2.1) : Nat)) (fun q hq => ?_) ?_
    · simp [strD]
      refine wpR_use (bnd (le hq)) ?_
      rintro _ fr es ⟨rfl, rfl⟩
      simp
    · have el : (longS a b).length ≤ lim := by
        refine Nat.le_trans (List.length_filter_le _ _) ?_
        unfold sts
        rw [flat_len (m := b.length) fun i => by simp]
        have := Nat.mul_le_mul h1 h2
        unfold lim; omega
      simp [fin, el]
      exact ⟨by rw [sum_ints]; unfold waysN; rw [if_neg h], rfl⟩
def PoolD (a b : Int) : D := .lst [.int a, .int b]
def PO (b : Int) : Prop := 0 ≤ b ∧ b < 2147483648
def IsPool (d : D) : Prop := ∃ a b, d = PoolD a b ∧ PO b
def TakeR (s : Int) (d : D) (fr : Bool) (es : List D) : Prop := ∃ r p, d = .int r ∧ es = [p] ∧ 0 ≤ r ∧ r < s ∧ IsPool p
theorem take_ok {p : D} {s : Int} (hp : IsPool p) (hs : 0 < s) (hs2 : s < 10 ^ 30) : wpR (m__law_take [p, .int s]) (K := ⟨TakeR s, noF⟩) := by
  obtain ⟨a, b, rfl, h0, h1⟩ := hp
  unfold m__law_take b__law_take x__law_take_1 PoolD
  rw [wpR_def]
  simp [startD]
  split
  · exact ⟨hs, div_ok hs (by omega), _, _, rfl, rfl, Int.emod_nonneg _ (by omega), Int.emod_lt_of_pos _ hs, _, _, rfl, h0, h1⟩
  · have e := Int.emod_nonneg (b * 48271 + 11) (b := 2147483647) (by omega)
    have e2 := Int.emod_lt_of_pos (b * 48271 + 11) (b := 2147483647) (by omega)
    exact ⟨bits_ok (by omega) (by omega), bits_ok (by omega) (by omega), div_ok (by omega) (by omega), hs, _, _, rfl, rfl, Int.emod_nonneg _ (by omega), Int.emod_lt_of_pos _ hs, _, _, rfl, e, by omega⟩
theorem take_ok2 {p : D} {s : Nat} (hp : IsPool p) (hs : 0 < s) (hs2 : s < 10 ^ 30) : wpR (m__law_take [p, .int s]) (K := ⟨TakeR s, noF⟩) := take_ok hp (by omega) (by omega)
def PoolR (d : D) (fr : Bool) (es : List D) : Prop := IsPool d ∧ fr = true ∧ es = []
theorem pool_ok {ns : List Int} {k : Nat} (hk : k < 100) : wpR (m__law_pool [.scr ns, .int k]) (K := ⟨PoolR, noF⟩) := by
  unfold m__law_pool b__law_pool x__law_pool_1
  rw [wpR_def]
  simp [startD]
  have fin : ∀ c : Int, ∀ s : Int, IsPool (.lst [.int c, .int (s % 2147483647)]) := fun c s => by
    have e := Int.emod_nonneg s (b := 2147483647) (by omega)
    have e2 := Int.emod_lt_of_pos s (b := 2147483647) (by omega)
    exact ⟨_, _, rfl, by constructor <;> omega⟩
  have hb1 : bitsOk 7919 k = true := bits_ok (by omega) (by omega)
  have hb2 : bitsOk (7919 * k) k = true := bits_ok (by omega) (by omega)
  have nl : ∀ c : Int, 0 ≤ c → c < 2147483629 → bitsOk (c + 7919 * k * k + 13) 48271 = true := fun c h0 h1 => bits_small (.inr (by omega))
  split
  · rename_i hk2
    rw [atI_nat hk2]
    simp
    generalize ns[k] = c
    have hz : ∃ z : Int, (if c < 0 then -c else c) = z ∧ 0 ≤ z := by
      split
      · exact ⟨-c, rfl, by omega⟩
      · exact ⟨c, rfl, by omega⟩
    obtain ⟨z, ez, hz⟩ := hz
    rw [ez]
    have c0 := Int.emod_nonneg z (b := 2147483629) (by omega)
    have c1 := Int.emod_lt_of_pos z (b := 2147483629) (by omega)
    refine ⟨hb1, hb2, nl _ c0 c1, bits_small (.inr ?_), two_lim, fin _ _, rfl, rfl⟩
    split <;> omega
  · have q := nl 0 (by omega) (by omega)
    rw [Int.zero_add] at q
    exact ⟨hb1, hb2, q, bits_small (.inl (by omega)), two_lim, fin _ _, rfl, rfl⟩
theorem ends2 {r : Int} (h0 : 0 ≤ r) (h1 : r < 2) : ∃ w, atI [D.str "left", D.str "right"] r = some (.str (eD w)) := by
  have : r = 0 ∨ r = 1 := by omega
  rcases this with rfl | rfl
  · exact ⟨true, atI_0⟩
  · exact ⟨false, atI_1⟩
theorem its_at {its : List Int} {r : Int} (h0 : 0 ≤ r) (h1 : r < its.length) : ∃ x, atI (its.map D.int) r = some (.int x) ∧ x ∈ its := by
  obtain ⟨j, rfl⟩ := Int.eq_ofNat_of_zero_le h0
  have hj : j < its.length := by simpa using h1
  refine ⟨its[j], ?_, List.getElem_mem hj⟩
  have e := atI_nat (xs := its.map D.int) (n := j) (by simpa using hj)
  simpa using e
def DoI (r0 : List Int) (ss : List Stp) (rest : List D) (Δ : SD) : Prop := ∃ rs r s2 s3 s4, rest = rs.map stD ∧ Δ = [.sh (rowD r), .sh (stpsD ss), s2, s3, s4] ∧ runS r rs = runS r0 ss ∧ r.length + rs.length ≤ 100000
theorem done_ok {r : List Int} {ss : List Stp} (hl : r.length + ss.length ≤ 100000) : wpR (m__law_done [rowD r, stpsD ss]) (K := ⟨Is (rowO (runS r ss)), noF⟩) := by
  unfold m__law_done b__law_done x__law_done_3 x__law_done_2 x__law_done_1
  rw [wpR_def]
  simp [startD]
  refine wp_for_inv (DoI r ss) ⟨ss, r, _, _, _, rfl, rfl, rfl, hl⟩ ?_ ?_
  · rintro d rest Δ ⟨rs, r1, s2, s3, s4, e, rfl, hr, hl⟩
    cases rs with
    | nil => cases e
    | cons s rs =>
    cases e
    simp only [List.length_cons] at hl
    obtain ⟨p, l, n⟩ := s
    have l1 : (1 : Nat) ≤ lim := by decide
    have l0 : (0 : Nat) ≤ lim := by decide
    have lb : r1.length + 1 ≤ lim := by unfold lim; omega
    have lb2 : 1 + r1.length ≤ lim := by unfold lim; omega
    rw [runS] at hr
    cases p <;> cases l
    · rcases List.eq_nil_or_concat r1 with rfl | ⟨r2, x, rfl⟩
      · simp [stD, stepped, rNil] at hr ⊢
        rw [← hr]
        exact ⟨rfl, rfl⟩
      · simp [stD, stepped, two_lim, atI_endx, cutG_endx, rNil] at hr hl ⊢
        by_cases h : x = n
        · simp [h] at hr ⊢
          exact ⟨rs, r2, _, _, _, rfl, rfl, hr, by omega⟩
        · simp [h] at hr ⊢
          rw [← hr]
          exact ⟨rfl, rfl⟩
    · cases r1 with
      | nil =>
        simp [stD, stepped, rNil] at hr ⊢
        rw [← hr]
        exact ⟨rfl, rfl⟩
      | cons x xs =>
        simp [stD, stepped, two_lim, rNil] at hr hl ⊢
        by_cases h : x = n
        · simp [h] at hr ⊢
          exact ⟨rs, xs, _, _, _, rfl, rfl, hr, by omega⟩
        · simp [h] at hr ⊢
          rw [← hr]
          exact ⟨rfl, rfl⟩
    · simp [stD, stepped, l1, lb, rOne] at hr ⊢
      exact ⟨rs, _, _, _, _, rfl, rfl, hr, by simp; omega⟩
    · simp [stD, stepped, l1, lb2, rOne] at hr ⊢
      exact ⟨rs, _, _, _, _, rfl, rfl, hr, by simp; omega⟩
  · rintro Δ ⟨rs, r1, s2, s3, s4, e, rfl, hr, hl⟩
    cases rs with
    | cons s rs => cases e
    | nil =>
    simp
    rw [← hr]
    exact ⟨rfl, rfl⟩
def RowR (m : Nat) (its : List Int) (d : D) (fr : Bool) (es : List D) : Prop := ∃ xs p, d = rowD xs ∧ fr = true ∧ es = [p] ∧ IsPool p ∧ xs.length ≤ m ∧ ∀ x ∈ xs, x ∈ its
def RwI (m : D) (its : List Int) (i : Nat) (acc : List D) (Δ : SD) : Prop := ∃ (p : D) (xs : List Int), Δ = [.ow p, .sh m, .sh (rowD its), .un] ∧ IsPool p ∧ acc = xs.map D.int ∧ xs.length = i ∧ ∀ x ∈ xs, x ∈ its
theorem rows_ok {p : D} {m : Nat} {its : List Int} (hp : IsPool p) (hm : m ≤ 1000) (hi : 0 < its.length) (hi2 : its.length < 1000) : wpR (m__law_row [p, .int m, rowD its]) (K := ⟨RowR m its, noF⟩) := by
  unfold m__law_row b__law_row
  rw [wpR_def]
  simp [startD]
  refine wpR_use (take_ok hp (by omega) (by omega)) ?_
  rintro d fr es ⟨r, p1, rfl, rfl, h0, h1, hp1⟩
  simp
  refine ⟨by omega, wp_turns_inv (RwI (.int m) its) ⟨_, [], rfl, hp1, rfl, rfl, fun _ h => (nomatch h)⟩ ?_ ?_⟩
  · rintro i d acc Δ hd ⟨p, xs, rfl, hp, rfl, hl, hn⟩
    simp
    refine wpR_use (take_ok2 hp hi (by omega)) ?_
    rintro d fr es ⟨r, p1, rfl, rfl, a0, a1, hp1⟩
    obtain ⟨x, ex, hx⟩ := its_at a0 a1
    simp [rowD, ex]
    exact ⟨_, xs ++ [x], rfl, hp1, by simp, by simp [hl], fun y hy => by
      rcases List.mem_append.mp hy with q | q
      · exact hn y q
      · rw [List.mem_singleton] at q; subst q; exact hx⟩
  · rintro acc Δ ⟨p, xs, rfl, hp, rfl, hl, hn⟩
    rw [intsFrom_length] at hl
    have ll : xs.length ≤ lim := by unfold lim; omega
    simp [ll]
    exact ⟨xs, p, rfl, rfl, rfl, hp, by omega, hn⟩
end Tk45
-- use: PL1 PL2 PL3 PL4 PL5 PL21 PL22 PL23 PL24 PL25 | PS1 PS2 PS3 PS4 PS5 PS23 LB1
namespace Tk45
open PySem L2 DL
@[simp] theorem wp_keysE {Δ : SD} {P : List D → SD → Prop} {E : EX} {f : M D} : wp (mKeysE f) Δ (K := ⟨P, E⟩) = wp f Δ (K := ⟨fun d Δ1 => wp (mOpt (dKeysN d)) Δ1 (K := ⟨P, E⟩), E⟩) := by
  unfold mKeysE
  rw [wp_bind]
def layD (L : Lay) : D := emb kdI D.int L
def seenD (S : Sn) : D := emb kdI (fun _ => D.bl true) S
theorem keys_lay {L : Lay} : dKeysN (layD L) = some ((L.map Prod.fst).map kdI) := by
  unfold layD emb
  show some ((L.map fun p => (kdI p.1, D.int p.2)).map Prod.fst) = _
  rw [List.map_map, List.map_map]; rfl
theorem tup_row {a : List Int} : dTuple [rowD a] = some (kdI a) := rfl
theorem list_row {a : List Int} : dListN [kdI a] = some (rowD a) := rfl
theorem notIn_lay {L : Lay} {a : List Int} : dNotInN (kdI a) (layD L) = some (.bl (!(atA L a).isSome)) := by
  unfold dNotInN layD emb
  simp only [keyI.nt, Option.map_some, atN_emb keyI, Option.isSome_map]
theorem notIn_seen {S : Sn} {a : List Int} : dNotInN (kdI a) (seenD S) = some (.bl (!(atA S a).isSome)) := by
  unfold dNotInN seenD emb
  have e := atN_emb keyI (kv := fun _ : Unit => D.bl true) a S
  simp only [keyI.nt, Option.map_some, e, Option.isSome_map]
theorem ix_lay {L : Lay} {a : List Int} : dNx (layD L) (kdI a) = (atA L a).map D.int := by
  unfold layD
  rw [dNx_emb keyI]
theorem get_lay {L : Lay} {a : List Int} : dGetN (layD L) (kdI a) (.int 0) = some (.int ((atA L a).getD 0)) := by
  unfold layD
  rw [dGetN_emb keyI]
  cases atA L a <;> rfl
theorem put_lay {L : Lay} {a : List Int} {v : Int} (h : L.length < lim) : putND (layD L) (kdI a) (.int v) = some (layD (putA L a v)) := by
  unfold layD
  exact putND_emb keyI h a v
theorem put_seen {S : Sn} {a : List Int} (h : S.length < lim) : putND (seenD S) (kdI a) (.bl true) = some (seenD (putA S a ())) := by
  unfold seenD
  exact putND_emb keyI (kv := fun _ : Unit => D.bl true) h a ()
theorem isN_lay {L : Lay} : isN (layD L) = some () := rfl
theorem one_step {s : Stp} : D.lst [stD s] = stpsD [s] := rfl
def KeyB {β : Type} (L : List (List Int × β)) : Prop := (L.map Prod.fst).Nodup ∧ ∀ x ∈ L.map Prod.fst, In3 x ∧ x.length ≤ 6
theorem KeyB.lt {β : Type} {L : List (List Int × β)} (h : KeyB L) : L.length < lim := by
  have := keys_len h.1 h.2
  unfold lim; omega
theorem KeyB.stepL {S : Sn} {p : List Int} {c : Int} {L : Lay} {s : Stp} (h : KeyB L) (hp : In3 p) (hs : s ∈ stps3) : KeyB (stepL S p c L s) := by
  refine ⟨stepL_nodup h.1, fun x hx => ?_⟩
  rcases stepL_mem hx with hx | ⟨e, k⟩
  · exact h.2 x hx
  · unfold okSn at k
    simp only [Bool.and_eq_true, decide_eq_true_eq] at k
    exact ⟨stepped_in (stps3_n hs).1 hp e, k.1⟩
/-- what the search's slots hold -/
abbrev SS (r g : List Int) (L : Lay) (S : Sn) (n : Nat) (s3 s7 s8 s9 s10 : SC) : SD := [.sh (rowD r), .sh (rowD g), .sh (stpsD stps3), s3, .sh (layD L), .ow (seenD S), .sh (.int n), s7, s8, s9, s10]
def StI (r g p : List Int) (L : Lay) (S : Sn) (n : Nat) (s3 : SC) (F : Lay) (rest : List D) (Δ : SD) : Prop := ∃ (ss : List Stp) (M : Lay) (s9 s10 : SC), rest = ss.map stD ∧ (∀ s ∈ ss, s ∈ stps3) ∧ KeyB M ∧ ss.foldl (stepL S p ((atA L p).getD 0)) M = F ∧ Δ = SS r g L S n s3 (.ow (layD M)) (.sh (kdI p)) s9 s10
theorem turn_ok {r g p : List Int} {L M : Lay} {S : Sn} {n : Nat} {s3 s9 s10 : SC} (hp : In3 p) (hl : p.length ≤ 6) (hm : p ∈ L.map Prod.fst) (hM : KeyB M) {P : Fl → SD → Prop} {E : EX}
    (fin : KeyB (presL S L M p) → ∀ s9 s10, P .nx (SS r g L S n s3 (.ow (layD (presL S L M p))) (.sh (kdI p)) s9 s10)) :
    wp x__law_searched_3 (SS r g L S n s3 (.ow (layD M)) (.sh (kdI p)) s9 s10) (K := ⟨P, E⟩) := by
  unfold x__law_searched_3
  have e12 : dItems (stpsD stps3) = some (stps3.map stD) := rfl
  obtain ⟨c, hc⟩ := Option.isSome_iff_exists.mp (atA_keys.mpr hm)
  simp [e12]
  refine wp_for_inv (StI r g p L S n s3 (presL S L M p)) ⟨stps3, M, _, _, rfl, fun _ h => h, hM, rfl, rfl⟩ ?_ ?_
  · rintro d rest Δ ⟨ss, M, s9, s10, e, hs, hM, hf, rfl⟩
    cases ss with
    | nil => cases e
    | cons s ss =>
    cases e
    have h1 := hs s (List.mem_cons_self ..)
    have h2 : ∀ s ∈ ss, s ∈ stps3 := fun x hx => hs x (List.mem_cons_of_mem _ hx)
    have hM2 := KeyB.stepL (S := S) (c := (atA L p).getD 0) hM hp h1
    rw [List.foldl_cons] at hf
    have l1 : 1 ≤ lim := by decide
    simp [list_row, one_step, l1]
    refine wpR_use (done_ok (r := p) (ss := [s]) (by simp; omega)) ?_
    rintro _ fr es ⟨rfl, rfl⟩
    have er : runS p [s] = stepped p s := by
      rw [runS]
      cases stepped p s <;> rfl
    rw [er]
    unfold x__law_searched_2
    unfold stepL at hM2 hf
    cases eq : stepped p s with
    | none =>
      simp only [eq] at hM2 hf
      simp [rowO]
      exact ⟨ss, M, _, _, rfl, h2, hM, hf, rfl⟩
    | some q =>
      simp only [eq] at hM2 hf
      unfold okSn at hM2 hf
      simp [rowO, tup_row, notIn_seen]
      by_cases c1 : q.length ≤ 6
      · have c1' : (q.length : Int) ≤ 6 := by omega
        cases c2 : atA S q with
        | some u =>
          simp only [c2, Option.isSome_some, Bool.not_true, Bool.and_false] at hM2 hf
          simp [c1', c2]
          exact ⟨ss, M, _, _, rfl, h2, hM, hf, rfl⟩
        | none =>
          simp only [c2, Option.isSome_none, Bool.not_false, Bool.and_true, decide_eq_true c1, if_true] at hM2 hf
          simp [c1', c2, tup_row, isN_lay, get_lay, ix_lay, hc, put_lay hM.lt]
          refine ⟨ss, _, .sh (stD s), .sh (rowD q), rfl, h2, hM2, hf, ?_⟩
          unfold addL
          rw [hc]
          rfl
      · have c1' : ¬ (q.length : Int) ≤ 6 := by omega
        simp only [decide_eq_false c1, Bool.false_and] at hM2 hf
        simp [c1']
        exact ⟨ss, M, _, _, rfl, h2, hM, hf, rfl⟩
  · rintro Δ ⟨ss, M, s9, s10, e, hs, hM, hf, rfl⟩
    cases ss with
    | cons _ _ => cases e
    | nil =>
    have hf : M = _ := hf
    subst hf
    exact fin hM _ _
def PrI (r g : List Int) (L : Lay) (S : Sn) (n : Nat) (s3 : SC) (F : Lay) (rest : List D) (Δ : SD) : Prop := ∃ (ps : List (List Int)) (M : Lay) (s8 s9 s10 : SC), rest = ps.map kdI ∧ (∀ p ∈ ps, p ∈ L.map Prod.fst) ∧ KeyB M ∧ ps.foldl (presL S L) M = F ∧ Δ = SS r g L S n s3 (.ow (layD M)) s8 s9 s10
theorem layer_ok {r g : List Int} {L : Lay} {S : Sn} {n : Nat} {s3 s8 s9 s10 : SC} (hL : KeyB L) {P : Fl → SD → Prop} {E : EX}
    (fin : KeyB (levL S L) → ∀ s8 s9 s10, P .nx (SS r g L S n s3 (.ow (layD (levL S L))) s8 s9 s10)) :
    wp x__law_searched_4 (SS r g L S n s3 (.ow (layD [])) s8 s9 s10) (K := ⟨P, E⟩) := by
  unfold x__law_searched_4
  simp [keys_lay, -List.map_map]
  refine wp_for_inv (PrI r g L S n s3 (levL S L)) ⟨L.map Prod.fst, [], _, _, _, rfl, fun _ h => h, ⟨by simp, by simp⟩, rfl, rfl⟩ ?_ ?_
  · rintro d rest Δ ⟨ps, M, s8, s9, s10, e, hs, hM, hf, rfl⟩
    cases ps with
    | nil => cases e
    | cons p ps =>
    cases e
    have h1 := hs p (List.mem_cons_self ..)
    rw [wp_tg1]
    refine ⟨by simp, ?_⟩
    refine turn_ok (hL.2 p h1).1 (hL.2 p h1).2 h1 hM fun k s9 s10 => ?_
    exact ⟨ps, _, _, _, _, rfl, fun x hx => hs x (List.mem_cons_of_mem _ hx), k, hf, rfl⟩
  · rintro Δ ⟨ps, M, s8, s9, s10, e, hs, hM, hf, rfl⟩
    cases ps with
    | cons _ _ => cases e
    | nil =>
    have hf : M = _ := hf
    subst hf
    exact fin hM _ _ _
def SeI (r g : List Int) (L M : Lay) (n : Nat) (s3 s8 s9 : SC) (F : Sn) (rest : List D) (Δ : SD) : Prop := ∃ (ps : List (List Int)) (S : Sn) (s10 : SC), rest = ps.map kdI ∧ (∀ p ∈ ps, p ∈ M.map Prod.fst) ∧ KeyB S ∧ seenL S ps = F ∧ Δ = SS r g L S n s3 (.sh (layD M)) s8 s9 s10
theorem seen_ok {r g : List Int} {L M : Lay} {S : Sn} {n : Nat} {s3 s8 s9 s10 : SC} (hM : KeyB M) (hS : KeyB S) {P : Fl → SD → Prop} {E : EX}
    (fin : ∀ s10, P .nx (SS r g L (seenL S (M.map Prod.fst)) n s3 (.sh (layD M)) s8 s9 s10)) :
    wp x__law_searched_5 (SS r g L S n s3 (.ow (layD M)) s8 s9 s10) (K := ⟨P, E⟩) := by
  unfold x__law_searched_5
  simp [keys_lay, -List.map_map]
  refine wp_for_inv (SeI r g L M n s3 s8 s9 (seenL S (M.map Prod.fst))) ⟨M.map Prod.fst, S, _, rfl, fun _ h => h, hS, rfl, rfl⟩ ?_ ?_
  · rintro d rest Δ ⟨ps, S, s10, e, hs, hS, hf, rfl⟩
    cases ps with
    | nil => cases e
    | cons p ps =>
    cases e
    have h1 := hs p (List.mem_cons_self ..)
    simp [put_seen hS.lt]
    refine ⟨ps, putA S p (), _, rfl, fun x hx => hs x (List.mem_cons_of_mem _ hx), ⟨putA_nodup hS.1, fun x hx => ?_⟩, hf, rfl⟩
    rcases putA_mem.mp hx with hx | hx
    · exact hS.2 x hx
    · rw [hx]; exact hM.2 p h1
  · rintro Δ ⟨ps, S, s10, e, hs, hS, hf, rfl⟩
    cases ps with
    | cons _ _ => cases e
    | nil =>
    have hf : S = _ := hf
    subst hf
    exact fin _
def WhI (r g : List Int) (k : Nat) (Δ : SD) : Prop := ∃ (n : Nat) (s3 s7 s8 s9 s10 : SC), n ≤ tot r g ∧ k = tot r g - n ∧ Δ = SS r g (bf r n).1 (bf r n).2 n s3 s7 s8 s9 s10
def DeI (r g : List Int) (rest : List D) (Δ : SD) : Prop := ∃ (as bs : List Int) (s3 : SC), steps3 = as ++ bs ∧ rest = bs.map D.int ∧ Δ = [.sh (rowD r), .sh (rowD g), .sh (stpsD (as.flatMap fun a => [⟨true, true, a⟩, ⟨true, false, a⟩, ⟨false, true, a⟩, ⟨false, false, a⟩])), s3, .un, .un, .un, .un, .un, .un, .un]
theorem searched_ok {r g : List Int} (hr : In3 r) (hg : In3 g) (lr : r.length ≤ 3) (lg : g.length ≤ 3) : wpR (m__law_searched [rowD r, rowD g]) (K := ⟨IsF (.lst [.int (tot r g : Nat), .int (waysN r g : Nat)]), noF⟩) := by
  unfold m__law_searched b__law_searched x__law_searched_1
  rw [wpR_def]
  have l0 : 0 ≤ lim := by decide
  have l1 : 1 ≤ lim := by decide
  have l3 : 3 ≤ lim := by decide
  have l4 : 4 ≤ lim := by decide
  simp [startD, l0, l3]
  have gg : Gd r g := ⟨hg, by have := lcs_le (a := r) (b := g); unfold tot; omega⟩
  refine wp_for_inv (DeI r g) ⟨[], steps3, _, rfl, rfl, rfl⟩ ?_ ?_
  · rintro d rest Δ ⟨as, bs, s3, e, er, rfl⟩
    cases bs with
    | nil => cases er
    | cons b bs =>
    cases er
    have la : as.length < 3 := by
      have := congrArg List.length e
      simp [steps3] at this
      omega
    have lf : (as.flatMap fun a => ([⟨true, true, a⟩, ⟨true, false, a⟩, ⟨false, true, a⟩, ⟨false, false, a⟩] : List Stp)).length = as.length * 4 := by
      generalize as = l
      induction l with
      | nil => rfl
      | cons x l ih => rw [List.flatMap_cons, List.length_append, ih]; show 4 + l.length * 4 = (l.length + 1) * 4; omega
    have e4 : D.lst [.tup [.str "put", .str "left", .int b], .tup [.str "put", .str "right", .int b], .tup [.str "take", .str "left", .int b], .tup [.str "take", .str "right", .int b]] = stpsD [⟨true, true, b⟩, ⟨true, false, b⟩, ⟨false, true, b⟩, ⟨false, false, b⟩] := rfl
    have el := lf
    generalize hA : (as.flatMap fun a => ([⟨true, true, a⟩, ⟨true, false, a⟩, ⟨false, true, a⟩, ⟨false, false, a⟩] : List Stp)) = A at el ⊢
    have ea : dAdd (stpsD A) (stpsD [⟨true, true, b⟩, ⟨true, false, b⟩, ⟨false, true, b⟩, ⟨false, false, b⟩]) = some (stpsD (A ++ [⟨true, true, b⟩, ⟨true, false, b⟩, ⟨false, true, b⟩, ⟨false, false, b⟩])) := by
      have z : A.length + 4 ≤ lim := by unfold lim; omega
      simp [stpsD, z]
    simp [l3, l4, e4, ea]
    refine ⟨as ++ [b], bs, .sh (.int b), by rw [e]; simp, rfl, ?_⟩
    rw [List.flatMap_append, hA]
    rfl
  · rintro Δ ⟨as, bs, s3, e, er, rfl⟩
    cases bs with
    | cons _ _ => cases er
    | nil =>
    rw [List.append_nil] at e
    subst e
    have e0 : (steps3.flatMap fun a => ([⟨true, true, a⟩, ⟨true, false, a⟩, ⟨false, true, a⟩, ⟨false, false, a⟩] : List Stp)) = stps3 := rfl
    rw [e0]
    simp [tup_row, keyI.nt]
    have s1 : (D.dcN [(kdI r, D.int 1)]) = layD [(r, 1)] := rfl
    have s2 : (D.dcN [(kdI r, D.bl true)]) = seenD [(r, ())] := rfl
    rw [s1, s2]
    unfold x__law_searched_6
    refine wp_while (WhI r g) (n := 1000) (k := tot r g) (by have := lcs_le (a := r) (b := g); unfold tot; omega) ⟨0, _, _, _, _, _, Nat.zero_le _, rfl, rfl⟩ ?_
    rintro k Δ ⟨n, s3, s7, s8, s9, s10, hn, hk, rfl⟩
    have I := bf_ok hr (by omega) n
    have hL : KeyB (bf r n).1 := ⟨I.nd, fun x hx => (I.ky x hx).2⟩
    have hS : KeyB (bf r n).2 := ⟨I.sd, fun x hx => (I.sy x hx).2⟩
    have nx : bf r (n + 1) = (levL (bf r n).2 (bf r n).1, seenL (bf r n).2 ((levL (bf r n).2 (bf r n).1).map Prod.fst)) := rfl
    by_cases c : tot r g = n
    · have hv := I.vl g gg c
      simp [tup_row, notIn_lay, hv, ix_lay]
      rw [c]
      have l2 : 2 ≤ lim := by decide
      simp [l2]
      exact ⟨rfl, rfl, rfl⟩
    · have hv : atA (bf r n).1 g = none := by
        cases h : atA (bf r n).1 g with
        | none => rfl
        | some w =>
          have := (I.ky g (atA_keys.mp (by rw [h]; rfl))).1
          omega
      have nh : (((n + 1 : Nat)) : Int) = (n : Int) + 1 := by omega
      have em : (D.dcN []) = layD [] := rfl
      simp [tup_row, notIn_lay, hv, em]
      refine layer_ok hL fun hM s8 s9 s10 => ?_
      simp
      refine seen_ok hM hS fun s10 => ?_
      simp
      refine ⟨tot r g - (n + 1), by omega, n + 1, s3, .sh (layD (levL (bf r n).2 (bf r n).1)), s8, s9, s10, by omega, rfl, ?_⟩
      rw [nx, ← nh]
theorem in3_nn {r : List Int} (h : In3 r) : Nn r := fun x hx => by
  have := h x hx
  simp only [steps3, List.mem_cons, List.not_mem_nil, or_false] at this
  omega
theorem in3_nb {r : List Int} (h : In3 r) : Nb r := fun x hx => by
  have := h x hx
  simp only [steps3, List.mem_cons, List.not_mem_nil, or_false] at this
  omega
def RwOk (r : List Int) : Prop := In3 r ∧ r.length ≤ 3
def LI (ns : List Int) (i : Nat) (Δ : SD) : Prop := ∃ s1 s2 s3 s4 s5 s6 s7 s8, Δ = [.sh (.scr ns), s1, s2, s3, s4, s5, s6, s7, s8]
def WyI (ns a b : List Int) (s1 s2 s5 : SC) (i : Nat) (Δ : SD) : Prop := ∃ s7 s8, Δ = [.sh (.scr ns), s1, s2, .sh (rowD a), .sh (rowD b), s5, .sh (.lst [.int (tot a b : Nat), .int (waysN a b : Nat)]), s7, s8]
theorem cut_b {r : List Int} : cutG r (some 1) none = r.tail := by
  rw [← List.drop_one]
  exact cutG_from (n := 1)
theorem cut_2 {r : List Int} : cutG r none (some 2) = r.take 2 := cutG_to (n := 2)
theorem row_1 {x : Int} : D.lst [D.int x] = rowD [x] := rfl
theorem goal_ok {ns a b : List Int} {p : D} {s1 s5 s6 s7 s8 : SC} (ha : RwOk a) (hb : RwOk b) (hp : IsPool p) : wp x_law_1 [.sh (.scr ns), s1, .ow p, .sh (rowD a), .sh (rowD b), s5, s6, s7, s8]
    (K := ⟨fun fl Δ => fl = .nx ∧ ∃ p b, Δ = [.sh (.scr ns), s1, .ow p, .sh (rowD a), .sh (rowD b), s5, s6, s7, s8] ∧ RwOk b, noE⟩) := by
  obtain ⟨ia, la⟩ := id ha
  have l1 : 1 ≤ lim := by decide
  have l6 : 6 ≤ lim := by decide
  have i1 : ∀ {r : List Int}, In3 r → In3 (r.tail) := fun h x hx => h x (List.mem_of_mem_tail hx)
  have i2 : ∀ {r : List Int}, In3 r → In3 (r.take 2) := fun h x hx => h x (List.mem_of_mem_take hx)
  have ap : ∀ {r s : List Int}, In3 r → In3 s → In3 (r ++ s) := fun h1 h2 x hx => (List.mem_append.mp hx).elim (h1 x) (h2 x)
  have b1 : (a.tail).length ≤ 2 := by simp; omega
  have b2 : (a.take 2).length ≤ 2 := by simp; omega
  have ad1 : dAdd (rowD (a.tail)) (rowD [2]) = some (rowD (a.tail ++ [2])) := by
    have : (a.tail).length + 1 ≤ lim := by unfold lim; omega
    simp only [List.length_tail] at this
    simp [rowD, this]
  have ad2 : dAdd (rowD [3]) (rowD (a.take 2)) = some (rowD ([3] ++ a.take 2)) := by
    have : 1 + (a.take 2).length ≤ lim := by unfold lim; omega
    simp only [List.length_take] at this
    simp [rowD, this]
  unfold x_law_1
  simp
  refine wpR_use (take_ok hp (by omega) (by omega)) ?_
  rintro d fr es ⟨r2, p4, rfl, rfl, b0, b1', hp4⟩
  simp
  by_cases c1 : r2 = 0
  · rw [if_pos c1]
    simp [l1, l6, row_1, cut_b, cut_2, ad1, ad2]
    refine wpR_use (take_ok hp4 (by omega) (by omega)) ?_
    rintro d fr es ⟨r3, p5, rfl, rfl, c0, c3, hp5⟩
    have : r3 = 0 ∨ r3 = 1 ∨ r3 = 2 ∨ r3 = 3 ∨ r3 = 4 ∨ r3 = 5 := by omega
    have t2 : In3 [2] := by intro x hx; simp at hx; rw [hx]; decide
    have t3 : In3 [3] := by intro x hx; simp at hx; rw [hx]; decide
    rcases this with rfl | rfl | rfl | rfl | rfl | rfl
    · simp
      exact ⟨_, _, ⟨rfl, rfl⟩, i1 ia, by omega⟩
    · simp
      exact ⟨_, _, ⟨rfl, rfl⟩, fun x hx => ia x (cutG_mem hx), Nat.le_trans cutG_len la⟩
    · simp
      exact ⟨_, _, ⟨rfl, rfl⟩, ap (i1 ia) t2, by rw [List.length_append]; simp only [List.length_singleton]; omega⟩
    · simp
      exact ⟨_, _, ⟨rfl, rfl⟩, ap t3 (i2 ia), by rw [List.length_cons]; omega⟩
    · simp
      exact ⟨_, _, ⟨rfl, rfl⟩, fun x hx => ia x (List.mem_reverse.mp hx), by simpa using la⟩
    · have e5 : ∀ u v w x y z : D, atI [u, v, w, x, y, z] 5 = some z := fun _ _ _ _ _ _ => rfl
      simp [e5]
      exact ⟨_, _, ⟨rfl, rfl⟩, ia, la⟩
  · rw [if_neg c1]
    exact ⟨_, _, ⟨rfl, rfl⟩, hb⟩
abbrev RS (ns a b : List Int) (s1 s2 : SC) (z : Str) (s7 s8 : SC) : SD := [.sh (.scr ns), s1, s2, .sh (rowD a), .sh (rowD b), .sh (.str z), .sh (.lst [.int (tot a b : Nat), .int (waysN a b : Nat)]), s7, s8]
section
variable {ns a b : List Int} {s1 s2 s7 s8 : SC} {z : Str} {P : Fl → SD → Prop} {E : EX}
theorem two_ok (ha : RwOk a) (hb : RwOk b) (fin : P .nx (RS ns a b s1 s2 z s7 s8)) : wp x_law_2 (RS ns a b s1 s2 z s7 s8) (K := ⟨P, E⟩) := by
  obtain ⟨ia, la⟩ := id ha
  obtain ⟨ib, lb⟩ := id hb
  have na := in3_nn ia
  have nb := in3_nn ib
  have l2 : 2 ≤ lim := by decide
  have ws := ways_count_ok na nb (by omega) (by omega)
  unfold x_law_2
  simp
  refine wpR_use (distance_ok na nb (by omega) (by omega)) ?_
  rintro _ fr es ⟨rfl, rfl⟩
  simp
  refine wpR_use ws ?_
  rintro _ fr es ⟨rfl, rfl⟩
  have e2 : eqD (D.lst [.int (tot a b : Nat), .int (waysN a b : Nat)]) (D.lst [.int (tot a b : Nat), .int (waysN a b : Nat)]) = some true := eqD_selfL fun d hd => by
    simp only [List.mem_cons, List.not_mem_nil, or_false] at hd
    rcases hd with rfl | rfl <;> exact ⟨_, rfl, Nat.zero_le _⟩
  simp [l2, tot_dst, e2]
  refine wpR_use (distance_ok nb na (by omega) (by omega)) ?_
  rintro _ fr es ⟨rfl, rfl⟩
  rw [dst_comm, tot_dst]
  simp
  exact fin
theorem four_ok (ha : RwOk a) (hb : RwOk b) (fin : ∀ s7 s8, P .nx (RS ns a b s1 s2 z s7 s8)) : wp x_law_4 (RS ns a b s1 s2 z s7 s8) (K := ⟨P, E⟩) := by
  obtain ⟨ia, la⟩ := id ha
  obtain ⟨ib, lb⟩ := id hb
  have na := in3_nn ia
  have nb := in3_nn ib
  unfold x_law_4
  simp
  refine wp_for_ints (WyI ns a b s1 s2 (.sh (.str z))) ⟨_, _, rfl⟩ ?_ ?_
  · rintro i Δ hi ⟨s7, s8, rfl⟩
    simp
    refine wpR_use (way_ok na nb (by omega) (by omega)) ?_
    rintro _ fr es ⟨rfl, rfl, rfl⟩
    simp
    unfold x_law_3
    have wl := way_len (a := a) (b := b)
    rw [tot_dst] at wl
    have wl2 : (wayS a b).length = tot a b := by omega
    have tl : tot a b ≤ 6 := by unfold tot; omega
    simp
    refine wp_lendT rfl ?_
    simp [strip, bare1, wl2]
    refine wpR_use (done_ok (by rw [wl2]; omega)) ?_
    rintro _ fr es ⟨rfl, rfl⟩
    rw [way_run]
    have lw : (wayS a b).length < lim := by rw [wl2]; unfold lim; omega
    have ap : gApp .non (stpsD (wayS a b)) = some ((), .lst ((wayS a b).map stD ++ [.non])) := by
      unfold stpsD gApp
      simp [lw]
    simp [rowO, ap]
    exact ⟨_, _, rfl⟩
  · rintro Δ ⟨s7, s8, rfl⟩
    exact fin _ _
theorem five_ok (ha : RwOk a) (hb : RwOk b) (hz : dReprX [.lst [rowD a, rowD b]] = some (.str z)) (fin : P .nx (RS ns a b s1 s2 z s7 s8)) : wp x_law_5 (RS ns a b s1 s2 z s7 s8) (K := ⟨P, E⟩) := by
  obtain ⟨ia, la⟩ := id ha
  obtain ⟨ib, lb⟩ := id hb
  have na := in3_nn ia
  have nb := in3_nn ib
  have l2 : 2 ≤ lim := by decide
  have ws2 := ways_count_ok nb na (by omega) (by omega)
  rw [ways_comm] at ws2
  unfold x_law_5
  simp [l2, hz]
  refine wpR_use ws2 ?_
  rintro _ fr es ⟨rfl, rfl⟩
  simp
  exact fin
end
theorem law_holds (ns : List Int) (hns : ns.length ≤ 63) : ∃ fr, m_law [.scr ns] = .ok (.bl true) fr [] := by
  have key : wpR (m_law [.scr ns]) (K := ⟨Is (.bl true), noF⟩) := by
    unfold m_law b_law x_law_6
    rw [wpR_def]
    have l2 : 2 ≤ lim := by decide
    have l3 : 3 ≤ lim := by decide
    simp [startD]
    obtain ⟨m, hm, h0, h6⟩ : ∃ m : Int, (if 1 < if (ns.length : Int) < 4 then (ns.length : Int) else 4 then if (ns.length : Int) < 4 then (ns.length : Int) else 4 else 1) = m ∧ 0 ≤ m ∧ m ≤ 4 := by
      refine ⟨_, rfl, ?_⟩
      split <;> split <;> omega
    rw [hm]
    refine ⟨by omega, ?_⟩
    refine wp_for_ints (LI ns) ⟨_, _, _, _, _, _, _, _, rfl⟩ ?_ ?_
    · rintro k Δ hk ⟨s1, s2, s3, s4, s5, s6, s7, s8, rfl⟩
      simp
      refine wpR_use (pool_ok (by omega)) ?_
      rintro p fr es ⟨hp0, rfl, rfl⟩
      have e123 : D.lst [D.int 1, .int 2, .int 3] = rowD steps3 := rfl
      simp [l3, e123]
      refine wpR_use (rows_ok (m := 3) (its := steps3) hp0 (by omega) (by decide) (by decide)) ?_
      rintro _ fr es ⟨a, p2, rfl, rfl, rfl, hp2, la, ma⟩
      simp [l3, e123]
      refine wpR_use (rows_ok (m := 3) (its := steps3) hp2 (by omega) (by decide) (by decide)) ?_
      rintro _ fr es ⟨b, p3, rfl, rfl, rfl, hp3, lb, mb⟩
      simp
      have ra : RwOk a := ⟨ma, la⟩
      refine wp_mono (goal_ok ra ⟨mb, lb⟩ hp3) ?_ fun _ _ _ z => z.elim
      rintro fl Δ ⟨rfl, p, b, rfl, rb⟩
      obtain ⟨z, hz⟩ : ∃ z, dReprX [.lst [rowD a, rowD b]] = some (.str z) := by
        obtain ⟨z, hz⟩ := (cz_lst (n := 1) (w := 1000) (m := 2) (k := 3000) (ds := [rowD a, rowD b]) (fun d hd => by
          simp only [List.mem_cons, List.not_mem_nil, or_false] at hd
          rcases hd with rfl | rfl
          · exact cz_row (m := 3) (in3_nb ra.1) ra.2 (by omega)
          · exact cz_row (m := 3) (in3_nb rb.1) rb.2 (by omega)) (by simp) (by omega) : Cz 2 3000 (.lst [rowD a, rowD b])).repr
        exact ⟨z, dReprX_of hz⟩
      simp [l2, hz]
      refine wpR_use (searched_ok ra.1 rb.1 ra.2 rb.2) ?_
      rintro _ fr es ⟨rfl, rfl, rfl⟩
      simp
      refine two_ok ra rb ?_
      simp
      refine four_ok ra rb fun s7 s8 => ?_
      simp
      refine five_ok ra rb hz ?_
      exact ⟨_, _, _, _, _, _, _, _, rfl⟩
    · rintro Δ ⟨s1, s2, s3, s4, s5, s6, s7, s8, rfl⟩
      simp
      exact ⟨rfl, rfl⟩
  unfold wpR at key
  generalize m_law [.scr ns] = R at *
  cases R with
  | ok d fr es => obtain ⟨rfl, rfl⟩ := key; exact ⟨fr, rfl⟩
  | ex n d es => exact key.elim
  | bad => exact key.elim
end Tk45

open PySem PySem.W PyProof.Rows in
set_option maxRecDepth 100000 in
set_option maxHeartbeats 0 in
theorem PySem.Challenge.cw_dequeeffect_k45_distances_by_search_holds : PySem.Challenge.rw_dequeeffect_k45_distances_by_search.Holds := by
  w_on; o_law; k_head; (case hw => w_witness2)
  k_fill
  refine DL.law_walk (l := PySem.Challenge.rw_dequeeffect_k45_distances_by_search) (k := 21) (x := "_law_script") (g := Tk45.m_law) rfl (by decide) rfl ⟨rfl, by decide, by decide⟩ (fun w h Y => by first | exact PySem.W.kIn_of Y | exact PySem.W.km_in_of Y | exact Y.1) ?F Tk45.law_holds
  case F =>
    intro w mg fa h YP KX G hmg
    refine' Tk45.all_facts KX G hmg ?qq_No_Effect ?qq_No_Yard ?qq_No_Session ?qq_a0 ?qq_l0 ?qq_c0 ?qq_k0 ?qq_a1 ?qq_l1 ?qq_c1 ?qq_k1 ?qq_a2 ?qq_l2 ?qq_c2 ?qq_k2 ?qq_a3 ?qq_l3 ?qq_c3 ?qq_k3 ?qq_a4 ?qq_l4 ?qq_c4 ?qq_k4 ?qq_a5 ?qq_l5 ?qq_c5 ?qq_k5 ?qq_a6 ?qq_l6 ?qq_c6 ?qq_k6 ?qq_a7 ?qq_l7 ?qq_c7 ?qq_k7 ?qq_a8 ?qq_l8 ?qq_c8 ?qq_k8 ?qq_a9 ?qq_l9 ?qq_c9 ?qq_k9 ?qq_a10 ?qq_l10 ?qq_c10 ?qq_k10 ?qq_a11 ?qq_l11 ?qq_c11 ?qq_k11 ?qq_a12 ?qq_l12 ?qq_c12 ?qq_k12 ?qq_a13 ?qq_l13 ?qq_c13 ?qq_k13 ?qq_a14 ?qq_l14 ?qq_c14 ?qq_k14 ?qq_a15 ?qq_l15 ?qq_c15 ?qq_k15 ?qq_a16 ?qq_l16 ?qq_c16 ?qq_k16 ?qq_a17 ?qq_l17 ?qq_c17 ?qq_k17 ?qq_a18 ?qq_l18 ?qq_c18 ?qq_k18 ?qq_A_InvalidRow ?qq_X_InvalidRow ?qq_InvalidRow_sa ?qq_InvalidRow_ex ?qq_InvalidRow_ty ?qq_InvalidRow_kC ?qq_InvalidRow_va ?qq_axInvalidRow ?qq_txInvalidRow ?qq_lxInvalidRow ?qq_cxInvalidRow ?qq_kxInvalidRow ?qq_A_RowError ?qq_RowError_rd ?qq_RowError_ga ?qq_RowError_in ?qq_A_TooMany ?qq_X_TooMany ?qq_TooMany_sa ?qq_TooMany_ex ?qq_TooMany_ty ?qq_TooMany_kC ?qq_TooMany_va ?qq_axTooMany ?qq_txTooMany ?qq_lxTooMany ?qq_cxTooMany ?qq_kxTooMany ?qq_N_TooManyB ?qq_V_TooManyB ?qq_g0 ?qq_g1 ?qq_z0 ?qq_z1 ?qq_z2 ?qq_z3 ?qq_z4 ?qq_z5 ?qq_z6 ?qq_z7 ?qq_z8 ?qq_z9 ?qq_z10 ?qq_z11 ?qq_z12 ?qq_z13 ?qq_z14 ?qq_z15 ?qq_z16 ?qq_z17 ?qq_z18 ?qq_z19 ?qq_R_InvalidRow ?qq_R_TooMany
    (case qq_No_Effect => k_is)
    (case qq_No_Yard => k_is)
    (case qq_No_Session => k_is)
    (case qq_a0 => k_is)
    (case qq_l0 => k_is)
    (case qq_c0 => k_is)
    (case qq_k0 => k_is)
    (case qq_a1 => k_is)
    (case qq_l1 => k_is)
    (case qq_c1 => k_is)
    (case qq_k1 => k_is)
    (case qq_a2 => k_is)
    (case qq_l2 => k_is)
    (case qq_c2 => k_is)
    (case qq_k2 => k_is)
    (case qq_a3 => k_is)
    (case qq_l3 => k_is)
    (case qq_c3 => k_is)
    (case qq_k3 => k_is)
    (case qq_a4 => k_is)
    (case qq_l4 => k_is)
    (case qq_c4 => k_is)
    (case qq_k4 => k_is)
    (case qq_a5 => k_is)
    (case qq_l5 => k_is)
    (case qq_c5 => k_is)
    (case qq_k5 => k_is)
    (case qq_a6 => k_is)
    (case qq_l6 => k_is)
    (case qq_c6 => k_is)
    (case qq_k6 => k_is)
    (case qq_a7 => k_is)
    (case qq_l7 => k_is)
    (case qq_c7 => k_is)
    (case qq_k7 => k_is)
    (case qq_a8 => k_is)
    (case qq_l8 => k_is)
    (case qq_c8 => k_is)
    (case qq_k8 => k_is)
    (case qq_a9 => k_is)
    (case qq_l9 => k_is)
    (case qq_c9 => k_is)
    (case qq_k9 => k_is)
    (case qq_a10 => k_is)
    (case qq_l10 => k_is)
    (case qq_c10 => k_is)
    (case qq_k10 => k_is)
    (case qq_a11 => k_is)
    (case qq_l11 => k_is)
    (case qq_c11 => k_is)
    (case qq_k11 => k_is)
    (case qq_a12 => k_is)
    (case qq_l12 => k_is)
    (case qq_c12 => k_is)
    (case qq_k12 => k_is)
    (case qq_a13 => k_is)
    (case qq_l13 => k_is)
    (case qq_c13 => k_is)
    (case qq_k13 => k_is)
    (case qq_a14 => k_is)
    (case qq_l14 => k_is)
    (case qq_c14 => k_is)
    (case qq_k14 => k_is)
    (case qq_a15 => k_is)
    (case qq_l15 => k_is)
    (case qq_c15 => k_is)
    (case qq_k15 => k_is)
    (case qq_a16 => k_is)
    (case qq_l16 => k_is)
    (case qq_c16 => k_is)
    (case qq_k16 => k_is)
    (case qq_a17 => k_is)
    (case qq_l17 => k_is)
    (case qq_c17 => k_is)
    (case qq_k17 => k_is)
    (case qq_a18 => k_is)
    (case qq_l18 => k_is)
    (case qq_c18 => k_is)
    (case qq_k18 => k_is)
    (case qq_A_InvalidRow => k_is)
    (case qq_X_InvalidRow => k_is)
    (case qq_InvalidRow_sa => k_is)
    (case qq_InvalidRow_ex => k_is)
    (case qq_InvalidRow_ty => k_is)
    (case qq_InvalidRow_kC => k_is)
    (case qq_InvalidRow_va => k_is)
    (case qq_axInvalidRow => k_is)
    (case qq_txInvalidRow => k_is)
    (case qq_lxInvalidRow => k_is)
    (case qq_cxInvalidRow => k_is)
    (case qq_kxInvalidRow => k_is)
    (case qq_A_RowError => k_is)
    (case qq_RowError_rd => k_is)
    (case qq_RowError_ga => k_is)
    (case qq_RowError_in => k_is)
    (case qq_A_TooMany => k_is)
    (case qq_X_TooMany => k_is)
    (case qq_TooMany_sa => k_is)
    (case qq_TooMany_ex => k_is)
    (case qq_TooMany_ty => k_is)
    (case qq_TooMany_kC => k_is)
    (case qq_TooMany_va => k_is)
    (case qq_axTooMany => k_is)
    (case qq_txTooMany => k_is)
    (case qq_lxTooMany => k_is)
    (case qq_cxTooMany => k_is)
    (case qq_kxTooMany => k_is)
    (case qq_N_TooManyB => k_is)
    (case qq_V_TooManyB => k_is)
    (case qq_g0 => k_is)
    (case qq_g1 => k_is)
    (case qq_z0 => k_is)
    (case qq_z1 => k_is)
    (case qq_z2 => k_is)
    (case qq_z3 => k_is)
    (case qq_z4 => k_is)
    (case qq_z5 => k_is)
    (case qq_z6 => k_is)
    (case qq_z7 => k_is)
    (case qq_z8 => k_is)
    (case qq_z9 => k_is)
    (case qq_z10 => k_is)
    (case qq_z11 => k_is)
    (case qq_z12 => k_is)
    (case qq_z13 => k_is)
    (case qq_z14 => k_is)
    (case qq_z15 => k_is)
    (case qq_z16 => k_is)
    (case qq_z17 => k_is)
    (case qq_z18 => k_is)
    (case qq_z19 => k_is)
    (case qq_R_InvalidRow => decide +kernel)
    (case qq_R_TooMany => decide +kernel)
