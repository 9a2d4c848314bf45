import PyProof.Rows.All
import Wide.All
import OpenK.AllK
import Wide.FinOn
import HandS.Dict
import HandS.TupSets
import HandS.ForMost
import HandS.Walk
import HandS.Style
import HandS.Flow
import HandS.Wide
import HandS.Zip
import HandS.More
import HandS.Rev
import HandS.Flt
import HandS.TupAny
import HandS.SortInts
import HandS.Exc
import HandS.EndBits
import PyProof.ReprLen
import HandS.Iter
import HandS.ListItems
import HandS.NoneIn
import KE.KDictZip
import HandS.IsInst
import HandS.Deep
import KE.KUnpackStar
import KE.SortData
import KE.DataCmp
import HandS.ForExc
import HandS.ExcInit
import HandS.ExcOwn
import HandS.ExcField
import HandS.ExcIs
import HandS.TryMany
import KE.KExcIs
import KE.KTryMore
import KE.KExcInit
import HandS.ExcValue
import PyProof.ExcBaseAll.LookupError
import PyProof.ExcBaseAll.RuntimeError
import PyProof.ExcBaseAll.ValueError
import HandS.Text
import HandS.Strs
import HandS.SetFor
import HandS.TupMul
import PyProof.NeKinds
import PyProof.TwoTypes
import PyProof.TwoTypesSub
import PyProof.AutoIntG7
import PyProof.Rows.StrBin
import PyProof.Rows.StrDigits
import HandS.DictTup
import KE.KDictWalk
import HandS.Conv
import KE.KDictSum
import KE.KDictPairs
import HandS.DictComp
import PyProof.Rows.TupDisplay
import PyProof.ReprRoads
import HandS.SetBool
import PyProof.EnumMake
import KE.GoesEnum
import KE.GoesRaise
import KE.KAsSuite
import PySem.Challenge.RW_gatewaves_k05_refusals_made
set_option Elab.async false
set_option linter.all false
set_option maxRecDepth 100000
set_option maxHeartbeats 8000000
/-! dicts whose keys are rows: what the abstract data says of them -/
namespace Gw
open PySem L2
def hashRow (r : List Int) : Int := reduceHash (Builtin.Tuple.tupleHashOf (r.map hashInt))
/-- a key, where it lies, the value -/
abbrev RE := List Int × Addr × V
abbrev REv := List Int × Addr × Value
def entR (x : REv) : DictEntry := ⟨hashRow x.1, .ref x.2.1, x.2.2⟩
def ReIs (p : RE) (q : REv) : Prop := p.1 = q.1 ∧ p.2.1 = q.2.1 ∧ RelV p.2.2 q.2.2
structure DcT (h : Heap) (a : Addr) (L : List RE) : Prop where
  ex : ∃ xs : List REv, Paired ReIs L xs ∧ ∃ o es ep, h.get? a = some o ∧ o.ExactDict ∧ o.data = .dict es ep ∧ es.toList = xs.map entR ∧ (xs.map (·.1)).Nodup
  few : L.length ≤ sizeLine
  sys : (a == sysModules) = false
def DcO (a : Addr) (L : List RE) : HO := .ext fun h => DcT h a L
/-- the keys lie where they are said to lie -/
def KeyR (K : PySem.W.Frag) (H : Hp) (L : List RE) : Prop := ∀ p ∈ L, SqT K H p.2.1 (p.1.map V.int)
end Gw

namespace Gw
open PySem L2

/-! ### heaps that grow -/
def Ex (H H' : Hp) : Prop := ∀ a o, H a = some o → H' a = some o
theorem Ex.refl (H : Hp) : Ex H H := fun _ _ h => h
theorem Ex.trans {H H1 H2 : Hp} (a : Ex H H1) (b : Ex H1 H2) : Ex H H2 := fun x o h => b x o (a x o h)
theorem Ex.new {H : Hp} {p : Addr} {o : HO} (h : H p = none) : Ex H (upd H p o) := fun a u e => by
  rw [upd_ne (ne_of_none e h)]; exact e
theorem Ex.none {H H' : Hp} {p : Addr} (e : Ex H H') (h : H' p = none) : H p = none := by
  cases q : H p with
  | none => rfl
  | some o => rw [e p o q] at h; cases h
theorem ex_rd {H H' : Hp} {a : Addr} {u : HO} (e : Ex H H') (h : Rd H a u) : Rd H' a u := by
  rcases h with h | ⟨o, h⟩
  · exact .inl (e _ _ h)
  · exact .inr ⟨o, e _ _ h⟩
theorem ex_l {K : PySem.W.Frag} {H H' : Hp} {a : Addr} {xs : List V} (e : Ex H H') (h : SqL K H a xs) : SqL K H' a xs := by
  rcases h with h | h
  · exact .inl (ex_rd e h)
  · exact .inr h
theorem ex_t {K : PySem.W.Frag} {H H' : Hp} {a : Addr} {xs : List V} (e : Ex H H') (h : SqT K H a xs) : SqT K H' a xs := by
  rcases h with h | h
  · exact .inl (ex_rd e h)
  · exact .inr h

/-! ### abstract data -/
inductive D where
  | non | bl (b : Bool) | int (i : Int) | str (x : Str)
  | tup (ds : List D) | lst (ds : List D) | scr (ds : List D) | ref (a : Addr)
  | dct (ks : List L2.Key) (ds : List D)
  | exc (cn : Str) (ns : List Str) (ds : List D)
  | dcT (ks : List (List Int)) (ds : List D)

/-- an exception object at a: its class, its dict -/
def xob (a C : Addr) (d : Option Addr) : HO := .ext fun h => ∃ (oe : Obj) (vs : Array Value), h.get? a = some oe ∧ Zc (.ref C) d oe ∧ oe.data = .fields vs
/-- its dict's fields -/
def XD (G : Hp) (d : Option Addr) (ws : List (Str × V)) : Prop := (d = none ∧ ws = []) ∨ ∃ dd, d = some dd ∧ G dd = some (.xd ws)
theorem XD.mono {G G' : Hp} {d : Option Addr} {ws : List (Str × V)} (e : Ex G G') (h : XD G d ws) : XD G' d ws := by
  rcases h with h | ⟨dd, h1, h2⟩
  · exact .inl h
  · exact .inr ⟨dd, h1, e _ _ h2⟩
mutual
def Rep (K : PySem.W.Frag) (G : Hp) : D → V → Prop
  | .non, v => v = .non
  | .bl b, v => v = .bl b
  | .int i, v => v = .int i
  | .str x, v => v = .str x
  | .ref a, v => v = .ref a
  | .tup ds, v => ∃ a xs, v = .ref a ∧ SqT K G a xs ∧ RepL K G ds xs
  | .lst ds, v => ∃ a xs, v = .ref a ∧ G a = some (.lst xs) ∧ RepL K G ds xs
  | .scr ds, v => ∃ a xs, v = .ref a ∧ SqL K G a xs ∧ RepL K G ds xs
  | .dct ks ds, v => ∃ a o xs, v = .ref a ∧ G a = some (.frz o (.dK (ks.zip xs))) ∧ ks.length = ds.length ∧ RepL K G ds xs
  | .exc cn ns ds, v => ∃ a C d ws, v = .ref a ∧ PySem.W.nsIn K mainGlobals cn = some (some (.ref C)) ∧ G a = some (xob a C d) ∧ XD G d ws ∧ ws.map (·.1) = ns ∧ RepL K G ds (ws.map (·.2))
  | .dcT ks ds, v => ∃ a o L, v = .ref a ∧ G a = some (.frz o (DcO a L)) ∧ L.map (·.1) = ks ∧ KeyR K G L ∧ RepL K G ds (L.map (·.2.2))
def RepL (K : PySem.W.Frag) (G : Hp) : List D → List V → Prop
  | [], vs => vs = []
  | d :: ds, vs => ∃ x r, vs = x :: r ∧ Rep K G d x ∧ RepL K G ds r
end
section
variable {K : PySem.W.Frag} {G G' H H' : Hp}
theorem rep_tup {ds : List D} {v : V} : Rep K G (.tup ds) v ↔ ∃ a xs, v = .ref a ∧ SqT K G a xs ∧ RepL K G ds xs := by rw [Rep]
theorem rep_lst {ds : List D} {v : V} : Rep K G (.lst ds) v ↔ ∃ a xs, v = .ref a ∧ G a = some (.lst xs) ∧ RepL K G ds xs := by rw [Rep]
theorem rep_scr {ds : List D} {v : V} : Rep K G (.scr ds) v ↔ ∃ a xs, v = .ref a ∧ SqL K G a xs ∧ RepL K G ds xs := by rw [Rep]
theorem rep_dct {ks : List L2.Key} {ds : List D} {v : V} : Rep K G (.dct ks ds) v ↔ ∃ a o xs, v = .ref a ∧ G a = some (.frz o (.dK (ks.zip xs))) ∧ ks.length = ds.length ∧ RepL K G ds xs := by rw [Rep]
theorem rep_exc {cn : Str} {ns : List Str} {ds : List D} {v : V} : Rep K G (.exc cn ns ds) v ↔ ∃ a C d ws, v = .ref a ∧ PySem.W.nsIn K mainGlobals cn = some (some (.ref C)) ∧ G a = some (xob a C d) ∧ XD G d ws ∧ ws.map (·.1) = ns ∧ RepL K G ds (ws.map (·.2)) := by rw [Rep]
theorem rep_dcT {ks : List (List Int)} {ds : List D} {v : V} : Rep K G (.dcT ks ds) v ↔ ∃ a o L, v = .ref a ∧ G a = some (.frz o (DcO a L)) ∧ L.map (·.1) = ks ∧ KeyR K G L ∧ RepL K G ds (L.map (·.2.2)) := by rw [Rep]
theorem KeyR.mono {L : List RE} (e : Ex G G') (h : KeyR K G L) : KeyR K G' L := fun p hp => ex_t e (h p hp)
theorem repL_cons {d : D} {ds : List D} {vs : List V} : RepL K G (d :: ds) vs ↔ ∃ x r, vs = x :: r ∧ Rep K G d x ∧ RepL K G ds r := by rw [RepL]
theorem repL_nil {vs : List V} : RepL K G [] vs ↔ vs = [] := by rw [RepL]
mutual
theorem Rep.mono (e : Ex G G') : ∀ {d : D} {v : V}, Rep K G d v → Rep K G' d v
  | .non, _, h => by rw [Rep] at *; exact h
  | .bl _, _, h => by rw [Rep] at *; exact h
  | .int _, _, h => by rw [Rep] at *; exact h
  | .str _, _, h => by rw [Rep] at *; exact h
  | .ref _, _, h => by rw [Rep] at *; exact h
  | .tup _, _, h => by
    obtain ⟨a, xs, e1, h1, h2⟩ := rep_tup.mp h
    exact rep_tup.mpr ⟨a, xs, e1, ex_t e h1, RepL.mono e h2⟩
  | .lst _, _, h => by
    obtain ⟨a, xs, e1, h1, h2⟩ := rep_lst.mp h
    exact rep_lst.mpr ⟨a, xs, e1, e _ _ h1, RepL.mono e h2⟩
  | .scr _, _, h => by
    obtain ⟨a, xs, e1, h1, h2⟩ := rep_scr.mp h
    exact rep_scr.mpr ⟨a, xs, e1, ex_l e h1, RepL.mono e h2⟩
  | .dct _ _, _, h => by
    obtain ⟨a, o, xs, e1, h1, h0, h2⟩ := rep_dct.mp h
    exact rep_dct.mpr ⟨a, o, xs, e1, e _ _ h1, h0, RepL.mono e h2⟩
  | .exc _ _ _, _, h => by
    obtain ⟨a, C, d, ws, e1, h1, h2, h3, h4, h5⟩ := rep_exc.mp h
    exact rep_exc.mpr ⟨a, C, d, ws, e1, h1, e _ _ h2, h3.mono e, h4, RepL.mono e h5⟩
  | .dcT _ _, _, h => by
    obtain ⟨a, o, L, e1, h1, h2, h3, h4⟩ := rep_dcT.mp h
    exact rep_dcT.mpr ⟨a, o, L, e1, e _ _ h1, h2, h3.mono e, RepL.mono e h4⟩
theorem RepL.mono (e : Ex G G') : ∀ {ds : List D} {vs : List V}, RepL K G ds vs → RepL K G' ds vs
  | [], _, h => by rw [RepL] at *; exact h
  | d :: ds, _, h => by
    obtain ⟨x, r, e1, h1, h2⟩ := repL_cons.mp h
    exact repL_cons.mpr ⟨x, r, e1, Rep.mono e h1, RepL.mono e h2⟩
end
theorem RepL.length : ∀ {ds : List D} {vs : List V}, RepL K G ds vs → vs.length = ds.length
  | [], _, h => by rw [repL_nil.mp h]; rfl
  | d :: ds, _, h => by
    obtain ⟨x, r, rfl, h1, h2⟩ := repL_cons.mp h
    rw [List.length_cons, List.length_cons, RepL.length h2]
theorem RepL.get : ∀ {ds : List D} {vs : List V} {i : Nat} {d : D}, RepL K G ds vs → ds[i]? = some d → ∃ v, vs[i]? = some v ∧ Rep K G d v
  | [], _, i, d, h, e => by simp at e
  | d0 :: ds, _, 0, d, h, e => by
    obtain ⟨x, r, rfl, h1, h2⟩ := repL_cons.mp h
    simp at e; subst e; exact ⟨x, rfl, h1⟩
  | d0 :: ds, _, i + 1, d, h, e => by
    obtain ⟨x, r, rfl, h1, h2⟩ := repL_cons.mp h
    simpa using RepL.get (i := i) h2 (by simpa using e)
theorem RepL.getV {ds : List D} {vs : List V} {i : Nat} {v : V} (h : RepL K G ds vs) (e : vs[i]? = some v) : ∃ d, ds[i]? = some d ∧ Rep K G d v := by
  have hl : i < ds.length := by rw [← h.length]; exact (List.getElem?_eq_some_iff.mp e).1
  obtain ⟨v', e', r⟩ := h.get (List.getElem?_eq_getElem hl)
  rw [e] at e'; cases e'
  exact ⟨_, List.getElem?_eq_getElem hl, r⟩
theorem RepL.append : ∀ {ds es : List D} {vs ws : List V}, RepL K G ds vs → RepL K G es ws → RepL K G (ds ++ es) (vs ++ ws)
  | [], _, _, _, h, h' => by rw [repL_nil.mp h]; exact h'
  | d :: ds, es, _, ws, h, h' => by
    obtain ⟨x, r, rfl, h1, h2⟩ := repL_cons.mp h
    exact repL_cons.mpr ⟨x, r ++ ws, rfl, h1, RepL.append h2 h'⟩
theorem RepL.one {d : D} {v : V} (h : Rep K G d v) : RepL K G [d] [v] := repL_cons.mpr ⟨v, [], rfl, h, repL_nil.mpr rfl⟩
theorem RepL.of_get : ∀ {ds : List D} {vs : List V}, vs.length = ds.length → (∀ (i : Nat) (d : D) (v : V), ds[i]? = some d → vs[i]? = some v → Rep K G d v) → RepL K G ds vs
  | [], vs, hl, _ => repL_nil.mpr (List.length_eq_zero_iff.mp hl)
  | d :: ds, [], hl, _ => by simp at hl
  | d :: ds, v :: vs, hl, h => repL_cons.mpr ⟨v, vs, rfl, h 0 d v rfl rfl, RepL.of_get (by simpa using hl) fun i d' v' a b => h (i + 1) d' v' (by simpa using a) (by simpa using b)⟩
theorem RepL.drop {ds : List D} {vs : List V} (n : Nat) (h : RepL K G ds vs) : RepL K G (ds.drop n) (vs.drop n) := by
  refine .of_get (by rw [List.length_drop, List.length_drop, h.length]) fun i d v a b => ?_
  rw [List.getElem?_drop] at a b
  obtain ⟨v', e, r⟩ := h.get a
  rw [b] at e; cases e; exact r
theorem RepL.take {ds : List D} {vs : List V} (n : Nat) (h : RepL K G ds vs) : RepL K G (ds.take n) (vs.take n) := by
  refine .of_get (by rw [List.length_take, List.length_take, h.length]) fun i d v a b => ?_
  rw [List.getElem?_take] at a b
  split at a
  · rename_i hi
    rw [if_pos hi] at b
    obtain ⟨v', e, r⟩ := h.get a
    rw [b] at e; cases e; exact r
  · cases a
theorem RepL.set {ds : List D} {vs : List V} {d : D} {v : V} (n : Nat) (h : RepL K G ds vs) (r : Rep K G d v) : RepL K G (ds.set n d) (vs.set n v) := by
  refine .of_get (by rw [List.length_set, List.length_set, h.length]) fun i d' v' a b => ?_
  rw [List.getElem?_set] at a b
  by_cases hi : n = i
  · rw [if_pos hi] at a b
    split at a
    · rename_i hn
      rw [if_pos (by rw [h.length]; exact hn)] at b
      cases a; cases b; exact r
    · cases a
  · rw [if_neg hi] at a b
    obtain ⟨w, e, q⟩ := h.get a
    rw [b] at e; cases e; exact q
theorem RepL.reverse {ds : List D} {vs : List V} (h : RepL K G ds vs) : RepL K G ds.reverse vs.reverse := by
  refine .of_get (by rw [List.length_reverse, List.length_reverse, h.length]) fun i d v a b => ?_
  have hi : i < ds.length := by simpa using (List.getElem?_eq_some_iff.mp a).1
  rw [List.getElem?_reverse hi] at a
  rw [List.getElem?_reverse (by rw [h.length]; exact hi), h.length] at b
  obtain ⟨w, e, q⟩ := h.get a
  rw [b] at e; cases e; exact q
theorem repL_map_int {ns : List Int} {vs : List V} : RepL K G (ns.map D.int) vs ↔ vs = ns.map V.int := by
  induction ns generalizing vs with
  | nil => exact repL_nil
  | cons n ns ih =>
    rw [List.map_cons, repL_cons]
    constructor
    · rintro ⟨x, r, rfl, h1, h2⟩
      rw [ih.mp h2, show x = V.int n by rw [Rep] at h1; exact h1]; rfl
    · rintro rfl
      exact ⟨_, _, rfl, by rw [Rep], ih.mpr rfl⟩
theorem repL_map_bl {bs : List Bool} {vs : List V} : RepL K G (bs.map D.bl) vs ↔ vs = bs.map V.bl := by
  induction bs generalizing vs with
  | nil => exact repL_nil
  | cons n ns ih =>
    rw [List.map_cons, repL_cons]
    constructor
    · rintro ⟨x, r, rfl, h1, h2⟩
      rw [ih.mp h2, show x = V.bl n by rw [Rep] at h1; exact h1]; rfl
    · rintro rfl
      exact ⟨_, _, rfl, by rw [Rep], ih.mpr rfl⟩
end

/-! ### cells, slots, the state -/
inductive Cell where
  | lst (ds : List D) | dct (ks : List L2.Key) (ds : List D) | dcT (ks : List (List Int)) (ds : List D)
inductive Slot where
  | non | dat (d : D) | own (c : Cell)
abbrev Mem := List (Addr × Cell)
abbrev Sl := List Slot
inductive Ret where
  | dat (d : D) | tmp (c : Cell) | var (i : Nat)
def CellOk (K : PySem.W.Frag) (G : Hp) (a : Addr) : Cell → HO → Prop
  | .lst ds, o => ∃ vs, o = .lst vs ∧ RepL K G ds vs
  | .dct ks ds, o => ∃ vs, o = .dK (ks.zip vs) ∧ ks.length = ds.length ∧ RepL K G ds vs
  | .dcT ks ds, o => ∃ L, o = DcO a L ∧ L.map (·.1) = ks ∧ KeyR K G L ∧ RepL K G ds (L.map (·.2.2))
def Cel (K : PySem.W.Frag) (H G : Hp) (a : Addr) (c : Cell) : Prop := G a = none ∧ ∃ o, H a = some o ∧ CellOk K G a c o
def dom (M : Mem) : List Addr := M.map (·.1)
theorem CellOk.mono {K : PySem.W.Frag} {G G' : Hp} {a : Addr} {c : Cell} {o : HO} (e : Ex G G') (h : CellOk K G a c o) : CellOk K G' a c o := by
  cases c with
  | lst ds => obtain ⟨vs, e1, h1⟩ := h; exact ⟨vs, e1, h1.mono e⟩
  | dct ks ds => obtain ⟨vs, e1, h0, h1⟩ := h; exact ⟨vs, e1, h0, h1.mono e⟩
  | dcT ks ds => obtain ⟨L, e1, h0, h1, h2⟩ := h; exact ⟨L, e1, h0, h1.mono e, h2.mono e⟩

structure Ent where
  H : Hp
  G : Hp
  A : List Addr
variable {ρ : Ent}
/-- an entry that refines an entry: frozen things have come -/
structure Refi (P B : Ent) : Prop where
  h : B.H = P.H
  a : B.A = P.A
  g : Ex P.G B.G
  gn : ∀ a o, B.G a = some o → P.G a = some o ∨ P.H a = none
theorem Refi.refl (P : Ent) : Refi P P := ⟨rfl, rfl, Ex.refl _, fun _ _ h => .inl h⟩
structure Stp (B : Ent) (H G : Hp) (M : Mem) : Prop where
  g : Ex B.G G
  fr : ∀ a o, B.H a = some o → a ∉ B.A → H a = some o
  gn : ∀ a o, G a = some o → B.G a = some o ∨ B.H a = none
  mn : ∀ a ∈ dom M, a ∈ B.A ∨ B.H a = none
  nn : ∀ a, H a = none → B.H a = none
def owned (σ : St) (Γ : Sl) (a : Addr) : Prop := ∃ (i : Nat) (c : Cell), Γ[i]? = some (Slot.own c) ∧ σ[i]? = some (some (V.ref a))
structure Ok (K : PySem.W.Frag) (ρ : Ent) (B : Ent) (σ : St) (H G : Hp) (Γ : Sl) (M : Mem) : Prop where
  st : Stp B H G M
  ex : Ex G H
  nd : (dom M).Nodup
  ms : ∀ a c, (a, c) ∈ M → Cel K H G a c
  dat : ∀ (i : Nat) (d : D), Γ[i]? = some (.dat d) → ∃ v, σ[i]? = some (some v) ∧ Rep K G d v
  own : ∀ (i : Nat) (c : Cell), Γ[i]? = some (.own c) → ∃ p, σ[i]? = some (some (.ref p)) ∧ B.H p = none ∧ p ∉ dom M ∧ Cel K H G p c
  dis : ∀ (i j : Nat) (ci cj : Cell) (p : Addr), Γ[i]? = some (.own ci) → Γ[j]? = some (.own cj) → σ[i]? = some (some (.ref p)) → σ[j]? = some (some (.ref p)) → i = j
  len : Γ.length = σ.length
  pb : Refi ρ B
/-- what an expression leaves -/
structure Es (σ : St) (H G : Hp) (Γ : Sl) (M : Mem) (H' G' : Hp) (Γ' : Sl) (M' : Mem) : Prop where
  g : Ex G G'
  tmp : ∀ a o, H a = some o → G a = none → a ∉ dom M → ¬ owned σ Γ a → H' a = some o ∧ G' a = none ∧ a ∉ dom M' ∧ ¬ owned σ Γ' a
  nn : ∀ a, H' a = none → H a = none
def RepR (K : PySem.W.Frag) (B : Ent) (σ : St) (H0 H G : Hp) (Γ : Sl) (M : Mem) : Ret → V → Prop
  | .dat d, v => Rep K G d v
  | .tmp c, v => ∃ p, v = .ref p ∧ H0 p = none ∧ B.H p = none ∧ Cel K H G p c ∧ p ∉ dom M ∧ ¬ owned σ Γ p
  | .var i, v => σ[i]? = some (some v)
section
variable {K : PySem.W.Frag} {B : Ent} {σ : St} {H G H1 G1 H2 G2 H0 : Hp} {Γ Γ1 Γ2 : Sl} {M M1 M2 : Mem}
theorem Es.refl : Es σ H G Γ M H G Γ M := ⟨Ex.refl G, fun a o h g m n => ⟨h, g, m, n⟩, fun _ h => h⟩
theorem Es.trans (a : Es σ H G Γ M H1 G1 Γ1 M1) (b : Es σ H1 G1 Γ1 M1 H2 G2 Γ2 M2) : Es σ H G Γ M H2 G2 Γ2 M2 :=
  ⟨a.g.trans b.g, fun x o h g m n => let ⟨h', g', m', n'⟩ := a.tmp x o h g m n; b.tmp x o h' g' m' n', fun x h => a.nn x (b.nn x h)⟩
theorem RepR.old {r : Ret} {v : V} {H0' : Hp} (h : RepR K B σ H0 H G Γ M r v) (e : ∀ a, H0 a = none → H0' a = none) : RepR K B σ H0' H G Γ M r v := by
  cases r with
  | dat d => exact h
  | tmp c => obtain ⟨p, e1, h0, r⟩ := h; exact ⟨p, e1, e p h0, r⟩
  | var i => exact h
theorem RepR.es {r : Ret} {v : V} (h : RepR K B σ H0 H G Γ M r v) (e : Es σ H G Γ M H1 G1 Γ1 M1) : RepR K B σ H0 H1 G1 Γ1 M1 r v := by
  cases r with
  | dat d => exact Rep.mono e.g h
  | tmp c =>
    obtain ⟨p, e1, h0, hb, ⟨hg, o, ho, hc⟩, hm, hn⟩ := h
    obtain ⟨a1, a2, a3, a4⟩ := e.tmp p o ho hg hm hn
    exact ⟨p, e1, h0, hb, ⟨a2, o, a1, hc.mono e.g⟩, a3, a4⟩
  | var i => exact h
/-- a new object of frozen data -/
theorem Ok.new {p : Addr} {o : HO} (k : Ok K ρ B σ H G Γ M) (hp : H p = none) : Ok K ρ B σ (upd H p o) (upd G p o) Γ M ∧ Es σ H G Γ M (upd H p o) (upd G p o) Γ M := by
  have gp : G p = none := k.ex.none hp
  have eG : Ex G (upd G p o) := Ex.new gp
  have eH : Ex H (upd H p o) := Ex.new hp
  have cel : ∀ a c, Cel K H G a c → Cel K (upd H p o) (upd G p o) a c := fun a c ⟨h1, u, h2, h3⟩ =>
    have ne : a ≠ p := ne_of_none h2 hp
    ⟨by rw [upd_ne ne]; exact h1, u, eH _ _ h2, h3.mono eG⟩
  refine ⟨⟨⟨k.st.g.trans eG, fun a u h n => eH _ _ (k.st.fr a u h n), fun a u h => ?_, k.st.mn, fun a h => k.st.nn a (eH.none h)⟩, fun a u h => ?_, k.nd, fun a c h => cel a c (k.ms a c h), fun i d h => ?_, fun i c h => ?_, k.dis, k.len, k.pb⟩, eG, fun a u h g m n => ?_, fun _ h => eH.none h⟩
  · by_cases e : a = p
    · subst e; exact .inr (k.st.nn _ hp)
    · rw [upd_ne e] at h; exact k.st.gn a u h
  · by_cases e : a = p
    · subst e; rw [upd_same] at h ⊢; exact h
    · rw [upd_ne e] at h ⊢; exact k.ex a u h
  · obtain ⟨v, h1, h2⟩ := k.dat i d h
    exact ⟨v, h1, h2.mono eG⟩
  · obtain ⟨q, h1, h2, h3, h4⟩ := k.own i c h
    exact ⟨q, h1, h2, h3, cel q c h4⟩
  · have ne : a ≠ p := ne_of_none h hp
    exact ⟨eH _ _ h, by rw [upd_ne ne]; exact g, m, n⟩
/-- a new object that nobody holds -/
theorem Ok.tmp {p : Addr} {o : HO} (k : Ok K ρ B σ H G Γ M) (hp : H p = none) : Ok K ρ B σ (upd H p o) G Γ M ∧ Es σ H G Γ M (upd H p o) G Γ M ∧ p ∉ dom M ∧ ¬ owned σ Γ p ∧ B.H p = none ∧ G p = none := by
  have gp : G p = none := k.ex.none hp
  have eH : Ex H (upd H p o) := Ex.new hp
  have cel : ∀ a c, Cel K H G a c → Cel K (upd H p o) G a c := fun a c ⟨h1, u, h2, h3⟩ => ⟨h1, u, eH _ _ h2, h3⟩
  have nm : p ∉ dom M := fun hm => by
    obtain ⟨⟨a, c⟩, h1, h2⟩ := List.mem_map.mp hm
    obtain ⟨_, u, h3, _⟩ := k.ms a c h1
    simp at h2; subst h2; rw [hp] at h3; cases h3
  have no : ¬ owned σ Γ p := fun ⟨i, c, h1, h2⟩ => by
    obtain ⟨q, h3, _, _, _, u, h4, _⟩ := k.own i c h1
    rw [h2] at h3; cases h3; rw [hp] at h4; cases h4
  exact ⟨⟨⟨k.st.g, fun a u h n => eH _ _ (k.st.fr a u h n), k.st.gn, k.st.mn, fun a h => k.st.nn a (eH.none h)⟩, k.ex.trans eH, k.nd, fun a c h => cel a c (k.ms a c h), k.dat, fun i c h => let ⟨q, h1, h2, h3, h4⟩ := k.own i c h; ⟨q, h1, h2, h3, cel q c h4⟩, k.dis, k.len, k.pb⟩,
    ⟨Ex.refl G, fun a u h g m n => ⟨eH _ _ h, g, m, n⟩, fun _ h => eH.none h⟩, nm, no, k.st.nn _ hp, gp⟩
/-- a thing that nobody holds is frozen -/
theorem Ok.freeze {p : Addr} {o : HO} (k : Ok K ρ B σ H G Γ M) (hp : H p = some o) (hb : B.H p = none) (hm : p ∉ dom M) (hn : ¬ owned σ Γ p) (hg : G p = none) :
    Ok K ρ B σ H (upd G p o) Γ M ∧ Ex G (upd G p o) := by
  have eG : Ex G (upd G p o) := Ex.new hg
  have cel : ∀ a c, a ≠ p → Cel K H G a c → Cel K H (upd G p o) a c := fun a c ne ⟨h1, u, h2, h3⟩ => ⟨by rw [upd_ne ne]; exact h1, u, h2, h3.mono eG⟩
  refine ⟨⟨⟨k.st.g.trans eG, k.st.fr, fun a u h => ?_, k.st.mn, k.st.nn⟩, fun a u h => ?_, k.nd, fun a c h => cel a c (fun e => hm (e ▸ List.mem_map.mpr ⟨_, h, rfl⟩)) (k.ms a c h), fun i d h => ?_, fun i c h => ?_, k.dis, k.len, k.pb⟩, eG⟩
  · by_cases e : a = p
    · subst e; exact .inr hb
    · rw [upd_ne e] at h; exact k.st.gn a u h
  · by_cases e : a = p
    · subst e; rw [upd_same] at h; cases h; exact hp
    · rw [upd_ne e] at h; exact k.ex a u h
  · obtain ⟨v, h1, h2⟩ := k.dat i d h
    exact ⟨v, h1, h2.mono eG⟩
  · obtain ⟨q, h1, h2, h3, h4⟩ := k.own i c h
    exact ⟨q, h1, h2, h3, cel q c (fun e => hn ⟨i, c, h, e ▸ h1⟩) h4⟩
theorem getElem?_setS {l : Sl} {i j : Nat} {s t : Slot} (h : (l.set i s)[j]? = some t) : (j = i ∧ t = s) ∨ (j ≠ i ∧ l[j]? = some t) := by
  rw [List.getElem?_set] at h
  by_cases e : i = j
  · rw [if_pos e] at h
    split at h
    · cases h; exact .inl ⟨e.symm, rfl⟩
    · cases h
  · rw [if_neg e] at h; exact .inr ⟨fun q => e q.symm, h⟩
/-- an own slot is frozen -/
theorem Ok.frzSlot {i : Nat} {ds : List D} (k : Ok K ρ B σ H G Γ M) (hi : Γ[i]? = some (.own (.lst ds))) :
    ∃ G' v, Ok K ρ B σ H G' (Γ.set i (.dat (.lst ds))) M ∧ Es σ H G Γ M H G' (Γ.set i (.dat (.lst ds))) M ∧ σ[i]? = some (some v) ∧ Rep K G' (.lst ds) v := by
  obtain ⟨p, s1, hb, hm, hg, o, ho, vs, rfl, hr⟩ := k.own i _ hi
  have no : ¬ owned σ (Γ.set i .non) p := fun ⟨j, c, h1, h2⟩ => by
    rcases getElem?_setS h1 with ⟨_, e⟩ | ⟨ne, e⟩
    · cases e
    · exact ne (k.dis j i _ _ p e hi h2 s1)
  have k0 : Ok K ρ B σ H G (Γ.set i .non) M := ⟨k.st, k.ex, k.nd, k.ms, fun j d h => by
      rcases getElem?_setS h with ⟨_, e⟩ | ⟨_, e⟩
      · cases e
      · exact k.dat j d e, fun j c h => by
      rcases getElem?_setS h with ⟨_, e⟩ | ⟨_, e⟩
      · cases e
      · exact k.own j c e, fun j l c c' q h h' a b => by
      rcases getElem?_setS h with ⟨_, e⟩ | ⟨_, e⟩
      · cases e
      rcases getElem?_setS h' with ⟨_, e'⟩ | ⟨_, e'⟩
      · cases e'
      exact k.dis j l c c' q e e' a b, by rw [List.length_set]; exact k.len, k.pb⟩
  obtain ⟨k1, eG⟩ := k0.freeze ho hb hm no hg
  have rp : Rep K (upd G p (.lst vs)) (.lst ds) (.ref p) := rep_lst.mpr ⟨p, vs, rfl, upd_same, hr.mono eG⟩
  refine ⟨_, _, ⟨k1.st, k1.ex, k1.nd, k1.ms, fun j d h => ?_, fun j c h => ?_, fun j l c c' q h h' a b => ?_, by rw [List.length_set]; exact k.len, k.pb⟩, ⟨eG, fun a u h g m n => ?_, fun _ h => h⟩, s1, rp⟩
  · rcases getElem?_setS h with ⟨e1, e⟩ | ⟨ne, e⟩
    · cases e; subst e1; exact ⟨_, s1, rp⟩
    · exact k1.dat j d (by rw [List.getElem?_set_ne (fun q => ne q.symm)]; exact e)
  · rcases getElem?_setS h with ⟨_, e⟩ | ⟨ne, e⟩
    · cases e
    · exact k1.own j c (by rw [List.getElem?_set_ne (fun q => ne q.symm)]; exact e)
  · rcases getElem?_setS h with ⟨_, e⟩ | ⟨_, e⟩
    · cases e
    rcases getElem?_setS h' with ⟨_, e'⟩ | ⟨_, e'⟩
    · cases e'
    exact k.dis j l c c' q e e' a b
  · have ne : a ≠ p := fun e => n ⟨i, _, hi, e ▸ s1⟩
    refine ⟨h, by rw [upd_ne ne]; exact g, m, fun ⟨j, c, h1, h2⟩ => n ?_⟩
    rcases getElem?_setS h1 with ⟨_, e⟩ | ⟨_, e⟩
    · cases e
    · exact ⟨j, c, e, h2⟩
end
end Gw

namespace Gw
open PySem L2
variable {ρ : Ent}

abbrev AE := Sl → Mem → (Ret → Sl → Mem → Prop) → Prop
abbrev AT := Sl → Mem → (Bool → Sl → Mem → Prop) → Prop
abbrev AA := Sl → Mem → (List D → Sl → Mem → Prop) → Prop
abbrev AOp := Ret → Ret → Sl → Mem → (Ret → Sl → Mem → Prop) → Prop
abbrev AUn := Ret → Sl → Mem → (Ret → Sl → Mem → Prop) → Prop
structure AEnds where
  nx : Sl → Mem → Prop
  rt : Ret → Sl → Mem → Prop
  bk : Sl → Mem → Prop
  ct : Sl → Mem → Prop
abbrev AS := AEnds → Sl → Mem → Prop

section
variable (K : PySem.W.Frag) (ρ : Ent)
def Kont (B : Ent) (σ : St) (H G : Hp) (Γ : Sl) (M : Mem) (Q : Ret → Sl → Mem → Prop) (R : VK) : Prop :=
  ∀ v H' G' Γ' M' r, Ok K ρ B σ H' G' Γ' M' → Es σ H G Γ M H' G' Γ' M' → RepR K B σ H H' G' Γ' M' r v → Q r Γ' M' → R v H'
def RdE (te : TE) (ae : AE) : Prop := ∀ B σ H G Γ M Q R, Ok K ρ B σ H G Γ M → ae Γ M Q → Kont K ρ B σ H G Γ M Q R → te σ H R
def RdT (tt : TT) (at' : AT) : Prop := ∀ B σ H G Γ M (Q : Bool → Sl → Mem → Prop) (R : Bool → Hp → Prop), Ok K ρ B σ H G Γ M → at' Γ M Q →
  (∀ b H' G' Γ' M', Ok K ρ B σ H' G' Γ' M' → Es σ H G Γ M H' G' Γ' M' → Q b Γ' M' → R b H') → tt σ H R
def RdA (ta : TA) (aa : AA) : Prop := ∀ B σ H G Γ M (Q : List D → Sl → Mem → Prop) (R : List V → Hp → Prop), Ok K ρ B σ H G Γ M → aa Γ M Q →
  (∀ vs H' G' Γ' M' ds, Ok K ρ B σ H' G' Γ' M' → Es σ H G Γ M H' G' Γ' M' → RepL K G' ds vs → Q ds Γ' M' → R vs H') → ta σ H R
def RdO (r : R2) (ao : AOp) : Prop := ∀ B σ H H1 H2 G Γ M rx ry x y Q R, Ok K ρ B σ H G Γ M → RepR K B σ H1 H G Γ M rx x → RepR K B σ H2 H G Γ M ry y → ao rx ry Γ M Q → Kont K ρ B σ H G Γ M Q R → r x y H R
/-- a call with one value -/
def RdU (r : List V → Hp → VK → Prop) (au : AUn) : Prop := ∀ B σ H H1 G Γ M rx x Q R, Ok K ρ B σ H G Γ M → RepR K B σ H1 H G Γ M rx x → au rx Γ M Q → Kont K ρ B σ H G Γ M Q R → r [x] H R
def RdU2 (r : List V → Hp → VK → Prop) (ao : AOp) : Prop := ∀ B σ H H1 H2 G Γ M rx ry x y Q R, Ok K ρ B σ H G Γ M → RepR K B σ H1 H G Γ M rx x → RepR K B σ H2 H G Γ M ry y → ao rx ry Γ M Q → Kont K ρ B σ H G Γ M Q R → r [x, y] H R
def RdV (r : V → Hp → VK → Prop) (au : AUn) : Prop := ∀ B σ H H1 G Γ M rx x Q R, Ok K ρ B σ H G Γ M → RepR K B σ H1 H G Γ M rx x → au rx Γ M Q → Kont K ρ B σ H G Γ M Q R → r x H R
end
structure QE (X : Cx) (ρ : Ent) (e : Expr) (te : TE) (ae : AE) : Prop where
  pe : PE X e te
  rd : RdE X.K ρ te ae
structure QT (X : Cx) (ρ : Ent) (e : Expr) (tt : TT) (at' : AT) : Prop where
  pe : PT X e tt
  rd : RdT X.K ρ tt at'
structure QW (X : Cx) (ρ : Ent) (e : Expr) (tt : TT) (at' : AT) : Prop where
  pe : PW X e tt
  rd : RdT X.K ρ tt at'
structure QA (X : Cx) (ρ : Ent) (es : List Expr) (ta : TA) (aa : AA) : Prop where
  pe : PA X es ta
  rd : RdA X.K ρ ta aa

section
variable {X : Cx} {a b c : Expr} {ta tb tc te : TE} {aa ab ac ae : AE} {pos : Pos} {K : PySem.W.Frag} {B : Ent} {σ : St} {H G H1 G1 H2 G2 : Hp} {Γ Γ1 Γ2 : Sl} {M M1 M2 : Mem}
theorem Kont.es {Q : Ret → Sl → Mem → Prop} {R : VK} (k : Kont K ρ B σ H G Γ M Q R) (e : Es σ H G Γ M H1 G1 Γ1 M1) : Kont K ρ B σ H1 G1 Γ1 M1 Q R :=
  fun v H' G' Γ' M' r o e' rr q => k v H' G' Γ' M' r o (e.trans e') (rr.old fun p h => e.nn p h) q

/-! ### names, constants -/
def aVar (i : Nat) (Γ : Sl) (M : Mem) (Q : Ret → Sl → Mem → Prop) : Prop := match Γ[i]? with
  | some (.dat d) => Q (.dat d) Γ M
  | some (.own _) => Q (.var i) Γ M
  | _ => False
def aC (d : D) (Γ : Sl) (M : Mem) (Q : Ret → Sl → Mem → Prop) : Prop := Q (.dat d) Γ M
theorem rd_var (i : Nat) : RdE K ρ (tVar i) (aVar i) := by
  intro B σ H G Γ M Q R k h q
  unfold aVar at h
  split at h
  · rename_i d e
    obtain ⟨v, h1, h2⟩ := k.dat i d e
    exact ⟨v, h1, q v H G Γ M (.dat d) k .refl h2 h⟩
  · rename_i c e
    obtain ⟨p, h1, _⟩ := k.own i c e
    exact ⟨_, h1, q _ H G Γ M (.var i) k .refl h1 h⟩
  · exact h.elim
theorem rd_c {v : V} {d : D} (h : ∀ G, Rep K G d v) : RdE K ρ (tC v) (aC d) := fun _ _ H G Γ M _ _ k h' q => q v H G Γ M (.dat d) k .refl (h G) h'
theorem qv (i : Nat) {x : Str} {pos : Pos} (hN : X.N[i]? = some x := by rfl) (hv : Vis X.env.scope x := by first | exact Or.inl rfl | exact Or.inr (Or.inl rfl) | exact Or.inr (Or.inr rfl)) (hd : (x == ("__debug__" : Str)) = false := by decide)
    (hcd : (x == ("__classdict__" : Str)) = false := by decide) : QE X ρ (.Name x pos) (tVar i) (aVar i) := ⟨pe_var hN hv hd hcd, rd_var i⟩
theorem q_int {i j pos} : QE X ρ (.Constant (.int i) j pos) (tC (.int i)) (aC (.int i)) := ⟨pe_int, rd_c fun _ => by rw [Rep]⟩
theorem q_bl {b j pos} : QE X ρ (.Constant (.bool b) j pos) (tC (.bl b)) (aC (.bl b)) := ⟨pe_bl, rd_c fun _ => by rw [Rep]⟩
theorem q_non {j pos} : QE X ρ (.Constant .none j pos) (tC .non) (aC .non) := ⟨pe_non, rd_c fun _ => by rw [Rep]⟩
theorem q_str {x j pos} : QE X ρ (.Constant (.str x) j pos) (tC (.str x)) (aC (.str x)) := ⟨pe_str, rd_c fun _ => by rw [Rep]⟩

/-! ### freezing -/
def frz (r : Ret) (Γ : Sl) (k : D → Sl → Prop) : Prop := match r with
  | .dat d => k d Γ
  | .tmp (.lst ds) => k (.lst ds) Γ
  | .tmp _ => False
  | .var i => match Γ[i]? with
    | some (.dat d) => k d Γ
    | some (.own (.lst ds)) => k (.lst ds) (Γ.set i (.dat (.lst ds)))
    | _ => False
theorem frz_ok {r : Ret} {v : V} {k : D → Sl → Prop} {H0 : Hp} (o : Ok K ρ B σ H1 G1 Γ1 M1) (e : Es σ H G Γ M H1 G1 Γ1 M1) (rr : RepR K B σ H H1 G1 Γ1 M1 r v) (h : frz r Γ1 k) :
    ∃ G2 Γ2 d, Ok K ρ B σ H1 G2 Γ2 M1 ∧ Es σ H G Γ M H1 G2 Γ2 M1 ∧ Rep K G2 d v ∧ k d Γ2 := by
  cases r with
  | dat d => exact ⟨G1, Γ1, d, o, e, rr, h⟩
  | tmp c =>
    obtain ⟨p, rfl, h0, hb, ⟨hg, u, hu, hc⟩, hm, hn⟩ := rr
    cases c with
    | lst ds =>
      obtain ⟨vs, rfl, hr⟩ := hc
      obtain ⟨k1, eG⟩ := o.freeze hu hb hm hn hg
      refine ⟨_, Γ1, .lst ds, k1, ⟨e.g.trans eG, fun a w h g m n => ?_, e.nn⟩, rep_lst.mpr ⟨p, vs, rfl, upd_same, hr.mono eG⟩, h⟩
      obtain ⟨a1, a2, a3, a4⟩ := e.tmp a w h g m n
      have ne : a ≠ p := ne_of_none h h0
      exact ⟨a1, by rw [upd_ne ne]; exact a2, a3, a4⟩
    | dct ks ds => exact h.elim
    | dcT ks ds => exact h.elim
  | var i =>
    unfold frz at h
    dsimp only at h
    split at h
    · rename_i d e1
      obtain ⟨v', h1, h2⟩ := o.dat i d e1
      have : v' = v := by have := (show σ[i]? = some (some v) from rr); rw [h1] at this; cases this; rfl
      subst this
      exact ⟨G1, Γ1, d, o, e, h2, h⟩
    · rename_i ds e1
      obtain ⟨G2, v', k1, e2, h1, h2⟩ := o.frzSlot e1
      have : v' = v := by have := (show σ[i]? = some (some v) from rr); rw [h1] at this; cases this; rfl
      subst this
      exact ⟨G2, _, _, k1, e.trans e2, h2, h⟩
    · exact h.elim
/-- the contents of a sequence: tuple or list -/
inductive Sq where
  | tup (ds : List D) | lst (ds : List D) | scr (ds : List D)
def Sq.ds : Sq → List D
  | .tup ds => ds
  | .lst ds => ds
  | .scr ds => ds
def sqD (M : Mem) : D → Option Sq
  | .tup ds => some (.tup ds)
  | .lst ds => some (.lst ds)
  | .scr ds => some (.scr ds)
  | .ref a => match M.lookup a with
    | some (.lst ds) => some (.lst ds)
    | _ => none
  | _ => none
def sqOf (r : Ret) (Γ : Sl) (M : Mem) : Option Sq := match r with
  | .dat d => sqD M d
  | .tmp (.lst ds) => some (.lst ds)
  | .tmp _ => none
  | .var i => match Γ[i]? with
    | some (.dat d) => sqD M d
    | some (.own (.lst ds)) => some (.lst ds)
    | _ => none
theorem lookup_mem {M : Mem} {a : Addr} {c : Cell} (h : M.lookup a = some c) : (a, c) ∈ M := by
  induction M with
  | nil => cases h
  | cons x M ih =>
    obtain ⟨b, c'⟩ := x
    rw [List.lookup_cons] at h
    by_cases e : a = b
    · subst e; rw [beq_self_eq_true] at h; cases h; exact List.mem_cons_self
    · rw [beq_eq_false_iff_ne.mpr e] at h; exact List.mem_cons_of_mem _ (ih h)
/-- what stands for a sequence -/
def SqR (K : PySem.W.Frag) (H G : Hp) (s : Sq) (v : V) : Prop := match s with
  | .tup ds => ∃ a xs, v = .ref a ∧ SqT K H a xs ∧ RepL K G ds xs
  | .lst ds => ∃ a xs, v = .ref a ∧ H a = some (.lst xs) ∧ RepL K G ds xs
  | .scr ds => ∃ a xs, v = .ref a ∧ SqL K H a xs ∧ RepL K G ds xs
/-- to be read -/
theorem SqR.rd {s : Sq} {v : V} (h : SqR K H G s v) : ∃ a xs, v = .ref a ∧ ((∃ ds, s = .tup ds ∧ SqT K H a xs) ∨ ((∃ ds, s = .lst ds ∨ s = .scr ds) ∧ SqL K H a xs)) ∧ RepL K G s.ds xs := by
  cases s with
  | tup ds => obtain ⟨a, xs, e, h1, h2⟩ := h; exact ⟨a, xs, e, .inl ⟨ds, rfl, h1⟩, h2⟩
  | lst ds => obtain ⟨a, xs, e, h1, h2⟩ := h; exact ⟨a, xs, e, .inr ⟨⟨ds, .inl rfl⟩, SqL.of h1⟩, h2⟩
  | scr ds => obtain ⟨a, xs, e, h1, h2⟩ := h; exact ⟨a, xs, e, .inr ⟨⟨ds, .inr rfl⟩, h1⟩, h2⟩
theorem sqD_ok {d : D} {v : V} {s : Sq} (o : Ok K ρ B σ H G Γ M) (r : Rep K G d v) (h : sqD M d = some s) : SqR K H G s v := by
  unfold sqD at h
  split at h
  · cases h
    obtain ⟨a, xs, e, h1, h2⟩ := rep_tup.mp r
    exact ⟨a, xs, e, ex_t o.ex h1, h2⟩
  · cases h
    obtain ⟨a, xs, e, h1, h2⟩ := rep_lst.mp r
    exact ⟨a, xs, e, o.ex _ _ h1, h2⟩
  · cases h
    obtain ⟨a, xs, e, h1, h2⟩ := rep_scr.mp r
    exact ⟨a, xs, e, ex_l o.ex h1, h2⟩
  · rename_i a
    split at h
    · rename_i ds e
      cases h
      obtain ⟨_, u, hu, vs, rfl, hr⟩ := o.ms a _ (lookup_mem e)
      rw [Rep] at r
      exact ⟨a, vs, r, hu, hr⟩
    · cases h
  · cases h
theorem sqOf_ok {r : Ret} {v : V} {s : Sq} {H0 : Hp} (o : Ok K ρ B σ H G Γ M) (rr : RepR K B σ H0 H G Γ M r v) (h : sqOf r Γ M = some s) : SqR K H G s v := by
  cases r with
  | dat d => exact sqD_ok o rr h
  | tmp c =>
    cases c with
    | lst ds =>
      cases h
      obtain ⟨p, rfl, h0, hb, ⟨hg, u, hu, vs, rfl, hr⟩, hm, hn⟩ := rr
      exact ⟨p, vs, rfl, hu, hr⟩
    | dct ks ds => cases h
    | dcT ks ds => cases h
  | var i =>
    unfold sqOf at h
    dsimp only at h
    split at h
    · rename_i d e1
      obtain ⟨v', h1, h2⟩ := o.dat i d e1
      have : v' = v := by have := (show σ[i]? = some (some v) from rr); rw [h1] at this; cases this; rfl
      subst this
      exact sqD_ok o h2 h
    · rename_i ds e1
      cases h
      obtain ⟨p, s1, hb, hm, hg, u, ho, vs, rfl, hr⟩ := o.own i _ e1
      have : v = .ref p := by have := (show σ[i]? = some (some v) from rr); rw [s1] at this; cases this; rfl
      subst this
      exact ⟨p, vs, rfl, ho, hr⟩
    · cases h

/-! ### operators -/
def aOp (ao : AOp) (aa ab : AE) (Γ : Sl) (M : Mem) (Q : Ret → Sl → Mem → Prop) : Prop := aa Γ M fun x Γ1 M1 => ab Γ1 M1 fun y Γ2 M2 => ao x y Γ2 M2 Q
theorem rd_op {r : R2} {ao : AOp} (ho : RdO K ρ r ao) (ha : RdE K ρ ta aa) (hb : RdE K ρ tb ab) : RdE K ρ (tOp r ta tb) (aOp ao aa ab) := by
  intro B σ H G Γ M Q R k h q
  refine ha B σ H G Γ M _ _ k h fun v H1 G1 Γ1 M1 r1 k1 e1 rr1 h1 => ?_
  refine hb B σ H1 G1 Γ1 M1 _ _ k1 h1 fun u H2 G2 Γ2 M2 r2 k2 e2 rr2 h2 => ?_
  exact ho B σ H2 _ _ G2 Γ2 M2 r1 r2 v u Q R k2 (rr1.es e2) rr2 h2 (q.es (e1.trans e2))
theorem q_op {op : Operator} {r : R2} {ao : AOp} (ho : OpR X (binaryOp op) r) (hr : RdO X.K ρ r ao) (ha : QE X ρ a ta aa) (hb : QE X ρ b tb ab) : QE X ρ (.BinOp a op b pos) (tOp r ta tb) (aOp ao aa ab) := ⟨pe_op ho ha.pe hb.pe, rd_op hr ha.rd hb.rd⟩
structure CmpR (X : Cx) (ρ : Ent) (op : CmpOp) (r : R2) (ao : AOp) : Prop where
  ho : OpR X (compareOp op) r
  rd : RdO X.K ρ r ao
theorem q_cmp {op : CmpOp} {r : R2} {ao : AOp} (c : CmpR X ρ op r ao) (ha : QE X ρ a ta aa) (hb : QE X ρ b tb ab) (hm : behindInMarks op b = false := by first | exact nomark _ | rfl) : QE X ρ (.Compare a [op] [b] pos) (tOp r ta tb) (aOp ao aa ab) :=
  ⟨pe_cmpR c.ho ha.pe hb.pe hm, rd_op c.rd ha.rd hb.rd⟩
theorem q_ix {r : R2} {ao : AOp} (ho : IxR X r) (hr : RdO X.K ρ r ao) (ha : QE X ρ a ta aa) (hb : QE X ρ b tb ab) (hs : PlainIx b := by exact fun _ _ => rfl) : QE X ρ (.Subscript a b pos) (tOp r ta tb) (aOp ao aa ab) := ⟨pe_ix ho ha.pe hb.pe hs, rd_op hr ha.rd hb.rd⟩
def aI0 (g : Int → Int → D) (x : Ret) (y : Ret) (Γ : Sl) (M : Mem) (Q : Ret → Sl → Mem → Prop) : Prop := match x, y with
  | .dat (.int i), .dat (.int j) => Q (.dat (g i j)) Γ M
  | _, _ => False
def aIC (C : Int → Int → Prop) (g : Int → Int → D) (x : Ret) (y : Ret) (Γ : Sl) (M : Mem) (Q : Ret → Sl → Mem → Prop) : Prop := match x, y with
  | .dat (.int i), .dat (.int j) => C i j ∧ Q (.dat (g i j)) Γ M
  | _, _ => False
theorem rd_I0 {g : Int → Int → V} {g' : Int → Int → D} (hg : ∀ i j G, Rep K G (g' i j) (g i j)) : RdO K ρ (rI0 g) (aI0 g') := by
  intro B σ H H1 H2 G Γ M rx ry x y Q R k r1 r2 h q
  unfold aI0 at h
  split at h
  · rename_i i j
    have e1 : x = .int i := by have := r1; simp only [RepR, Rep] at this; exact this
    have e2 : y = .int j := by have := r2; simp only [RepR, Rep] at this; exact this
    exact ⟨i, j, e1, e2, q _ H G Γ M (.dat _) k .refl (hg i j G) h⟩
  · exact h.elim
theorem rd_IC {C : Int → Int → Prop} {g : Int → Int → V} {g' : Int → Int → D} (hg : ∀ i j G, Rep K G (g' i j) (g i j)) : RdO K ρ (rI C g) (aIC C g') := by
  intro B σ H H1 H2 G Γ M rx ry x y Q R k r1 r2 h q
  unfold aIC at h
  split at h
  · rename_i i j
    have e1 : x = .int i := by have := r1; simp only [RepR, Rep] at this; exact this
    have e2 : y = .int j := by have := r2; simp only [RepR, Rep] at this; exact this
    exact ⟨i, j, e1, e2, h.1, q _ H G Γ M (.dat _) k .refl (hg i j G) h.2⟩
  · exact h.elim
theorem q_add (ha : QE X ρ a ta aa) (hb : QE X ρ b tb ab) : QE X ρ (.BinOp a .Add b pos) (tOp (rI0 fun i j => .int (i + j)) ta tb) (aOp (aI0 fun i j => .int (i + j)) aa ab) := q_op op_add (rd_I0 fun _ _ _ => by rw [Rep]) ha hb
theorem q_sub (ha : QE X ρ a ta aa) (hb : QE X ρ b tb ab) : QE X ρ (.BinOp a .Sub b pos) (tOp (rI0 fun i j => .int (i - j)) ta tb) (aOp (aI0 fun i j => .int (i - j)) aa ab) := q_op op_sub (rd_I0 fun _ _ _ => by rw [Rep]) ha hb
/-- a product that fits: one factor small, or both together not too great -/
def CM (i j : Int) : Prop := CMul i j ∨ CMulW i j
theorem op_mulA : OpR X (binaryOp .Mult) (rI CM fun i j => .int (i * j)) := fun pins s σ H x y v u Q I rx ry h => by
  obtain ⟨i, j, e1, e2, hc, q⟩ := h
  rcases hc with hc | hc
  · exact op_mul pins s σ H x y v u Q I rx ry ⟨i, j, e1, e2, hc, q⟩
  · exact op_mulW pins s σ H x y v u Q I rx ry ⟨i, j, e1, e2, hc, q⟩
theorem q_mul (ha : QE X ρ a ta aa) (hb : QE X ρ b tb ab) : QE X ρ (.BinOp a .Mult b pos) (tOp (rI CM fun i j => .int (i * j)) ta tb) (aOp (aIC CM fun i j => .int (i * j)) aa ab) := q_op op_mulA (rd_IC fun _ _ _ => by rw [Rep]) ha hb
theorem q_mod (ha : QE X ρ a ta aa) (hb : QE X ρ b tb ab) : QE X ρ (.BinOp a .Mod b pos) (tOp (rI (fun _ j => j ≠ 0) fun i j => .int (i.fmod j)) ta tb) (aOp (aIC (fun _ j => j ≠ 0) fun i j => .int (i.fmod j)) aa ab) := q_op op_modN (rd_IC fun _ _ _ => by rw [Rep]) ha hb
theorem q_div (ha : QE X ρ a ta aa) (hb : QE X ρ b tb ab) : QE X ρ (.BinOp a .FloorDiv b pos) (tOp (rI CDivW fun i j => .int (i / j)) ta tb) (aOp (aIC CDivW fun i j => .int (i / j)) aa ab) := q_op op_fdivW (rd_IC fun _ _ _ => by rw [Rep]) ha hb
theorem q_pow (ha : QE X ρ a ta aa) (hb : QE X ρ b tb ab) : QE X ρ (.BinOp a .Pow b pos) (tOp (rI CPow fun i j => .int (i ^ j.toNat)) ta tb) (aOp (aIC CPow fun i j => .int (i ^ j.toNat)) aa ab) := q_op op_pow (rd_IC fun _ _ _ => by rw [Rep]) ha hb
theorem c_lt : CmpR X ρ .Lt (rI0 fun i j => .bl (decide (i < j))) (aI0 fun i j => .bl (decide (i < j))) := ⟨op_lt, rd_I0 fun _ _ _ => by rw [Rep]⟩
theorem c_le : CmpR X ρ .LtE (rI0 fun i j => .bl (decide (i ≤ j))) (aI0 fun i j => .bl (decide (i ≤ j))) := ⟨op_le, rd_I0 fun _ _ _ => by rw [Rep]⟩
theorem c_gt : CmpR X ρ .Gt (rI0 fun i j => .bl (decide (j < i))) (aI0 fun i j => .bl (decide (j < i))) := ⟨op_gt, rd_I0 fun _ _ _ => by rw [Rep]⟩
theorem c_ge : CmpR X ρ .GtE (rI0 fun i j => .bl (decide (j ≤ i))) (aI0 fun i j => .bl (decide (j ≤ i))) := ⟨op_ge, rd_I0 fun _ _ _ => by rw [Rep]⟩

/-! ### argument lists, tuples, lists -/
def aNil (Γ : Sl) (M : Mem) (Q : List D → Sl → Mem → Prop) : Prop := Q [] Γ M
def aCons (aa : AE) (ar : AA) (Γ : Sl) (M : Mem) (Q : List D → Sl → Mem → Prop) : Prop := aa Γ M fun r Γ1 M1 => frz r Γ1 fun d Γ2 => ar Γ2 M1 fun ds Γ3 M3 => Q (d :: ds) Γ3 M3
theorem rd_nil : RdA K ρ tNil aNil := fun _ _ H G Γ M _ _ k h q => q [] H G Γ M [] k .refl (repL_nil.mpr rfl) h
theorem rd_cons {tr : TA} {ar : AA} (ha : RdE K ρ ta aa) (hr : RdA K ρ tr ar) : RdA K ρ (tCons ta tr) (aCons aa ar) := by
  intro B σ H G Γ M Q R k h q
  refine ha B σ H G Γ M _ _ k h fun v H1 G1 Γ1 M1 r k1 e1 rr h1 => ?_
  obtain ⟨G2, Γ2, d, k2, e2, rp, h2⟩ := frz_ok (H0 := H) k1 e1 rr h1
  refine hr B σ H1 G2 Γ2 M1 _ _ k2 h2 fun vs H3 G3 Γ3 M3 ds k3 e3 rl h3 => ?_
  exact q _ H3 G3 Γ3 M3 (d :: ds) k3 (e2.trans e3) (repL_cons.mpr ⟨v, vs, rfl, rp.mono e3.g, rl⟩) h3
theorem qa_nil : QA X ρ [] tNil aNil := ⟨pa_nil, rd_nil⟩
theorem qa_cons {es : List Expr} {tr : TA} {ar : AA} (ha : QE X ρ a ta aa) (hr : QA X ρ es tr ar) (hs : starEach (a :: es) X.env = (false, eval a X.env) :: starEach es X.env := by rfl) : QA X ρ (a :: es) (tCons ta tr) (aCons aa ar) := ⟨pa_cons ha.pe hr.pe hs, rd_cons ha.rd hr.rd⟩
def aTup (aa : AA) (Γ : Sl) (M : Mem) (Q : Ret → Sl → Mem → Prop) : Prop := aa Γ M fun ds Γ1 M1 => ds.length ≤ sizeLine ∧ Q (.dat (.tup ds)) Γ1 M1
def aLst (aa : AA) (Γ : Sl) (M : Mem) (Q : Ret → Sl → Mem → Prop) : Prop := aa Γ M fun ds Γ1 M1 => ds.length ≤ sizeLine ∧ Q (.tmp (.lst ds)) Γ1 M1
theorem rd_tup {tr : TA} {ar : AA} (ha : RdA K ρ tr ar) : RdE K ρ (tTup tr) (aTup ar) := by
  intro B σ H G Γ M Q R k h q
  refine ha B σ H G Γ M _ _ k h fun vs H1 G1 Γ1 M1 ds k1 e1 rl ⟨hl, h1⟩ => ⟨by rw [rl.length]; exact hl, fun p hp => ?_⟩
  obtain ⟨k2, e2⟩ := k1.new (o := .tup vs) hp
  exact q _ _ _ Γ1 M1 (.dat (.tup ds)) k2 (e1.trans e2) (rep_tup.mpr ⟨p, vs, rfl, SqT.of upd_same, rl.mono e2.g⟩) h1
theorem rd_lst {tr : TA} {ar : AA} (ha : RdA K ρ tr ar) : RdE K ρ (tLst tr) (aLst ar) := by
  intro B σ H G Γ M Q R k h q
  refine ha B σ H G Γ M _ _ k h fun vs H1 G1 Γ1 M1 ds k1 e1 rl ⟨hl, h1⟩ => ⟨by rw [rl.length]; exact hl, fun p hp => ?_⟩
  obtain ⟨k2, e2, hm, hn, hb, hg⟩ := k1.tmp (o := .lst vs) hp
  exact q _ _ _ Γ1 M1 (.tmp (.lst ds)) k2 (e1.trans e2) ⟨p, rfl, e1.nn p hp, hb, ⟨hg, _, upd_same, vs, rfl, rl⟩, hm, hn⟩ h1
theorem q_tup {es : List Expr} {x1} {tr : TA} {ar : AA} (h : QA X ρ es tr ar) : QE X ρ (.Tuple es x1 pos) (tTup tr) (aTup ar) := ⟨pe_tup h.pe, rd_tup h.rd⟩
theorem q_lst {es : List Expr} {tr : TA} {ar : AA} (h : QA X ρ es tr ar) : QE X ρ (.List es pos) (tLst tr) (aLst ar) := ⟨pe_lst h.pe, rd_lst h.rd⟩
/-- a new list, a new tuple out of values that stand for data -/
theorem Kont.newL {Q : Ret → Sl → Mem → Prop} {R : VK} {ds : List D} {vs : List V} (q : Kont K ρ B σ H G Γ M Q R) (k : Ok K ρ B σ H G Γ M) (rl : RepL K G ds vs) (h : Q (.tmp (.lst ds)) Γ M) : ∀ p, H p = none → R (.ref p) (upd H p (.lst vs)) := fun p hp => by
  obtain ⟨k2, e2, hm, hn, hb, hg⟩ := k.tmp (o := .lst vs) hp
  exact q _ _ _ Γ M (.tmp (.lst ds)) k2 e2 ⟨p, rfl, hp, hb, ⟨hg, _, upd_same, vs, rfl, rl⟩, hm, hn⟩ h
theorem Kont.newT {Q : Ret → Sl → Mem → Prop} {R : VK} {ds : List D} {vs : List V} (q : Kont K ρ B σ H G Γ M Q R) (k : Ok K ρ B σ H G Γ M) (rl : RepL K G ds vs) (h : Q (.dat (.tup ds)) Γ M) : ∀ p, H p = none → R (.ref p) (upd H p (.tup vs)) := fun p hp => by
  obtain ⟨k2, e2⟩ := k.new (o := .tup vs) hp
  exact q _ _ _ Γ M (.dat (.tup ds)) k2 e2 (rep_tup.mpr ⟨p, vs, rfl, SqT.of upd_same, rl.mono e2.g⟩) h

/-! ### tests -/
def aTst (aa : AE) (Γ : Sl) (M : Mem) (Q : Bool → Sl → Mem → Prop) : Prop := aa Γ M fun r Γ1 M1 => match r with
  | .dat (.bl b) => Q b Γ1 M1
  | _ => False
theorem rd_tst (ha : RdE K ρ ta aa) : RdT K ρ (tB ta) (aTst aa) := by
  intro B σ H G Γ M Q R k h q
  refine ha B σ H G Γ M _ _ k h fun v H1 G1 Γ1 M1 r k1 e1 rr h1 => ?_
  split at h1
  · rename_i b
    have e : v = .bl b := by have := rr; simp only [RepR, Rep] at this; exact this
    exact ⟨b, e, q b H1 G1 Γ1 M1 k1 e1 h1⟩
  · exact h1.elim
theorem qt_val (ha : QE X ρ a ta aa) (he : ∀ whole, isTrue a X.env whole = (do let v ← whole; standAt a.pos; holding [v] (truthy v)) := by intro _; rfl) : QT X ρ a (tB ta) (aTst aa) := ⟨pt_val ha.pe he, rd_tst ha.rd⟩
theorem rd_tst' (ha : RdE K ρ ta aa) : RdT K ρ (tTest ta) (aTst aa) := rd_tst ha
theorem qt_cmp {op : CmpOp} {r : R2} {ao : AOp} (c : CmpR X ρ op r ao) (ha : QE X ρ a ta aa) (hb : QE X ρ b tb ab) (hm : behindInMarks op b = false := by first | exact nomark _ | rfl) : QT X ρ (.Compare a [op] [b] pos) (tTest (tOp r ta tb)) (aTst (aOp ao aa ab)) :=
  ⟨pt_cmpR c.ho ha.pe hb.pe hm, rd_tst' (rd_op c.rd ha.rd hb.rd)⟩
def aChain (ao ao' : AOp) (aa ab ac : AE) (Γ : Sl) (M : Mem) (Q : Ret → Sl → Mem → Prop) : Prop := aa Γ M fun x Γ1 M1 => ab Γ1 M1 fun y Γ2 M2 => ao x y Γ2 M2 fun z Γ3 M3 => match z with
  | .dat (.bl k) => if k = true then ac Γ3 M3 fun w Γ4 M4 => ao' y w Γ4 M4 Q else Q (.dat (.bl false)) Γ3 M3
  | _ => False
theorem rd_chain {r r' : R2} {ao ao' : AOp} (ho : RdO K ρ r ao) (ho' : RdO K ρ r' ao') (ha : RdE K ρ ta aa) (hb : RdE K ρ tb ab) (hc : RdE K ρ tc ac) : RdE K ρ (tChain r r' ta tb tc) (aChain ao ao' aa ab ac) := by
  intro B σ H G Γ M Q R k h q
  refine ha B σ H G Γ M _ _ k h fun v H1 G1 Γ1 M1 r1 k1 e1 rr1 h1 => ?_
  refine hb B σ H1 G1 Γ1 M1 _ _ k1 h1 fun u H2 G2 Γ2 M2 r2 k2 e2 rr2 h2 => ?_
  refine ho B σ H2 _ _ G2 Γ2 M2 r1 r2 v u _ _ k2 (rr1.es e2) rr2 h2 fun z H3 G3 Γ3 M3 r3 k3 e3 rr3 h3 => ?_
  split at h3
  · rename_i c
    have e : z = .bl c := by have := rr3; simp only [RepR, Rep] at this; exact this
    refine ⟨c, e, ?_⟩
    cases c with
    | true => exact hc B σ H3 G3 Γ3 M3 _ _ k3 (by simpa using h3) fun w H4 G4 Γ4 M4 r4 k4 e4 rr4 h4 => ho' B σ H4 _ _ G4 Γ4 M4 r2 r4 u w Q R k4 ((rr2.es e3).es e4) rr4 h4 (q.es (((e1.trans e2).trans e3).trans e4))
    | false => exact q _ H3 G3 Γ3 M3 (.dat (.bl false)) k3 ((e1.trans e2).trans e3) (by simp only [RepR, Rep]) (by simpa using h3)
  · exact h3.elim
theorem q_chain {op op' : CmpOp} {r r' : R2} {ao ao' : AOp} (c1 : CmpR X ρ op r ao) (c2 : CmpR X ρ op' r' ao') (ha : QE X ρ a ta aa) (hb : QE X ρ b tb ab) (hc : QE X ρ c tc ac) (hm : lastMarks [op, op'] [b, c] = false := by with_unfolding_all rfl) :
    QE X ρ (.Compare a [op, op'] [b, c] pos) (tChain r r' ta tb tc) (aChain ao ao' aa ab ac) := ⟨pe_chain c1.ho c2.ho ha.pe hb.pe hc.pe hm, rd_chain c1.rd c2.rd ha.rd hb.rd hc.rd⟩
theorem qt_chain {op op' : CmpOp} {r r' : R2} {ao ao' : AOp} (c1 : CmpR X ρ op r ao) (c2 : CmpR X ρ op' r' ao') (ha : QE X ρ a ta aa) (hb : QE X ρ b tb ab) (hc : QE X ρ c tc ac) (hm : lastMarks [op, op'] [b, c] = false := by with_unfolding_all rfl) :
    QT X ρ (.Compare a [op, op'] [b, c] pos) (tTest (tChain r r' ta tb tc)) (aTst (aChain ao ao' aa ab ac)) := ⟨pt_chain c1.ho c2.ho ha.pe hb.pe hc.pe hm, rd_tst' (rd_chain c1.rd c2.rd ha.rd hb.rd hc.rd)⟩
def aAnd (t u : AT) (Γ : Sl) (M : Mem) (Q : Bool → Sl → Mem → Prop) : Prop := t Γ M fun c Γ1 M1 => if c = true then u Γ1 M1 Q else Q false Γ1 M1
def aOr (t u : AT) (Γ : Sl) (M : Mem) (Q : Bool → Sl → Mem → Prop) : Prop := t Γ M fun c Γ1 M1 => if c = true then Q true Γ1 M1 else u Γ1 M1 Q
def aNot (t : AT) (Γ : Sl) (M : Mem) (Q : Bool → Sl → Mem → Prop) : Prop := t Γ M fun c Γ1 M1 => Q (!c) Γ1 M1
theorem rd_and {tA tC : TT} {aA aC : AT} (ha : RdT K ρ tA aA) (hb : RdT K ρ tC aC) : RdT K ρ (tAnd tA tC) (aAnd aA aC) := by
  intro B σ H G Γ M Q R k h q
  refine ha B σ H G Γ M _ _ k h fun c H1 G1 Γ1 M1 k1 e1 h1 => ?_
  cases c with
  | true => exact hb B σ H1 G1 Γ1 M1 _ _ k1 (by simpa using h1) fun b H2 G2 Γ2 M2 k2 e2 h2 => q b H2 G2 Γ2 M2 k2 (e1.trans e2) h2
  | false => exact q false H1 G1 Γ1 M1 k1 e1 (by simpa using h1)
theorem rd_or {tA tC : TT} {aA aC : AT} (ha : RdT K ρ tA aA) (hb : RdT K ρ tC aC) : RdT K ρ (tOr tA tC) (aOr aA aC) := by
  intro B σ H G Γ M Q R k h q
  refine ha B σ H G Γ M _ _ k h fun c H1 G1 Γ1 M1 k1 e1 h1 => ?_
  cases c with
  | false => exact hb B σ H1 G1 Γ1 M1 _ _ k1 (by simpa using h1) fun b H2 G2 Γ2 M2 k2 e2 h2 => q b H2 G2 Γ2 M2 k2 (e1.trans e2) h2
  | true => exact q true H1 G1 Γ1 M1 k1 e1 (by simpa using h1)
theorem rd_not {tA : TT} {aA : AT} (ha : RdT K ρ tA aA) : RdT K ρ (tNot tA) (aNot aA) := by
  intro B σ H G Γ M Q R k h q
  exact ha B σ H G Γ M _ _ k h fun c H1 G1 Γ1 M1 k1 e1 h1 => q _ H1 G1 Γ1 M1 k1 e1 h1
theorem qw_and1 {tA : TT} {aA : AT} (ha : QT X ρ a tA aA) : QW X ρ (.BoolOp .And [a] pos) tA aA := ⟨pw_and1 ha.pe, ha.rd⟩
theorem qw_or1 {tA : TT} {aA : AT} (ha : QT X ρ a tA aA) : QW X ρ (.BoolOp .Or [a] pos) tA aA := ⟨pw_or1 ha.pe, ha.rd⟩
theorem qw_and {rest : List Expr} {tA tC : TT} {aA aC : AT} (ha : QT X ρ a tA aA) (hb : QW X ρ (.BoolOp .And (b :: rest) pos) tC aC) : QW X ρ (.BoolOp .And (a :: b :: rest) pos) (tAnd tA tC) (aAnd aA aC) := ⟨pw_and ha.pe hb.pe, rd_and ha.rd hb.rd⟩
theorem qw_or {rest : List Expr} {tA tC : TT} {aA aC : AT} (ha : QT X ρ a tA aA) (hb : QW X ρ (.BoolOp .Or (b :: rest) pos) tC aC) : QW X ρ (.BoolOp .Or (a :: b :: rest) pos) (tOr tA tC) (aOr aA aC) := ⟨pw_or ha.pe hb.pe, rd_or ha.rd hb.rd⟩
theorem QW.qt {t : TT} {at' : AT} (h : QW X ρ a t at') : QT X ρ a t at' := ⟨h.pe.pt, h.rd⟩
theorem qt_not {tA : TT} {aA : AT} (ha : QT X ρ a tA aA) : QT X ρ (.UnaryOp .Not a pos) (tNot tA) (aNot aA) := ⟨pt_not ha.pe, rd_not ha.rd⟩
/-! values of and, or, not (all but the last truths) -/
def aAndV (aa ab : AE) (Γ : Sl) (M : Mem) (Q : Ret → Sl → Mem → Prop) : Prop := aa Γ M fun r Γ1 M1 => match r with
  | .dat (.bl c) => if c = true then ab Γ1 M1 Q else Q (.dat (.bl false)) Γ1 M1
  | _ => False
def aOrV (aa ab : AE) (Γ : Sl) (M : Mem) (Q : Ret → Sl → Mem → Prop) : Prop := aa Γ M fun r Γ1 M1 => match r with
  | .dat (.bl c) => if c = true then Q (.dat (.bl true)) Γ1 M1 else ab Γ1 M1 Q
  | _ => False
def aNotV (aa : AE) (Γ : Sl) (M : Mem) (Q : Ret → Sl → Mem → Prop) : Prop := aa Γ M fun r Γ1 M1 => match r with
  | .dat (.bl c) => Q (.dat (.bl (!c))) Γ1 M1
  | _ => False
theorem rd_andV (ha : RdE K ρ ta aa) (hb : RdE K ρ tb ab) : RdE K ρ (tAndV ta tb) (aAndV aa ab) := by
  intro B σ H G Γ M Q R k h q
  refine ha B σ H G Γ M _ _ k h fun v H1 G1 Γ1 M1 r k1 e1 rr h1 => ?_
  split at h1
  · rename_i c
    have e : v = .bl c := by have := rr; simp only [RepR, Rep] at this; exact this
    refine ⟨c, e, ?_⟩
    cases c with
    | true => exact hb B σ H1 G1 Γ1 M1 _ _ k1 (by simpa using h1) (q.es e1)
    | false => exact q _ H1 G1 Γ1 M1 (.dat (.bl false)) k1 e1 (by simp only [RepR, Rep]) (by simpa using h1)
  · exact h1.elim
theorem rd_orV (ha : RdE K ρ ta aa) (hb : RdE K ρ tb ab) : RdE K ρ (tOrV ta tb) (aOrV aa ab) := by
  intro B σ H G Γ M Q R k h q
  refine ha B σ H G Γ M _ _ k h fun v H1 G1 Γ1 M1 r k1 e1 rr h1 => ?_
  split at h1
  · rename_i c
    have e : v = .bl c := by have := rr; simp only [RepR, Rep] at this; exact this
    refine ⟨c, e, ?_⟩
    cases c with
    | false => exact hb B σ H1 G1 Γ1 M1 _ _ k1 (by simpa using h1) (q.es e1)
    | true => exact q _ H1 G1 Γ1 M1 (.dat (.bl true)) k1 e1 (by simp only [RepR, Rep]) (by simpa using h1)
  · exact h1.elim
theorem rd_notV (ha : RdE K ρ ta aa) : RdE K ρ (tNotV ta) (aNotV aa) := by
  intro B σ H G Γ M Q R k h q
  refine ha B σ H G Γ M _ _ k h fun v H1 G1 Γ1 M1 r k1 e1 rr h1 => ?_
  split at h1
  · rename_i c
    have e : v = .bl c := by have := rr; simp only [RepR, Rep] at this; exact this
    exact ⟨c, e, q _ H1 G1 Γ1 M1 (.dat (.bl (!c))) k1 e1 (by simp only [RepR, Rep]) h1⟩
  · exact h1.elim
theorem q_one {op} (h : QE X ρ a ta aa) : QE X ρ (.BoolOp op [a] pos) ta aa := ⟨pe_one h.pe, h.rd⟩
theorem q_and {rest : List Expr} (ha : QE X ρ a ta aa) (hb : QE X ρ (.BoolOp .And (b :: rest) pos) tb ab) : QE X ρ (.BoolOp .And (a :: b :: rest) pos) (tAndV ta tb) (aAndV aa ab) := ⟨pe_and ha.pe hb.pe, rd_andV ha.rd hb.rd⟩
theorem q_or {rest : List Expr} (ha : QE X ρ a ta aa) (hb : QE X ρ (.BoolOp .Or (b :: rest) pos) tb ab) : QE X ρ (.BoolOp .Or (a :: b :: rest) pos) (tOrV ta tb) (aOrV aa ab) := ⟨pe_or ha.pe hb.pe, rd_orV ha.rd hb.rd⟩
theorem q_not (ha : QE X ρ a ta aa) : QE X ρ (.UnaryOp .Not a pos) (tNotV ta) (aNotV aa) := ⟨pe_not ha.pe, rd_notV ha.rd⟩
def aIfE (t : AT) (aa ab : AE) (Γ : Sl) (M : Mem) (Q : Ret → Sl → Mem → Prop) : Prop := t Γ M fun c Γ1 M1 => if c = true then aa Γ1 M1 Q else ab Γ1 M1 Q
theorem q_ifExp {tA : TT} {aA : AT} (hc : QT X ρ c tA aA) (ha : QE X ρ a ta aa) (hb : QE X ρ b tb ab) : QE X ρ (.IfExp c a b pos) (tIf tA ta tb) (aIfE aA aa ab) := ⟨pe_ifExp hc.pe ha.pe hb.pe, by
  intro B σ H G Γ M Q R k h q
  refine hc.rd B σ H G Γ M _ _ k h fun c H1 G1 Γ1 M1 k1 e1 h1 => ?_
  cases c with
  | true => exact ha.rd B σ H1 G1 Γ1 M1 _ _ k1 (by simpa using h1) (q.es e1)
  | false => exact hb.rd B σ H1 G1 Γ1 M1 _ _ k1 (by simpa using h1) (q.es e1)⟩
/-! unary minus -/
def aUn (au : AUn) (aa : AE) (Γ : Sl) (M : Mem) (Q : Ret → Sl → Mem → Prop) : Prop := aa Γ M fun r Γ1 M1 => au r Γ1 M1 Q
theorem q_un {op : UnaryOp} {r : V → Hp → VK → Prop} {au : AUn} (ho : UnR X (unaryOp op) r) (hr : RdV X.K ρ r au) (ha : QE X ρ a ta aa) : QE X ρ (.UnaryOp op a pos) (tUn r ta) (aUn au aa) := ⟨pe_un ho ha.pe, fun B σ H G Γ M Q R k h q =>
  ha.rd B σ H G Γ M _ _ k h fun v H1 G1 Γ1 M1 rr k1 e1 r1 h1 => hr B σ H1 _ G1 Γ1 M1 rr v Q R k1 r1 h1 (q.es e1)⟩
def aNeg (r : Ret) (Γ : Sl) (M : Mem) (Q : Ret → Sl → Mem → Prop) : Prop := match r with
  | .dat (.int i) => Q (.dat (.int (-i))) Γ M
  | _ => False
theorem q_neg (ha : QE X ρ a ta aa) : QE X ρ (.UnaryOp .USub a pos) (tUn (rU fun i => .int (-i)) ta) (aUn aNeg aa) := q_un un_neg (fun B σ H H1 G Γ M rx x Q R k r1 h q => by
  unfold aNeg at h
  split at h
  · rename_i i
    have e1 : x = .int i := by have := r1; simp only [RepR, Rep] at this; exact this
    exact ⟨i, e1, q _ H G Γ M (.dat (.int (-i))) k .refl (by simp only [RepR, Rep]) h⟩
  · exact h.elim) ha

/-! ### data compared -/
mutual
def toPy : D → PyData
  | .non => .none
  | .bl b => .bool b
  | .int i => .int i
  | .str x => .str x
  | .tup ds => .tuple (toPyL ds)
  | .lst ds => .list (toPyL ds)
  | .scr ds => .list (toPyL ds)
  | .ref _ => .none
  | .dct _ _ => .none
  | .exc _ _ _ => .none
  | .dcT _ _ => .none
def toPyL : List D → List PyData
  | [] => []
  | d :: ds => toPy d :: toPyL ds
end
mutual
def plain : D → Bool
  | .tup ds => plainL ds
  | .lst ds => plainL ds
  | .scr ds => plainL ds
  | .ref _ => false
  | .dct _ _ => false
  | .exc _ _ _ => false
  | .dcT _ _ => false
  | .non => true
  | .bl _ => true
  | .int _ => true
  | .str _ => true
def plainL : List D → Bool
  | [] => true
  | d :: ds => plain d && plainL ds
end
mutual
theorem Rep.dp : ∀ {d : D} {v : V}, Rep K H d v → plain d = true → Dp K H v (toPy d)
  | .non, _, h, _ => by rw [Rep] at h; subst h; rw [toPy]; exact .non
  | .bl b, _, h, _ => by rw [Rep] at h; subst h; rw [toPy]; exact .bl b
  | .int i, _, h, _ => by rw [Rep] at h; subst h; rw [toPy]; exact .int i
  | .str x, _, h, _ => by rw [Rep] at h; subst h; rw [toPy]; exact .str x
  | .ref a, _, h, p => by rw [plain] at p; cases p
  | .dct _ _, _, h, p => by rw [plain] at p; cases p
  | .exc _ _ _, _, h, p => by rw [plain] at p; cases p
  | .dcT _ _, _, h, p => by rw [plain] at p; cases p
  | .tup ds, _, h, p => by
    obtain ⟨a, xs, rfl, h1, h2⟩ := rep_tup.mp h
    rw [toPy]; exact .tup h1 (RepL.dp h2 (by rw [plain] at p; exact p))
  | .lst ds, _, h, p => by
    obtain ⟨a, xs, rfl, h1, h2⟩ := rep_lst.mp h
    rw [toPy]; exact .lst (SqL.of h1) (RepL.dp h2 (by rw [plain] at p; exact p))
  | .scr ds, _, h, p => by
    obtain ⟨a, xs, rfl, h1, h2⟩ := rep_scr.mp h
    rw [toPy]; exact .lst h1 (RepL.dp h2 (by rw [plain] at p; exact p))
theorem RepL.dp : ∀ {ds : List D} {vs : List V}, RepL K H ds vs → plainL ds = true → DpAll K H vs (toPyL ds)
  | [], _, h, _ => by rw [repL_nil.mp h, toPyL]; exact .nil
  | d :: ds, _, h, p => by
    obtain ⟨x, r, rfl, h1, h2⟩ := repL_cons.mp h
    rw [plainL, Bool.and_eq_true] at p
    rw [toPyL]; exact .cons (Rep.dp h1 p.1) (RepL.dp h2 p.2)
end
def dOf (r : Ret) (Γ : Sl) (M : Mem) : Option D := match r with
  | .dat (.ref a) => match M.lookup a with
    | some (.lst ds) => some (.lst ds)
    | _ => none
  | .dat d => some d
  | .tmp (.lst ds) => some (.lst ds)
  | .tmp _ => none
  | .var i => match Γ[i]? with
    | some (.dat d) => some d
    | some (.own (.lst ds)) => some (.lst ds)
    | _ => none
theorem dOf_ok {r : Ret} {v : V} {d : D} {H0 : Hp} (o : Ok K ρ B σ H G Γ M) (rr : RepR K B σ H0 H G Γ M r v) (h : dOf r Γ M = some d) : Rep K H d v := by
  have lst : ∀ ds, SqR K H G (.lst ds) v → Rep K H (.lst ds) v := fun ds ⟨a, xs, e, h1, h2⟩ => rep_lst.mpr ⟨a, xs, e, h1, h2.mono o.ex⟩
  cases r with
  | dat d' =>
    cases d' with
    | ref a =>
      simp only [dOf] at h
      split at h
      · rename_i ds e
        cases h
        exact lst ds (sqOf_ok o rr (by simp [sqOf, sqD, e]))
      · cases h
    | _ => cases h; exact Rep.mono o.ex rr
  | tmp c =>
    cases c with
    | lst ds => cases h; exact lst ds (sqOf_ok o rr rfl)
    | dct ks ds => cases h
    | dcT ks ds => cases h
  | var i =>
    simp only [dOf] at h
    split at h
    · rename_i d' e1
      cases h
      obtain ⟨v', h1, h2⟩ := o.dat i d e1
      have : v' = v := by have := (show σ[i]? = some (some v) from rr); rw [h1] at this; cases this; rfl
      subst this
      exact h2.mono o.ex
    · rename_i ds e1
      cases h
      exact lst ds (sqOf_ok o rr (by simp [sqOf, e1]))
    · cases h
def cmpOk (d : D) : Bool := plain d && SeqAt.shaped (toPy d)
def eqD (d e : D) : Bool := PyData.eqv (toPy d) (toPy e)
def aEq (f : Bool → Bool) (x : Ret) (y : Ret) (Γ : Sl) (M : Mem) (Q : Ret → Sl → Mem → Prop) : Prop := match dOf x Γ M, dOf y Γ M with
  | some d, some e => cmpOk d = true ∧ cmpOk e = true ∧ Q (.dat (.bl (f (eqD d e)))) Γ M
  | _, _ => False
theorem rd_eqD : RdO K ρ (rEqD K) (aEq id) := by
  intro B σ H H1 H2 G Γ M rx ry x y Q R k r1 r2 h q
  unfold aEq at h
  split at h
  · rename_i d e hd he
    obtain ⟨c1, c2, h⟩ := h
    simp only [cmpOk, Bool.and_eq_true] at c1 c2
    exact ⟨_, _, (dOf_ok k r1 hd).dp c1.1, (dOf_ok k r2 he).dp c2.1, c1.2, c2.2, q _ H G Γ M (.dat (.bl _)) k .refl (by simp only [RepR, Rep]; rfl) h⟩
  · exact h.elim
theorem rd_neD : RdO K ρ (rNeD K) (aEq not) := by
  intro B σ H H1 H2 G Γ M rx ry x y Q R k r1 r2 h q
  unfold aEq at h
  split at h
  · rename_i d e hd he
    obtain ⟨c1, c2, h⟩ := h
    simp only [cmpOk, Bool.and_eq_true] at c1 c2
    exact ⟨_, _, (dOf_ok k r1 hd).dp c1.1, (dOf_ok k r2 he).dp c2.1, c1.2, c2.2, q _ H G Γ M (.dat (.bl _)) k .refl (by simp only [RepR, Rep]; rfl) h⟩
  · exact h.elim
theorem c_eq (hu : X.A.units + 64 < cLine) (hK : X.K = K := by rfl) : CmpR X ρ .Eq (rEqD K) (aEq id) := by subst hK; exact ⟨op_eqD hu, rd_eqD⟩
theorem c_ne (hu : X.A.units + 64 < cLine) (hK : X.K = K := by rfl) : CmpR X ρ .NotEq (rNeD K) (aEq not) := by subst hK; exact ⟨op_neD hu, rd_neD⟩
/-! membership of flat things -/
def flatD : D → Bool
  | .non => true | .bl _ => true | .int _ => true | .str _ => true
  | _ => false
def inD (d : D) (ds : List D) : Bool := ds.any fun e => eqD e d
theorem Rep.flat {d : D} {v : V} (h : Rep K G d v) (f : flatD d = true) : flatV v = true ∧ ∀ e w, Rep K G e w → flatD e = true → eqV w v = eqD e d := by
  cases d <;> simp [flatD] at f <;> rw [Rep] at h <;> subst h <;> refine ⟨rfl, fun e w he hf => ?_⟩ <;> cases e <;> simp [flatD] at hf <;> rw [Rep] at he <;> subst he <;> simp [eqV, eqD, toPy, PyData.eqv]
theorem RepL.flat {ds : List D} {vs : List V} (h : RepL K G ds vs) (f : ds.all flatD = true) : vs.all flatV = true := by
  rw [List.all_eq_true] at *
  intro v hv
  obtain ⟨i, hi⟩ := List.getElem?_of_mem hv
  obtain ⟨d, e, r⟩ := h.getV hi
  exact (r.flat (f d (List.mem_of_getElem? e))).1
theorem RepL.inV {ds : List D} {vs : List V} {d : D} {v : V} (h : RepL K G ds vs) (f : ds.all flatD = true) (r : Rep K G d v) (fd : flatD d = true) : L2.inV v vs = inD d ds := by
  induction ds generalizing vs with
  | nil => rw [repL_nil.mp h]; rfl
  | cons e ds ih =>
    obtain ⟨x, r', rfl, h1, h2⟩ := repL_cons.mp h
    rw [List.all_cons, Bool.and_eq_true] at f
    show (eqV x v || L2.inV v r') = (eqD e d || inD d ds)
    rw [ih h2 f.2, (r.flat fd).2 e x h1 f.1]
def aIn (f : Bool → Bool) (x : Ret) (y : Ret) (Γ : Sl) (M : Mem) (Q : Ret → Sl → Mem → Prop) : Prop := match x, sqOf y Γ M with
  | .dat d, some s => flatD d = true ∧ s.ds.all flatD = true ∧ Q (.dat (.bl (f (inD d s.ds)))) Γ M
  | _, _ => False
theorem rd_in {neg : Bool} {f : Bool → Bool} (hf : f = if neg then not else id) : RdO K ρ (rIn K neg) (aIn f) := by
  intro B σ H H1 H2 G Γ M rx ry x y Q R k r1 r2 h q
  unfold aIn at h
  split at h
  · rename_i d s hs
    obtain ⟨c1, c2, h⟩ := h
    have hr := sqOf_ok k r2 hs
    have r1' : Rep K G d x := r1
    obtain ⟨a, xs, e, hq', hl⟩ := hr.rd
    have hq : SqL K H a xs ∨ SqT K H a xs := by
      rcases hq' with ⟨_, _, z⟩ | ⟨_, z⟩
      · exact .inr z
      · exact .inl z
    refine ⟨a, xs, e, hq, (r1'.flat c1).1, hl.flat c2, q _ H G Γ M (.dat (.bl _)) k .refl ?_ h⟩
    rw [hl.inV c2 r1' c1]
    subst hf
    cases neg <;> simp [RepR, Rep]
  · exact h.elim
theorem c_in (hK : X.K = K := by rfl) : CmpR X ρ .In (rIn K false) (aIn id) := by subst hK; exact ⟨op_in_seq, rd_in rfl⟩
theorem c_notIn (hK : X.K = K := by rfl) : CmpR X ρ .NotIn (rIn K true) (aIn not) := by subst hK; exact ⟨op_notIn_seq, rd_in rfl⟩
def isNon : D → Bool
  | .non => true
  | _ => false
def aIsN (f : Bool → Bool) (x : Ret) (y : Ret) (Γ : Sl) (M : Mem) (Q : Ret → Sl → Mem → Prop) : Prop := match x, y with
  | .dat d, .dat .non => Q (.dat (.bl (f (isNon d)))) Γ M
  | _, _ => False
theorem Rep.isNon {d : D} {v : V} (h : Rep K G d v) : decide (v = .non) = isNon d := by
  cases d with
  | non => rw [Rep] at h; subst h; rfl
  | bl b => rw [Rep] at h; subst h; rfl
  | int b => rw [Rep] at h; subst h; rfl
  | str b => rw [Rep] at h; subst h; rfl
  | ref b => rw [Rep] at h; subst h; rfl
  | tup b => obtain ⟨a, xs, rfl, _⟩ := rep_tup.mp h; rfl
  | lst b => obtain ⟨a, xs, rfl, _⟩ := rep_lst.mp h; rfl
  | scr b => obtain ⟨a, xs, rfl, _⟩ := rep_scr.mp h; rfl
  | dct _ _ => obtain ⟨a, o, xs, rfl, _⟩ := rep_dct.mp h; rfl
  | exc _ _ _ => obtain ⟨a, C, d, ws, rfl, _⟩ := rep_exc.mp h; rfl
  | dcT _ _ => obtain ⟨a, o, L, rfl, _⟩ := rep_dcT.mp h; rfl
theorem c_isN : CmpR X ρ .Is (fun x y H Q => y = .non ∧ Q (.bl (decide (x = .non))) H) (aIsN id) := ⟨op_isN, by
  intro B σ H H1 H2 G Γ M rx ry x y Q R k r1 r2 h q
  unfold aIsN at h
  split at h
  · rename_i d
    refine ⟨by have := r2; simp only [RepR, Rep] at this; exact this, q _ H G Γ M (.dat (.bl _)) k .refl ?_ h⟩
    rw [Rep.isNon (show Rep _ _ d x from r1)]; simp [RepR, Rep]
  · exact h.elim⟩
theorem c_notN : CmpR X ρ .IsNot (fun x y H Q => y = .non ∧ Q (.bl (!decide (x = .non))) H) (aIsN not) := ⟨op_notN, by
  intro B σ H H1 H2 G Γ M rx ry x y Q R k r1 r2 h q
  unfold aIsN at h
  split at h
  · rename_i d
    refine ⟨by have := r2; simp only [RepR, Rep] at this; exact this, q _ H G Γ M (.dat (.bl _)) k .refl ?_ h⟩
    rw [Rep.isNon (show Rep _ _ d x from r1)]; simp [RepR, Rep]
  · exact h.elim⟩

/-! ### sequences: items, slices, +, * -/
def aIx (x : Ret) (y : Ret) (Γ : Sl) (M : Mem) (Q : Ret → Sl → Mem → Prop) : Prop := match sqOf x Γ M, y with
  | some s, .dat (.int i) => match atI s.ds i with
    | some d => Q (.dat d) Γ M
    | none => False
  | _, _ => False
theorem atI_rep {ds : List D} {vs : List V} {i : Int} {d : D} (h : RepL K G ds vs) (e : atI ds i = some d) : ∃ v, atI vs i = some v ∧ Rep K G d v := by
  unfold atI at *
  rw [h.length]
  cases hj : ixN ds.length i with
  | none => rw [hj] at e; cases e
  | some j => rw [hj] at e; exact h.get e
theorem rd_ixL : RdO K ρ (fun x y H Q => rIxL K x y H Q ∨ rIxT K x y H Q) aIx := by
  intro B σ H H1 H2 G Γ M rx ry x y Q R k r1 r2 h q
  unfold aIx at h
  split at h
  · rename_i s i hs
    split at h
    · rename_i d hd
      have ey : y = .int i := by have := r2; simp only [RepR, Rep] at this; exact this
      obtain ⟨a, xs, e, hq, h2⟩ := (sqOf_ok k r1 hs).rd
      obtain ⟨v, e', rv⟩ := atI_rep h2 hd
      rcases hq with ⟨_, _, h1⟩ | ⟨_, h1⟩
      · exact .inr ⟨a, xs, i, v, e, ey, h1, e', q _ H G Γ M (.dat d) k .refl rv h⟩
      · exact .inl ⟨a, xs, i, v, e, ey, h1, e', q _ H G Γ M (.dat d) k .refl rv h⟩
    · exact h.elim
  · exact h.elim
end
end Gw

namespace Gw
open PySem L2
variable {ρ : Ent}

section
variable {X : Cx} {a b c : Expr} {ta tb tc te : TE} {aa ab ac ae : AE} {pos : Pos} {K : PySem.W.Frag} {B : Ent} {σ : St} {H G H1 G1 H2 G2 : Hp} {Γ Γ1 Γ2 : Sl} {M M1 M2 : Mem}
theorem q_ixS (ha : QE X ρ a ta aa) (hb : QE X ρ b tb ab) (hs : PlainIx b := by exact fun _ _ => rfl) (hK : X.K = K := by rfl) : QE X ρ (.Subscript a b pos) (tOp (fun x y H Q => rIxL K x y H Q ∨ rIxT K x y H Q) ta tb) (aOp aIx aa ab) := by subst hK; exact q_ix (ix_list.or ix_tup) rd_ixL ha hb hs

/-! ### list + list, list * int, tuple + tuple -/
def aCat (x : Ret) (y : Ret) (Γ : Sl) (M : Mem) (Q : Ret → Sl → Mem → Prop) : Prop := match sqOf x Γ M, sqOf y Γ M with
  | some (.lst ds), some (.lst es) => ds.length + es.length ≤ sizeLine ∧ Q (.tmp (.lst (ds ++ es))) Γ M
  | _, _ => False
theorem rd_cat : RdO K ρ rCat aCat := by
  intro B σ H H1 H2 G Γ M rx ry x y Q R k r1 r2 h q
  unfold aCat at h
  split at h
  · rename_i ds es hd he
    obtain ⟨a, xs, e, h1, h2⟩ := sqOf_ok k r1 hd
    obtain ⟨b, ys, e', h1', h2'⟩ := sqOf_ok k r2 he
    exact ⟨a, b, xs, ys, e, e', h1, h1', by rw [h2.length, h2'.length]; exact h.1, q.newL k (h2.append h2') h.2⟩
  · exact h.elim
theorem q_cat (ha : QE X ρ a ta aa) (hb : QE X ρ b tb ab) : QE X ρ (.BinOp a .Add b pos) (tOp rCat ta tb) (aOp aCat aa ab) := q_op op_cat rd_cat ha hb
def aRep (x : Ret) (y : Ret) (Γ : Sl) (M : Mem) (Q : Ret → Sl → Mem → Prop) : Prop := match sqOf x Γ M, y with
  | some (.lst ds), .dat (.int k) => (-(2 ^ 63) ≤ k ∧ k < 2 ^ 63 ∧ ds.length * k.toNat ≤ sizeLine) ∧ Q (.tmp (.lst (List.replicate k.toNat ds).flatten)) Γ M
  | _, _ => False
theorem RepL.rep {ds : List D} {vs : List V} (h : RepL K G ds vs) : ∀ n : Nat, RepL K G (List.replicate n ds).flatten (List.replicate n vs).flatten
  | 0 => repL_nil.mpr rfl
  | n + 1 => by rw [List.replicate_succ, List.replicate_succ, List.flatten_cons, List.flatten_cons]; exact h.append (RepL.rep h n)
theorem rd_rep : RdO K ρ rRep aRep := by
  intro B σ H H1 H2 G Γ M rx ry x y Q R k r1 r2 h q
  unfold aRep at h
  split at h
  · rename_i ds n hd
    obtain ⟨a, xs, e, h1, h2⟩ := sqOf_ok k r1 hd
    have ey : y = .int n := by have := r2; simp only [RepR, Rep] at this; exact this
    exact ⟨a, n, xs, e, ey, h1, h.1.1, h.1.2.1, by rw [h2.length]; exact h.1.2.2, q.newL k (h2.rep _) h.2⟩
  · exact h.elim
theorem q_rep (ha : QE X ρ a ta aa) (hb : QE X ρ b tb ab) : QE X ρ (.BinOp a .Mult b pos) (tOp rRep ta tb) (aOp aRep aa ab) := q_op op_rep rd_rep ha hb
def aCatT (x : Ret) (y : Ret) (Γ : Sl) (M : Mem) (Q : Ret → Sl → Mem → Prop) : Prop := match x, y with
  | .dat (.tup ds), .dat (.tup es) => ds.length + es.length ≤ sizeLine ∧ Q (.dat (.tup (ds ++ es))) Γ M
  | _, _ => False
theorem rd_catT : RdO K ρ (rCatA K) aCatT := by
  intro B σ H H1 H2 G Γ M rx ry x y Q R k r1 r2 h q
  unfold aCatT at h
  split at h
  · rename_i ds es
    have r1' : Rep K G (.tup ds) x := r1
    have r2' : Rep K G (.tup es) y := r2
    obtain ⟨a, xs, e, h1, h2⟩ := rep_tup.mp r1'
    obtain ⟨b, ys, e', h1', h2'⟩ := rep_tup.mp r2'
    refine ⟨a, b, xs, ys, e, e', ex_t k.ex h1, ex_t k.ex h1', by rw [h2.length, h2'.length]; exact h.1, fun z => ?_, fun _ z => ?_, fun _ _ => q.newT k (h2.append h2') h.2⟩
    · have : ds = [] := by cases ds with | nil => rfl | cons _ _ => obtain ⟨_, _, z', _⟩ := repL_cons.mp h2; rw [z] at z'; cases z'
      subst this; subst e'
      exact q _ H G Γ M (.dat (.tup es)) k .refl r2' h.2
    · have : es = [] := by cases es with | nil => rfl | cons _ _ => obtain ⟨_, _, z', _⟩ := repL_cons.mp h2'; rw [z] at z'; cases z'
      subst this; subst e
      exact q _ H G Γ M (.dat (.tup (ds ++ []))) k .refl (by rw [List.append_nil]; exact r1') h.2
  · exact h.elim
theorem q_catT (ha : QE X ρ a ta aa) (hb : QE X ρ b tb ab) (hK : X.K = K := by rfl) : QE X ρ (.BinOp a .Add b pos) (tOp (rCatA K) ta tb) (aOp aCatT aa ab) := by subst hK; exact q_op op_catA rd_catT ha hb
def aCatS (x : Ret) (y : Ret) (Γ : Sl) (M : Mem) (Q : Ret → Sl → Mem → Prop) : Prop := match x, y with
  | .dat (.str s), .dat (.str t) => s.length + t.length ≤ sizeLine ∧ Q (.dat (.str (s ++ t))) Γ M
  | _, _ => False
/-! slices -/
def cutD (xs : List D) (lo hi : Option Int) : List D := (xs.drop (HT.sIx xs.length 0 lo)).take (HT.sIx xs.length xs.length hi - HT.sIx xs.length 0 lo)
theorem RepL.cut {ds : List D} {vs : List V} {lo hi : Option Int} (h : RepL K G ds vs) : RepL K G (cutD ds lo hi) (cutV vs lo hi) := by
  unfold cutD cutV
  rw [h.length]
  exact (h.drop _).take _
abbrev AO := Sl → Mem → (Option Int → Sl → Mem → Prop) → Prop
structure QO (X : Cx) (ρ : Ent) (e : Option Expr) (to : TO) (ao : AO) : Prop where
  pe : PO X e to
  rd : ∀ B σ H G Γ M (Q : Option Int → Sl → Mem → Prop) (R : Option Int → Hp → Prop), Ok X.K ρ B σ H G Γ M → ao Γ M Q → (∀ o H' G' Γ' M', Ok X.K ρ B σ H' G' Γ' M' → Es σ H G Γ M H' G' Γ' M' → Q o Γ' M' → R o H') → to σ H R
def aON (Γ : Sl) (M : Mem) (Q : Option Int → Sl → Mem → Prop) : Prop := Q none Γ M
def aOS (aa : AE) (Γ : Sl) (M : Mem) (Q : Option Int → Sl → Mem → Prop) : Prop := aa Γ M fun r Γ1 M1 => match r with
  | .dat (.int i) => Q (some i) Γ1 M1
  | _ => False
theorem qo_none : QO X ρ none tNoPart aON := ⟨po_none, fun _ _ H G Γ M _ _ k h q => q none H G Γ M k .refl h⟩
theorem qo_some (h : QE X ρ a ta aa) : QO X ρ (some a) (tPart ta) (aOS aa) := ⟨po_some h.pe, fun B σ H G Γ M Q R k hh q => h.rd B σ H G Γ M _ _ k hh fun v H1 G1 Γ1 M1 r k1 e1 rr h1 => by
  split at h1
  · rename_i i
    have e : v = .int i := by have := rr; simp only [RepR, Rep] at this; exact this
    exact ⟨i, e, q (some i) H1 G1 Γ1 M1 k1 e1 h1⟩
  · exact h1.elim⟩
def aSl (aa : AE) (al ah : AO) (Γ : Sl) (M : Mem) (Q : Ret → Sl → Mem → Prop) : Prop := aa Γ M fun r Γ1 M1 => al Γ1 M1 fun lo Γ2 M2 => ah Γ2 M2 fun hi Γ3 M3 => match sqOf r Γ3 M3 with
  | some (.tup ds) => Q (.dat (.tup (cutD ds lo hi))) Γ3 M3
  | some s => Q (.tmp (.lst (cutD s.ds lo hi))) Γ3 M3
  | none => False
theorem cutD_all {ds : List D} {lo hi : Option Int} (h : HT.sIx ds.length 0 lo = 0 ∧ HT.sIx ds.length ds.length hi = ds.length) : cutD ds lo hi = ds := by
  unfold cutD
  rw [h.1, h.2, Nat.sub_zero, List.drop_zero, List.take_length]
theorem rep_of_sqT {r : Ret} {ds : List D} {v : V} {H0 : Hp} (k : Ok K ρ B σ H G Γ M) (rr : RepR K B σ H0 H G Γ M r v) (h : sqOf r Γ M = some (.tup ds)) : Rep K G (.tup ds) v := by
  have hd : ∀ d, Rep K G d v → sqD M d = some (.tup ds) → Rep K G (.tup ds) v := fun d r e => by
    cases d <;> simp [sqD] at e
    · subst e; exact r
    · split at e <;> simp at e
  cases r with
  | dat d => exact hd d rr h
  | tmp c => cases c <;> cases h
  | var i =>
    simp only [sqOf] at h
    split at h
    · rename_i d e1
      obtain ⟨v', h1, h2⟩ := k.dat i d e1
      have : v' = v := by have := (show σ[i]? = some (some v) from rr); rw [h1] at this; cases this; rfl
      subst this
      exact hd d h2 h
    · cases h
    · cases h
theorem q_sl {lo hi : Option Expr} {p2 : Pos} {tl th : TO} {al ah : AO} (he : QE X ρ a ta aa) (hl : QO X ρ lo tl al) (hh : QO X ρ hi th ah) (hK : X.K = K := by rfl) :
    QE X ρ (.Subscript a (.Slice lo hi none p2) pos) (tSl (fun x lo hi H Q => rSlL K x lo hi H Q ∨ rSlA K x lo hi H Q) ta tl th) (aSl aa al ah) := by subst hK; exact ⟨pe_slice (sl_list.or sl_tupA) he.pe hl.pe hh.pe, by
  intro B σ H G Γ M Q R k h q
  refine he.rd B σ H G Γ M _ _ k h fun v H1 G1 Γ1 M1 r1 k1 e1 rr1 h1 => ?_
  refine hl.rd B σ H1 G1 Γ1 M1 _ _ k1 h1 fun l H2 G2 Γ2 M2 k2 e2 h2 => ?_
  refine hh.rd B σ H2 G2 Γ2 M2 _ _ k2 h2 fun u H3 G3 Γ3 M3 k3 e3 h3 => ?_
  have rr := (rr1.es e2).es e3
  have q' := q.es ((e1.trans e2).trans e3)
  split at h3
  · rename_i ds hs
    have rp := rep_of_sqT k3 rr hs
    obtain ⟨a, xs, e, h1, h2⟩ := rep_tup.mp rp
    refine .inr ⟨a, xs, e, ex_t k3.ex h1, fun z => ?_, fun _ => q'.newT k3 h2.cut h3⟩
    rw [h2.length] at z
    rw [cutD_all z] at h3
    rw [e] at rp
    exact q' _ H3 G3 Γ3 M3 (.dat (.tup ds)) k3 .refl rp h3
  · rename_i s hn hs
    obtain ⟨a, xs, e, hq, h2⟩ := (sqOf_ok k3 rr hs).rd
    rcases hq with ⟨ds, z, _⟩ | ⟨_, h1⟩
    · exact (hn ds z).elim
    · exact .inl ⟨a, xs, e, h1, q'.newL k3 h2.cut h3⟩
  · exact h3.elim⟩

/-! ### built-ins of one and of two values -/
def aCall1 (au : AUn) (aa : AE) (Γ : Sl) (M : Mem) (Q : Ret → Sl → Mem → Prop) : Prop := aa Γ M fun r Γ1 M1 => au r Γ1 M1 Q
def aCall2 (ao : AOp) (aa ab : AE) (Γ : Sl) (M : Mem) (Q : Ret → Sl → Mem → Prop) : Prop := aa Γ M fun x Γ1 M1 => ab Γ1 M1 fun y Γ2 M2 => ao x y Γ2 M2 Q
theorem rd_call1 {r : List V → Hp → VK → Prop} {au : AUn} (hr : RdU K ρ r au) (ha : RdE K ρ ta aa) : RdE K ρ (tCB r (tCons ta tNil)) (aCall1 au aa) := fun B σ H G Γ M Q R k h q =>
  ha B σ H G Γ M _ _ k h fun v H1 G1 Γ1 M1 rr k1 e1 r1 h1 => hr B σ H1 _ G1 Γ1 M1 rr v Q R k1 r1 h1 (q.es e1)
theorem rd_call2 {r : List V → Hp → VK → Prop} {ao : AOp} (hr : RdU2 K ρ r ao) (ha : RdE K ρ ta aa) (hb : RdE K ρ tb ab) : RdE K ρ (tCB r (tCons ta (tCons tb tNil))) (aCall2 ao aa ab) := fun B σ H G Γ M Q R k h q =>
  ha B σ H G Γ M _ _ k h fun v H1 G1 Γ1 M1 rr k1 e1 r1 h1 => hb B σ H1 G1 Γ1 M1 _ _ k1 h1 fun u H2 G2 Γ2 M2 rr2 k2 e2 r2 h2 => hr B σ H2 _ _ G2 Γ2 M2 rr rr2 v u Q R k2 (r1.es e2) r2 h2 (q.es (e1.trans e2))
theorem q_callB1 {id : String} {x : Str} {p : Pos} {r : List V → Hp → VK → Prop} {au : AUn} (hc : CallR X (.builtin id) r) (hr : RdU X.K ρ r au) (hm : X.mg x = none) (ha : QE X ρ a ta aa) (hg : Gl X x := by rfl) (hv : bootBuiltins x = some (.builtin id) := by decide +kernel) (hn : x ≠ "__name__" := by decide) (hdb : (x == ("__debug__" : Str)) = false := by decide)
    (na : starEach [a] X.env = (false, eval a X.env) :: starEach [] X.env := by rfl) : QE X ρ (.Call (.Name x p) [a] [] pos) (tCB r (tCons ta tNil)) (aCall1 au aa) := ⟨pe_callB hc hg hm hv (pa_cons ha.pe pa_nil na) hn hdb na, rd_call1 hr ha.rd⟩
theorem q_callT1 {T : String} {x : Str} {p : Pos} {r : List V → Hp → VK → Prop} {au : AUn} (hc : CallR X (.type T) r) (hr : RdU X.K ρ r au) (hm : X.mg x = none) (ha : QE X ρ a ta aa) (hg : Gl X x := by rfl) (hv : bootBuiltins x = some (.type T) := by decide +kernel) (hn : x ≠ "__name__" := by decide) (hdb : (x == ("__debug__" : Str)) = false := by decide)
    (na : starEach [a] X.env = (false, eval a X.env) :: starEach [] X.env := by rfl) : QE X ρ (.Call (.Name x p) [a] [] pos) (tCB r (tCons ta tNil)) (aCall1 au aa) := ⟨pe_callTy hc hg hm hv (pa_cons ha.pe pa_nil na) hn hdb na, rd_call1 hr ha.rd⟩
theorem q_callB2 {id : String} {x : Str} {p : Pos} {r : List V → Hp → VK → Prop} {ao : AOp} (hc : CallR X (.builtin id) r) (hr : RdU2 X.K ρ r ao) (hm : X.mg x = none) (ha : QE X ρ a ta aa) (hb : QE X ρ b tb ab) (hg : Gl X x := by rfl) (hv : bootBuiltins x = some (.builtin id) := by decide +kernel) (hn : x ≠ "__name__" := by decide) (hdb : (x == ("__debug__" : Str)) = false := by decide)
    (na : starEach [a, b] X.env = (false, eval a X.env) :: starEach [b] X.env := by rfl) (nb : starEach [b] X.env = (false, eval b X.env) :: starEach [] X.env := by rfl) (hpl : (backTo pos (starEach [b] X.env)).any (·.1) = false := by rfl) : QE X ρ (.Call (.Name x p) [a, b] [] pos) (tCB r (tCons ta (tCons tb tNil))) (aCall2 ao aa ab) :=
  ⟨pe_callB hc hg hm hv (pa_cons ha.pe (pa_cons hb.pe pa_nil nb) na) hn hdb na hpl, rd_call2 hr ha.rd hb.rd⟩

def aLen (r : Ret) (Γ : Sl) (M : Mem) (Q : Ret → Sl → Mem → Prop) : Prop := match sqOf r Γ M with
  | some s => Q (.dat (.int s.ds.length)) Γ M
  | none => False
theorem rd_len : RdU K ρ (fun xs H Q => ∃ p ys, xs = [.ref p] ∧ (SqL K H p ys ∨ SqT K H p ys) ∧ Q (.int ys.length) H) aLen := by
  intro B σ H H1 G Γ M rx x Q R k r1 h q
  unfold aLen at h
  split at h
  · rename_i s hs
    obtain ⟨a, xs, e, hq, h2⟩ := (sqOf_ok k r1 hs).rd
    subst e
    refine ⟨a, xs, rfl, ?_, q _ H G Γ M (.dat (.int _)) k .refl (by simp only [RepR, Rep]; rw [h2.length]) h⟩
    rcases hq with ⟨_, _, z⟩ | ⟨_, z⟩
    · exact .inr z
    · exact .inl z
  · exact h.elim
theorem q_len {p : Pos} (hm : X.mg "len" = none) (ha : QE X ρ a ta aa) (hg : Gl X "len" := by rfl) (na : starEach [a] X.env = (false, eval a X.env) :: starEach [] X.env := by rfl) (hK : X.K = K := by rfl) :
    QE X ρ (.Call (.Name "len" p) [a] [] pos) (tCB (fun xs H Q => ∃ p ys, xs = [.ref p] ∧ (SqL K H p ys ∨ SqT K H p ys) ∧ Q (.int ys.length) H) (tCons ta tNil)) (aCall1 aLen aa) := by subst hK; exact q_callB1 call_len_seq rd_len hm ha hg (na := na)
/-- all, any of a list of truths -/
def blsOf : List D → Option (List Bool)
  | [] => some []
  | .bl b :: ds => (blsOf ds).map (b :: ·)
  | _ :: _ => none
theorem blsOf_ok : ∀ {ds : List D} {bs : List Bool}, blsOf ds = some bs → ds = bs.map .bl
  | [], _, h => by cases h; rfl
  | .bl b :: ds, _, h => by
    simp only [blsOf, Option.map_eq_some_iff] at h
    obtain ⟨bs, h1, rfl⟩ := h
    rw [blsOf_ok h1]; rfl
theorem blsOf_map (bs : List Bool) : blsOf (bs.map .bl) = some bs := by
  induction bs with
  | nil => rfl
  | cons b bs ih => rw [List.map_cons, blsOf, ih]; rfl
def aAllB (f : List Bool → Bool) (r : Ret) (Γ : Sl) (M : Mem) (Q : Ret → Sl → Mem → Prop) : Prop := match sqOf r Γ M with
  | some (.lst ds) => match blsOf ds with
    | some bs => Q (.dat (.bl (f bs))) Γ M
    | none => False
  | _ => False
theorem rd_all : RdU K ρ (rAll K) (aAllB (·.all id)) := by
  intro B σ H H1 G Γ M rx x Q R k r1 h q
  unfold aAllB at h
  split at h
  · rename_i ds hs
    split at h
    · rename_i bs hb
      obtain ⟨a, xs, e, hq, h2⟩ := sqOf_ok k r1 hs
      rw [blsOf_ok hb, repL_map_bl] at h2
      subst e; subst h2
      exact ⟨a, bs, rfl, SqL.of hq, q _ H G Γ M (.dat (.bl _)) k .refl (by simp only [RepR, Rep]) h⟩
    · exact h.elim
  · exact h.elim
theorem rd_any : RdU K ρ (rAny K) (aAllB (·.any id)) := by
  intro B σ H H1 G Γ M rx x Q R k r1 h q
  unfold aAllB at h
  split at h
  · rename_i ds hs
    split at h
    · rename_i bs hb
      obtain ⟨a, xs, e, hq, h2⟩ := sqOf_ok k r1 hs
      rw [blsOf_ok hb, repL_map_bl] at h2
      subst e; subst h2
      exact ⟨a, bs, rfl, SqL.of hq, q _ H G Γ M (.dat (.bl _)) k .refl (by simp only [RepR, Rep]) h⟩
    · exact h.elim
  · exact h.elim
theorem q_all {p : Pos} (hm : X.mg "all" = none) (ha : QE X ρ a ta aa) (hc : X.calm = true := by rfl) (hg : Gl X "all" := by rfl) (na : starEach [a] X.env = (false, eval a X.env) :: starEach [] X.env := by rfl) (hK : X.K = K := by rfl) :
    QE X ρ (.Call (.Name "all" p) [a] [] pos) (tCB (rAll K) (tCons ta tNil)) (aCall1 (aAllB (·.all id)) aa) := by subst hK; exact q_callB1 (cr_all hc) rd_all hm ha hg (na := na)
theorem q_any {p : Pos} (hm : X.mg "any" = none) (ha : QE X ρ a ta aa) (hc : X.calm = true := by rfl) (hg : Gl X "any" := by rfl) (na : starEach [a] X.env = (false, eval a X.env) :: starEach [] X.env := by rfl) (hK : X.K = K := by rfl) :
    QE X ρ (.Call (.Name "any" p) [a] [] pos) (tCB (rAny K) (tCons ta tNil)) (aCall1 (aAllB (·.any id)) aa) := by subst hK; exact q_callB1 (cr_any hc) rd_any hm ha hg (na := na)
def aTuple (r : Ret) (Γ : Sl) (M : Mem) (Q : Ret → Sl → Mem → Prop) : Prop := match sqOf r Γ M with
  | some s => Q (.dat (.tup s.ds)) Γ M
  | none => False
theorem rd_tuple : RdU K ρ (fun xs H Q => ∃ p ys, xs = [.ref p] ∧ ((SqL K H p ys ∧ ∀ l, H l = none → Q (.ref l) (upd H l (.tup ys))) ∨ (SqT K H p ys ∧ Q (.ref p) H))) aTuple := by
  intro B σ H H1 G Γ M rx x Q R k r1 h q
  unfold aTuple at h
  split at h
  · rename_i s hs
    obtain ⟨a, xs, e, hq, h2⟩ := (sqOf_ok k r1 hs).rd
    rcases hq with ⟨ds, z, hq⟩ | ⟨_, hq⟩
    · subst z
      have rp := rep_of_sqT k r1 hs
      subst e
      exact ⟨a, xs, rfl, .inr ⟨hq, q _ H G Γ M (.dat (.tup ds)) k .refl rp h⟩⟩
    · subst e
      exact ⟨a, xs, rfl, .inl ⟨hq, q.newT k h2 h⟩⟩
  · exact h.elim
theorem q_tuple {p : Pos} (hm : X.mg "tuple" = none) (ha : QE X ρ a ta aa) (hg : Gl X "tuple" := by rfl) (na : starEach [a] X.env = (false, eval a X.env) :: starEach [] X.env := by rfl) (hK : X.K = K := by rfl) :
    QE X ρ (.Call (.Name "tuple" p) [a] [] pos) (tCB (fun xs H Q => ∃ p ys, xs = [.ref p] ∧ ((SqL K H p ys ∧ ∀ l, H l = none → Q (.ref l) (upd H l (.tup ys))) ∨ (SqT K H p ys ∧ Q (.ref p) H))) (tCons ta tNil)) (aCall1 aTuple aa) := by subst hK; exact q_callT1 call_tuple_of rd_tuple hm ha hg (na := na)
def aList (r : Ret) (Γ : Sl) (M : Mem) (Q : Ret → Sl → Mem → Prop) : Prop := match sqOf r Γ M with
  | some s => Q (.tmp (.lst s.ds)) Γ M
  | none => False
theorem rd_list : RdU K ρ (fun xs H Q => ∃ p ys, xs = [.ref p] ∧ (SqL K H p ys ∨ SqT K H p ys) ∧ ∀ l, H l = none → Q (.ref l) (upd H l (.lst ys))) aList := by
  intro B σ H H1 G Γ M rx x Q R k r1 h q
  unfold aList at h
  split at h
  · rename_i s hs
    obtain ⟨a, xs, e, hq, h2⟩ := (sqOf_ok k r1 hs).rd
    subst e
    refine ⟨a, xs, rfl, ?_, q.newL k h2 h⟩
    rcases hq with ⟨_, _, z⟩ | ⟨_, z⟩
    · exact .inr z
    · exact .inl z
  · exact h.elim
theorem q_list {p : Pos} (hm : X.mg "list" = none) (ha : QE X ρ a ta aa) (hg : Gl X "list" := by rfl) (na : starEach [a] X.env = (false, eval a X.env) :: starEach [] X.env := by rfl) (hK : X.K = K := by rfl) :
    QE X ρ (.Call (.Name "list" p) [a] [] pos) (tCB (fun xs H Q => ∃ p ys, xs = [.ref p] ∧ (SqL K H p ys ∨ SqT K H p ys) ∧ ∀ l, H l = none → Q (.ref l) (upd H l (.lst ys))) (tCons ta tNil)) (aCall1 aList aa) := by subst hK; exact q_callT1 call_list_of rd_list hm ha hg (na := na)
def aAbs (r : Ret) (Γ : Sl) (M : Mem) (Q : Ret → Sl → Mem → Prop) : Prop := match r with
  | .dat (.int i) => Q (.dat (.int (if i < 0 then -i else i))) Γ M
  | _ => False
theorem q_abs {p : Pos} (hm : X.mg "abs" = none) (ha : QE X ρ a ta aa) (hg : Gl X "abs" := by rfl) (na : starEach [a] X.env = (false, eval a X.env) :: starEach [] X.env := by rfl) :
    QE X ρ (.Call (.Name "abs" p) [a] [] pos) (tCB (fun xs H Q => ∃ i, xs = [.int i] ∧ Q (.int (if i < 0 then -i else i)) H) (tCons ta tNil)) (aCall1 aAbs aa) := q_callB1 call_abs (by
  intro B σ H H1 G Γ M rx x Q R k r1 h q
  unfold aAbs at h
  split at h
  · rename_i i
    have e : x = .int i := by have := r1; simp only [RepR, Rep] at this; exact this
    exact ⟨i, by rw [e], q _ H G Γ M (.dat (.int _)) k .refl (by simp only [RepR, Rep]) h⟩
  · exact h.elim) hm ha hg (na := na)
def aInt (r : Ret) (Γ : Sl) (M : Mem) (Q : Ret → Sl → Mem → Prop) : Prop := match r with
  | .dat (.int i) => Q (.dat (.int i)) Γ M
  | .dat (.bl k) => Q (.dat (.int (if k then 1 else 0))) Γ M
  | _ => False
theorem q_intB {p : Pos} (hm : X.mg "int" = none) (ha : QE X ρ a ta aa) (hg : Gl X "int" := by rfl) (na : starEach [a] X.env = (false, eval a X.env) :: starEach [] X.env := by rfl) :
    QE X ρ (.Call (.Name "int" p) [a] [] pos) (tCB (fun xs H Q => (∃ i, xs = [.int i] ∧ Q (.int i) H) ∨ ∃ k, xs = [.bl k] ∧ Q (.int (if k then 1 else 0)) H) (tCons ta tNil)) (aCall1 aInt aa) := q_callT1 call_int1 (by
  intro B σ H H1 G Γ M rx x Q R k r1 h q
  unfold aInt at h
  split at h
  · rename_i i
    have e : x = .int i := by have := r1; simp only [RepR, Rep] at this; exact this
    exact .inl ⟨i, by rw [e], q _ H G Γ M (.dat (.int _)) k .refl (by simp only [RepR, Rep]) h⟩
  · rename_i i
    have e : x = .bl i := by have := r1; simp only [RepR, Rep] at this; exact this
    exact .inr ⟨i, by rw [e], q _ H G Γ M (.dat (.int _)) k .refl (by simp only [RepR, Rep]) h⟩
  · exact h.elim) hm ha hg (na := na)
theorem rd_2I {g : Int → Int → Int} : RdU2 K ρ (fun xs H Q => ∃ i j, xs = [.int i, .int j] ∧ Q (.int (g i j)) H) (aI0 fun i j => .int (g i j)) := by
  intro B σ H H1 H2 G Γ M rx ry x y Q R k r1 r2 h q
  unfold aI0 at h
  split at h
  · rename_i i j
    have e1 : x = .int i := by have := r1; simp only [RepR, Rep] at this; exact this
    have e2 : y = .int j := by have := r2; simp only [RepR, Rep] at this; exact this
    exact ⟨i, j, by rw [e1, e2], q _ H G Γ M (.dat (.int _)) k .refl (by simp only [RepR, Rep]) h⟩
  · exact h.elim
theorem q_max2 {p : Pos} (hm : X.mg "max" = none) (ha : QE X ρ a ta aa) (hb : QE X ρ b tb ab) (hc : X.calm = true := by rfl) (hg : Gl X "max" := by rfl) (na : starEach [a, b] X.env = (false, eval a X.env) :: starEach [b] X.env := by rfl) (nb : starEach [b] X.env = (false, eval b X.env) :: starEach [] X.env := by rfl) (hpl : (backTo pos (starEach [b] X.env)).any (·.1) = false := by rfl) :
    QE X ρ (.Call (.Name "max" p) [a, b] [] pos) (tCB (fun xs H Q => ∃ i j, xs = [.int i, .int j] ∧ Q (.int (if j > i then j else i)) H) (tCons ta (tCons tb tNil))) (aCall2 (aI0 fun i j => .int (if j > i then j else i)) aa ab) :=
  q_callB2 (call_max2 hc) rd_2I hm ha hb hg (na := na) (nb := nb) (hpl := hpl)
theorem q_min2 {p : Pos} (hm : X.mg "min" = none) (ha : QE X ρ a ta aa) (hb : QE X ρ b tb ab) (hc : X.calm = true := by rfl) (hg : Gl X "min" := by rfl) (na : starEach [a, b] X.env = (false, eval a X.env) :: starEach [b] X.env := by rfl) (nb : starEach [b] X.env = (false, eval b X.env) :: starEach [] X.env := by rfl) (hpl : (backTo pos (starEach [b] X.env)).any (·.1) = false := by rfl) :
    QE X ρ (.Call (.Name "min" p) [a, b] [] pos) (tCB (fun xs H Q => ∃ i j, xs = [.int i, .int j] ∧ Q (.int (if j < i then j else i)) H) (tCons ta (tCons tb tNil))) (aCall2 (aI0 fun i j => .int (if j < i then j else i)) aa ab) :=
  q_callB2 (call_min2 hc) rd_2I hm ha hb hg (na := na) (nb := nb) (hpl := hpl)
/-- sorted of a list of ints -/
def intsOf : List D → Option (List Int)
  | [] => some []
  | .int b :: ds => (intsOf ds).map (b :: ·)
  | _ :: _ => none
theorem intsOf_ok : ∀ {ds : List D} {bs : List Int}, intsOf ds = some bs → ds = bs.map .int
  | [], _, h => by cases h; rfl
  | .int b :: ds, _, h => by
    simp only [intsOf, Option.map_eq_some_iff] at h
    obtain ⟨bs, h1, rfl⟩ := h
    rw [intsOf_ok h1]; rfl
theorem intsOf_map (bs : List Int) : intsOf (bs.map .int) = some bs := by
  induction bs with
  | nil => rfl
  | cons b bs ih => rw [List.map_cons, intsOf, ih]; rfl
def isort (ns : List Int) : List Int := ns.mergeSort (fun a b => decide (a ≤ b))
theorem isort_perm (ns : List Int) : (isort ns).Perm ns := List.mergeSort_perm ns _
theorem isort_sorted (ns : List Int) : (isort ns).Pairwise (· ≤ ·) := by
  have := List.pairwise_mergeSort (le := fun a b : Int => decide (a ≤ b)) (fun a b c h1 h2 => by simp at *; omega) (fun a b => by simp; omega) ns
  exact this.imp fun h => by simpa using h
theorem sorted_uniq {xs ys : List Int} (p : xs.Perm ys) (hx : xs.Pairwise (· ≤ ·)) (hy : ys.Pairwise (· ≤ ·)) : xs = ys := List.Perm.eq_of_pairwise (fun a b _ _ h1 h2 => by omega) hx hy p
def aSortI (r : Ret) (Γ : Sl) (M : Mem) (Q : Ret → Sl → Mem → Prop) : Prop := match sqOf r Γ M with
  | some (.lst ds) => match intsOf ds with
    | some ns => Q (.tmp (.lst ((isort ns).map .int))) Γ M
    | none => False
  | some (.scr ds) => match intsOf ds with
    | some ns => Q (.tmp (.lst ((isort ns).map .int))) Γ M
    | none => False
  | _ => False
theorem rd_sortI : RdU K ρ (rSortedI K) aSortI := by
  intro B σ H H1 G Γ M rx x Q R k r1 h q
  have go : ∀ a ns, x = .ref a → SqL K H a (ns.map V.int) → Q (.tmp (.lst ((isort ns).map .int))) Γ M → rSortedI K [x] H R := fun a ns e hq h => by
    subst e
    refine ⟨a, ns, rfl, hq, fun ns' p hp hs np => ?_⟩
    rw [sorted_uniq (hp.trans (isort_perm ns).symm) hs (isort_sorted ns)]
    exact q.newL k (repL_map_int.mpr rfl) h p np
  unfold aSortI at h
  split at h
  · rename_i ds hs
    split at h
    · rename_i ns hb
      obtain ⟨a, xs, e, hq, h2⟩ := sqOf_ok k r1 hs
      rw [intsOf_ok hb, repL_map_int] at h2
      subst h2
      exact go a ns e (SqL.of hq) h
    · exact h.elim
  · rename_i ds hs
    split at h
    · rename_i ns hb
      obtain ⟨a, xs, e, hq, h2⟩ := sqOf_ok k r1 hs
      rw [intsOf_ok hb, repL_map_int] at h2
      subst h2
      exact go a ns e hq h
    · exact h.elim
  · exact h.elim
theorem q_sortI {p : Pos} (hm : X.mg "sorted" = none) (ha : QE X ρ a ta aa) (hg : Gl X "sorted" := by rfl) (na : starEach [a] X.env = (false, eval a X.env) :: starEach [] X.env := by rfl) (hK : X.K = K := by rfl) :
    QE X ρ (.Call (.Name "sorted" p) [a] [] pos) (tCB (rSortedI K) (tCons ta tNil)) (aCall1 aSortI aa) := by subst hK; exact q_callB1 cr_sortedI rd_sortI hm ha hg (na := na)
end
end Gw

namespace Gw
open PySem L2 PyProof.Rows
variable {ρ : Ent}
/-! ### defs whose callers run no repr: what FnOk says, where the guards around are known to be none -/
structure FnG (P : Program) (w : World) (K : PySem.W.Frag) (mg : Str → Option Value) (base : Heap) (CX : CXT) (k : Nat) (f : Addr) (fd : FuncData) (ps : List Str) (sp : Sp) : Prop where
  arity : ∀ vs H Q E, sp vs H Q E → vs.length = ps.length
  go : ∀ (A : Around) (outer : List Env) (s : Shared) (H : Hp) (args : Args) (us : List Value) (vs : List V) (Q : VK) (E : XK), Room k A → A.guards = some [] → Env0 P w K mg base A outer s H →
    BindsTo s fd args (ps.zip us) → Vals vs us → sp vs H Q E → codeAny (model P w) A (.call (.ref f) args) (CR CX outer P w H s Q E) s
section
variable {P : Program} {w : World} {K : PySem.W.Frag} {mg : Str → Option Value} {base : Heap} {CX : CXT}
theorem FnG.mono {j k : Nat} {f : Addr} {fd : FuncData} {ps : List Str} {sp : Sp} (F : FnG P w K mg base CX j f fd ps sp) (h : j ≤ k) : FnG P w K mg base CX k f fd ps sp :=
  ⟨F.arity, fun A o s H ar us vs Q E r => F.go A o s H ar us vs Q E (r.mono h)⟩
/-- a def by its body -/
theorem fnG_of {k : Nat} {x qual : Str} {st : Stmt} {f : Addr} {fd : FuncData} {N ps : List Str} {sp : Sp} (F : Fun K x qual st f fd) (S : FnScope N ps (defScope st)) (ar : ∀ vs H Q E, sp vs H Q E → vs.length = ps.length)
    (body : ∀ (cd : Value) (A : Around) (outer : List Env) (s : Shared) (H : Hp) (vs : List V) (Q : VK) (E : XK), Room k (A.deeper (envOfC qual (defScope st) s.heap.objs.size f cd)) → A.guards = some [] → sp vs H Q E →
      ∃ t, PSs (cxOf CX P w K mg base N qual (defScope st) f cd A outer s H E) (defBody st) t ∧ t { nx := fun _ H' => Q .non H', rt := Q } (start N vs) H) : FnG P w K mg base CX (k + 1) f fd ps sp := by
  obtain ⟨oc, od, kV, doc, pm, an, cd, ct, osl, rfl, lk, hcode⟩ := F.ex
  refine ⟨ar, fun A outer s H args us vs Q E room gd env bind rel hsp => ?_⟩
  have inK : K.In s.heap := env.mod.kin.keeps fun b o e => (env.bs b o e).1
  have noLim : s.heap.NoLimit := env.mod.nolimit.keeps fun b o e => (env.bs b o e).1
  have kinds : ∀ y ∈ ps.zip us, (defScope st).names.lookup y.1 = some .local ∨ ((defScope st).names.lookup y.1 = some .cell ∧ ((cellsFrom (s.heap.objs.size + 1) (defScope st).names []).lookup y.1).isSome = true) := by
    rintro ⟨nm, vl⟩ hy
    exact (S.par nm (List.of_mem_zip hy).1).imp id fun q => ⟨q, PySem.W.cellsFrom_some _ _ _ (.inl q)⟩
  apply codeAny_call_function room.depth (inK _ _ lk) rfl S.co S.gen rfl (PySem.W.codeRec_of inK hcode)
  apply bind
  apply wpAny_newFunctionEnv_cells S.kind kinds
  rintro env' rfl s1 inCall
  refine ⟨noLim.keeps inCall.toInCall.keep, codeAny_func ?_⟩
  obtain ⟨t, ht, hq⟩ := body cd A outer s H vs Q E (room.deeper _) gd hsp
  have I := inv_start (CX := CX) (E := E) S room.hd env (ar _ _ _ _ hsp) rel inCall
  refine wpAny_mono (ht.run [] s1 _ H _ I hq) (fun fl s' hs => ?_) fun _ _ z => z
  match fl, hs with
  | .ret u, ⟨v, _, H', J, rv, q⟩ => exact ⟨v, H', J.os, J.bare, J.base, J.hok, rv, q⟩
  | .next, ⟨_, H', J, q⟩ => exact ⟨V.non, H', J.os, J.bare, J.base, J.hok, rfl, q⟩
  | .brk, ⟨_, _, _, q⟩ => exact q.elim
  | .cont, ⟨_, _, _, q⟩ => exact q.elim
end
section
variable {X : Cx} {CX : CXT} {k : Nat} {f : Addr} {fd : FuncData} {ps ks : List Str} {sp : Sp} {E : XK} {x : Str} {p pos : Pos} {e : Expr} {es : List Expr} {t : TA}
theorem runG {pins : List (Addr × Obj)} {σ : L2.St} {H : Hp} {s : Shared} {Q : VK} {args : Args} {us : List Value} {vs : List V} (F : FnG X.prog X.w X.K X.mg X.base CX k f fd ps sp) (room : Room k X.A) (gd : X.A.guards = some []) (hx : Passes CX X E)
    (I : Inv X pins σ H s) (bind : BindsTo s fd args (ps.zip us)) (r : Vals vs us) (h : sp vs H Q E) : codeAny (model X.prog X.w) X.A (.call (.ref f) args) (fun r s' => match r with | .ok (.ret u) => EP X pins σ Q u s' | .ok _ => False | .error e => X.xe e s') s :=
  codeAny_mono (F.go X.A X.stack s H args us vs Q E room gd I.env0 bind r h) fun res s' hq => match res, hq with
    | .ok (.ret u), hq => I.after hq
    | .ok .next, hq => hq.elim
    | .ok .brk, hq => hq.elim
    | .ok .cont, hq => hq.elim
    | .error e, hq => hx pins σ H s e s' I hq
theorem callG {pins : List (Addr × Obj)} {σ : L2.St} {H : Hp} {s : Shared} {Q : VK} {us ws : List Value} {zs : List V} {us' : List Value} (F : FnG X.prog X.w X.K X.mg X.base CX k f fd ps sp) (room : Room k X.A) (gd : X.A.guards = some []) (hx : Passes CX X E)
    (I : Inv X pins σ H s) (bind : BindsTo s fd ⟨us, ks.zip ws⟩ (ps.zip us')) (r : Vals zs us') (h : sp zs H Q E) : wpAny (model X.prog X.w) X.A (call (.ref f) us (ks.zip ws)) (EP X pins σ Q) X.xe s :=
  wpAny_call (codeAny_mono (runG F room gd hx I bind r h) fun res s' hq => match res, hq with
    | .ok (.ret u), hq => hq
    | .ok .next, hq => hq.elim
    | .ok .brk, hq => hq.elim
    | .ok .cont, hq => hq.elim
    | .error e, hq => hq)
theorem pe_callG (F : FnG X.prog X.w X.K X.mg X.base CX k f fd ps sp) (room : Room k X.A) (gd : X.A.guards = some []) (hg : Gl X x) (hm : X.mg x = some (.ref f)) (hk : PySem.W.keepIn X.K (.ref f) = true) (hb : Binds X.K fd ps []) (hx : Passes CX X E)
    (ha : PA X (e :: es) t) (hdb : (x == ("__debug__" : Str)) = false) (he : starEach (e :: es) X.env = (false, eval e X.env) :: starEach es X.env) (hpl : (backTo pos (starEach es X.env)).any (·.1) = false) :
    PE X (.Call (.Name x p) (e :: es) [] pos) (tCall sp [] E t) := by
  refine ⟨fun pins s σ H Q I h => wpAny_Call_Name_kw (ld_glob I hg hm ?_ hdb)⟩
  refine PySem.W.callWith_K (h₀ := X.base) I.ok.mod.kin hk (thn (ha.run pos pins s σ H _ I h) ?_) he hpl
  rintro us s1 ⟨vs, H1, I1, r, q⟩
  rw [List.append_nil] at q
  have hl : us.length = ps.length := by rw [← r.length]; exact F.arity _ _ _ _ q
  have b := hb s1 us I1.kIn (by rw [List.append_nil]; exact hl)
  rw [List.append_nil] at b
  exact ⟨I1.kIn, callG (ks := []) (ws := []) F room gd hx I1 b r q⟩
theorem pe_callG0 (F : FnG X.prog X.w X.K X.mg X.base CX k f fd ps sp) (room : Room k X.A) (gd : X.A.guards = some []) (hg : Gl X x) (hm : X.mg x = some (.ref f)) (hk : PySem.W.keepIn X.K (.ref f) = true) (hb : Binds X.K fd ps []) (hx : Passes CX X E)
    (hdb : (x == ("__debug__" : Str)) = false) : PE X (.Call (.Name x p) [] [] pos) (tCall sp [] E tNil) := by
  refine ⟨fun pins s σ H Q I h => wpAny_Call_Name_kw (ld_glob I hg hm ?_ hdb)⟩
  have q : sp [] H Q E := h
  have hl : ([] : List Value).length = ps.length := F.arity _ _ _ _ q
  have b := hb s [] I.kIn (by rw [List.append_nil]; exact hl)
  exact PySem.W.callWith_K0 I.kIn hk (callG (ks := []) (ws := []) F room gd hx I b .nil q)
theorem pe_callGK {kws : List Keyword} {tk : TA} {g : List Value → List Value → List Value} {gV : List V → List V → List V} (F : FnG X.prog X.w X.K X.mg X.base CX k f fd ps sp) (room : Room k X.A) (gd : X.A.guards = some []) (hg : Gl X x) (hm : X.mg x = some (.ref f)) (hk : PySem.W.keepIn X.K (.ref f) = true) (hb : KBinds X.K fd ps ks g gV) (hx : Passes CX X E)
    (hkw : PK X kws tk) (hall : (backToKw pos (keywordEach kws X.env)).all (·.1.isSome) = true) (hks : (backToKw pos (keywordEach kws X.env)).filterMap (·.1) = ks)
    (hdb : (x == ("__debug__" : Str)) = false) (hpl : ((backTo pos (starEach [] X.env)).any (·.1) || (backToKw pos (keywordEach kws X.env)).any (·.1.isNone)) = false) :
    PE X (.Call (.Name x p) [] kws pos) (tCallK sp gV E tNil tk) := by
  refine ⟨fun pins s σ H Q I h => wpAny_Call_Name_kw (ld_glob I hg hm ?_ hdb)⟩
  refine PySem.W.callWith_KW0 (h₀ := X.base) I.ok.mod.kin hk hall (thn (hkw.run pos pins s σ H _ I h) ?_) hpl
  rintro ws s2 ⟨zs, H2, I2, rz, q⟩
  have r2 := hb.rel (.nil : Vals [] []) rz
  rw [hks]
  exact ⟨I2.kIn, callG F room gd hx I2 (hb.to s2 [] ws I2.kIn (by rw [← r2.length]; exact F.arity _ _ _ _ q)) r2 q⟩
end
/-! ### repr of data -/
section
variable {X : Cx}
mutual
theorem Dp.noDict {K : PySem.W.Frag} {H : Hp} : ∀ {v : V} {d : PyData}, Dp K H v d → d.hasDict = false
  | _, _, .non => by simp [PyData.hasDict]
  | _, _, .bl _ => by simp [PyData.hasDict]
  | _, _, .int _ => by simp [PyData.hasDict]
  | _, _, .str _ => by simp [PyData.hasDict]
  | _, _, .lst _ h => by rw [PyData.hasDict]; exact DpAll.noDict h
  | _, _, .tup _ h => by rw [PyData.hasDict]; exact DpAll.noDict h
theorem DpAll.noDict {K : PySem.W.Frag} {H : Hp} : ∀ {vs : List V} {ds : List PyData}, DpAll K H vs ds → PyData.hasDictAll ds = false
  | _, _, .nil => by simp [PyData.hasDictAll]
  | _, _, .cons h1 h2 => by rw [PyData.hasDictAll, Dp.noDict h1, DpAll.noDict h2]; rfl
end
theorem call_reprD (gd : X.A.guards = some []) (hu : X.A.units + 100 < cLine) : CallR X (.builtin "repr") (fun xs H Q => ∃ v d, xs = [v] ∧ Dp X.K H v d ∧ d.showable = true ∧ d.depth ≤ 64 ∧ d.shown.length ≤ sizeLine ∧ Q (.str d.shown) H) := by
  intro pins s σ H xs us Q I rv h
  obtain ⟨v, d, rfl, hd, hs, hdep, hlen, q⟩ := h
  obtain ⟨u, rfl, ru⟩ := rv.one
  obtain ⟨as, r⟩ := Dp.reads I d v u hd ru
  have nd : d.hasDict = true → sysModules ∉ as := fun z => by rw [Dp.noDict hd] at z; cases z
  cases hd with
  | non =>
    cases ru
    exact PySem.P.repr_of_none ⟨.str _, H, I.tok _, ⟨_, rfl⟩, q⟩
  | bl b =>
    cases ru
    exact PySem.P.repr_of_bool ⟨.str _, H, I.tok _, ⟨_, rfl⟩, q⟩
  | int i =>
    obtain ⟨t, rfl⟩ := ru
    exact PySem.P.repr_of_int (by simpa [PyData.showable] using hs) ⟨.str _, H, I.tok _, ⟨_, rfl⟩, q⟩
  | str z =>
    obtain ⟨t, rfl⟩ := ru
    exact PySem.P.repr_of_str ⟨.str _, H, I.tok _, ⟨_, rfl⟩, q⟩ (by simpa [PyData.shown] using hlen)
  | lst h1 h2 =>
    cases ru
    exact repr_of_reads' r hs nd gd (by omega) (fun _ _ e => e) (fun h' u tk hk => ⟨.str _, H, I.kept hk, ⟨_, rfl⟩, q⟩) hlen
  | tup h1 h2 =>
    cases ru
    exact repr_of_reads' r hs nd gd (by omega) (fun _ _ e => e) (fun h' u tk hk => ⟨.str _, H, I.kept hk, ⟨_, rfl⟩, q⟩) hlen
end
end Gw

namespace Gw
open PySem L2
variable {ρ : Ent}

/-! ### calls of the program's own defs -/
abbrev ASp := List D → Mem → (Ret → Mem → Prop) → Prop
def Post (K : PySem.W.Frag) (H G : Hp) (M : Mem) (H' G' : Hp) (M' : Mem) : Prop :=
  Stp ⟨H, G, dom M⟩ H' G' M' ∧ Ex G' H' ∧ (dom M').Nodup ∧ ∀ a c, (a, c) ∈ M' → Cel K H' G' a c
def RetOk (K : PySem.W.Frag) (H H' G' : Hp) (M' : Mem) : Ret → V → Prop
  | .dat d, v => Rep K G' d v
  | .tmp c, v => ∃ p, v = .ref p ∧ H p = none ∧ Cel K H' G' p c ∧ p ∉ dom M'
  | .var _, _ => False
def spA (K : PySem.W.Frag) (n : Nat) (S : ASp) : Sp := fun vs H Q _ => ∃ G M ds, vs.length = n ∧ Ex G H ∧ (dom M).Nodup ∧ (∀ a c, (a, c) ∈ M → Cel K H G a c) ∧ RepL K G ds vs ∧
  ∃ Qa : Ret → Mem → Prop, S ds M Qa ∧ ∀ r M' v H' G', Qa r M' → Post K H G M H' G' M' → RetOk K H H' G' M' r v → Q v H'
section
variable {X : Cx} {a b c : Expr} {ta tb tc te : TE} {aa ab ac ae : AE} {pos : Pos} {K : PySem.W.Frag} {B : Ent} {σ : St} {H G H1 G1 H2 G2 : Hp} {Γ Γ1 Γ2 : Sl} {M M1 M2 : Mem}
theorem not_both {H : Hp} {x : Addr} {o : HO} (h : H x = some o) (z : H x = none) : False := by rw [h] at z; cases z
theorem Stp.trans (a : Stp B H1 G1 M1) (b : Stp ⟨H1, G1, dom M1⟩ H2 G2 M2) : Stp B H2 G2 M2 where
  g := a.g.trans b.g
  fr := fun x o h n => b.fr x o (a.fr x o h n) fun m => (a.mn x m).elim n (not_both h)
  gn := fun x o h => (b.gn x o h).elim (fun z => a.gn x o z) fun z => .inr (a.nn x z)
  mn := fun x h => (b.mn x h).elim (fun z => a.mn x z) fun z => .inr (a.nn x z)
  nn := fun x h => a.nn x (b.nn x h)
/-- behind a call -/
theorem Ok.call {H' G' : Hp} {M' : Mem} {r : Ret} {v : V} (k : Ok K ρ B σ H G Γ M) (p : Post K H G M H' G' M') (rr : RetOk K H H' G' M' r v) :
    Ok K ρ B σ H' G' Γ M' ∧ Es σ H G Γ M H' G' Γ M' ∧ RepR K B σ H H' G' Γ M' r v := by
  obtain ⟨st, ex, nd, ms⟩ := p
  have keep : ∀ x o, H x = some o → G x = none → x ∉ dom M → H' x = some o ∧ G' x = none ∧ x ∉ dom M' := fun x o h g m => by
    refine ⟨st.fr x o h m, ?_, fun z => (st.mn x z).elim m (not_both h)⟩
    cases e : G' x with
    | none => rfl
    | some u =>
      rcases st.gn x u e with z | z
      · exact (not_both z g).elim
      · exact (not_both h z).elim
  have k' : Ok K ρ B σ H' G' Γ M' := ⟨k.st.trans st, ex, nd, ms, fun i d h => let ⟨w, h1, h2⟩ := k.dat i d h; ⟨w, h1, h2.mono st.g⟩, fun i c h => by
    obtain ⟨q, h1, h2, h3, hg, o, ho, hc⟩ := k.own i c h
    obtain ⟨b1, b2, b3⟩ := keep q o ho hg h3
    exact ⟨q, h1, h2, b3, b2, o, b1, hc.mono st.g⟩, k.dis, k.len, k.pb⟩
  refine ⟨k', ⟨st.g, fun x o h g m n => let ⟨b1, b2, b3⟩ := keep x o h g m; ⟨b1, b2, b3, n⟩, st.nn⟩, ?_⟩
  cases r with
  | dat d => exact rr
  | tmp c =>
    obtain ⟨q, e, hq, hc, hm⟩ := rr
    refine ⟨q, e, hq, k.st.nn q hq, hc, hm, fun ⟨i, c', h1, h2⟩ => ?_⟩
    obtain ⟨q', h3, _, _, _, o, ho, _⟩ := k.own i c' h1
    rw [h2] at h3; cases h3; rw [hq] at ho; cases ho
  | var i => exact rr.elim
/-- a promise taken at its arguments; what follows is kept from the simplifier -/
structure Wit (Q : Ret → Mem → Prop) : Type where
def ap (S : ASp) (ds : List D) (M : Mem) (Q : Ret → Mem → Prop) (_ : Wit Q) : Prop := S ds M Q
def aCall (S : ASp) (aa : AA) (Γ : Sl) (M : Mem) (Q : Ret → Sl → Mem → Prop) : Prop := aa Γ M fun ds Γ1 M1 => ap S ds M1 (fun r M2 => Q r Γ1 M2) ⟨⟩
/-- a spec of n arguments -/
def Ar (n : Nat) (S : ASp) : Prop := ∀ ds M Q, S ds M Q → ds.length = n
theorem rd_call {n : Nat} {S : ASp} {E : XK} {tr : TA} {ar : AA} (hn : Ar n S) (ha : RdA K ρ tr ar) : RdE K ρ (tCall (spA K n S) [] E tr) (aCall S ar) := by
  intro B σ H G Γ M Q R k h q
  refine ha B σ H G Γ M _ _ k h fun vs H1 G1 Γ1 M1 ds k1 e1 rl h1 => ?_
  refine ⟨G1, M1, ds, by rw [List.append_nil, rl.length]; exact hn _ _ _ h1, k1.ex, k1.nd, k1.ms, by rw [List.append_nil]; exact rl, _, h1, fun r M' v H' G' hq p rr => ?_⟩
  obtain ⟨k2, e2, r2⟩ := k1.call p rr
  exact q _ H' G' Γ1 M' r k2 (e1.trans e2) (r2.old e1.nn) hq
section
variable {CX : CXT} {k n : Nat} {f : Addr} {fd : FuncData} {ps ks : List Str} {S : ASp} {x : Str} {p : Pos} {es : List Expr} {tr : TA} {ar : AA}
theorem q_call (F : FnG X.prog X.w X.K X.mg X.base CX0 k f fd ps (spA X.K n S)) (hr : Room k X.A) (gd : X.A.guards = some []) (hm : X.mg x = some (.ref f)) (hk : PySem.W.keepIn X.K (.ref f) = true) (hb : Binds X.K fd ps []) (hn : Ar n S)
    (ha : QA X ρ (a :: es) tr ar) (hg : Gl X x := by rfl) (hdb : (x == ("__debug__" : Str)) = false := by decide) (he : starEach (a :: es) X.env = (false, eval a X.env) :: starEach es X.env := by rfl) (hpl : (backTo pos (starEach es X.env)).any (·.1) = false := by rfl) :
    QE X ρ (.Call (.Name x p) (a :: es) [] pos) (tCall (spA X.K n S) [] E0 tr) (aCall S ar) := ⟨pe_callG F hr gd hg hm hk hb pass0 ha.pe hdb he hpl, rd_call hn ha.rd⟩
theorem q_call0 (F : FnG X.prog X.w X.K X.mg X.base CX0 k f fd ps (spA X.K n S)) (hr : Room k X.A) (gd : X.A.guards = some []) (hm : X.mg x = some (.ref f)) (hk : PySem.W.keepIn X.K (.ref f) = true) (hb : Binds X.K fd ps []) (hn : Ar n S)
    (hg : Gl X x := by rfl) (hdb : (x == ("__debug__" : Str)) = false := by decide) :
    QE X ρ (.Call (.Name x p) [] [] pos) (tCall (spA X.K n S) [] E0 tNil) (aCall S aNil) := ⟨pe_callG0 F hr gd hg hm hk hb pass0 hdb, rd_call hn rd_nil⟩
/-! with keywords alone: gV puts what is given in the parameters' order -/
structure QK (X : Cx) (ρ : Ent) (kws : List Keyword) (tk : TA) (ak : AA) : Prop where
  pe : PK X kws tk
  rd : RdA X.K ρ tk ak
theorem qk_nil : QK X ρ [] tNil aNil := ⟨pk_nil, rd_nil⟩
theorem qk_cons {kws : List Keyword} {nm : Option Str} {kpos : Pos} {tk : TA} {ak : AA} (ha : QE X ρ a ta aa) (hr : QK X ρ kws tk ak) : QK X ρ (⟨nm, a, kpos⟩ :: kws) (tCons ta tk) (aCons aa ak) := ⟨pk_cons ha.pe hr.pe, rd_cons ha.rd hr.rd⟩
/-- one order of the parameters for values, the model's and data -/
structure Ord (gV : List V → List V → List V) (gD : List D → List D) : Prop where
  rep : ∀ {K G vs ds}, RepL K G ds vs → RepL K G (gD ds) (gV [] vs)
def aCallK (S : ASp) (gD : List D → List D) (ak : AA) (Γ : Sl) (M : Mem) (Q : Ret → Sl → Mem → Prop) : Prop := ak Γ M fun ds Γ1 M1 => ap S (gD ds) M1 (fun r M2 => Q r Γ1 M2) ⟨⟩
theorem q_callK0 {kws : List Keyword} {tk : TA} {ak : AA} {g : List Value → List Value → List Value} {gV : List V → List V → List V} {gD : List D → List D} (F : FnG X.prog X.w X.K X.mg X.base CX0 k f fd ps (spA X.K n S)) (hr : Room k X.A) (gd : X.A.guards = some []) (hm : X.mg x = some (.ref f)) (hk : PySem.W.keepIn X.K (.ref f) = true) (hb : KBinds X.K fd ps ks g gV) (ho : Ord gV gD) (hn : Ar n S)
    (hkw : QK X ρ kws tk ak) (hg : Gl X x := by rfl) (hall : (backToKw pos (keywordEach kws X.env)).all (·.1.isSome) = true := by rfl) (hks : (backToKw pos (keywordEach kws X.env)).filterMap (·.1) = ks := by rfl)
    (hdb : (x == ("__debug__" : Str)) = false := by decide) (hpl : ((backTo pos (starEach [] X.env)).any (·.1) || (backToKw pos (keywordEach kws X.env)).any (·.1.isNone)) = false := by rfl) :
    QE X ρ (.Call (.Name x p) [] kws pos) (tCallK (spA X.K n S) gV E0 tNil tk) (aCallK S gD ak) := ⟨pe_callGK F hr gd hg hm hk hb pass0 hkw.pe hall hks hdb hpl, by
  intro B σ H G Γ M Q R k h q
  refine hkw.rd B σ H G Γ M _ _ k h fun vs H1 G1 Γ1 M1 ds k1 e1 rl h1 => ?_
  refine ⟨G1, M1, gD ds, by rw [(ho.rep rl).length]; exact hn _ _ _ h1, k1.ex, k1.nd, k1.ms, ho.rep rl, _, h1, fun r M' v H' G' hq p rr => ?_⟩
  obtain ⟨k2, e2, r2⟩ := k1.call p rr
  exact q _ H' G' Γ1 M' r k2 (e1.trans e2) (r2.old e1.nn) hq⟩
end

/-! ### statements -/
structure Sim (K : PySem.W.Frag) (ρ : Ent) (B : Ent) (A : AEnds) (E : Ends) : Prop where
  nx : ∀ σ H G Γ M, Ok K ρ B σ H G Γ M → A.nx Γ M → E.nx σ H
  rt : ∀ σ H0 H G Γ M r v, Ok K ρ B σ H G Γ M → RepR K B σ H0 H G Γ M r v → A.rt r Γ M → E.rt v H
  bk : ∀ σ H G Γ M, Ok K ρ B σ H G Γ M → A.bk Γ M → E.bk σ H
  ct : ∀ σ H G Γ M, Ok K ρ B σ H G Γ M → A.ct Γ M → E.ct σ H
def RdS (K : PySem.W.Frag) (ρ : Ent) (ts : TS) (as : AS) : Prop := ∀ B σ H G Γ M A E, Ok K ρ B σ H G Γ M → as A Γ M → Sim K ρ B A E → ts E σ H
structure QS (X : Cx) (ρ : Ent) (st : Stmt) (ts : TS) (as : AS) : Prop where
  pe : PS X st ts
  rd : RdS X.K ρ ts as
structure QSs (X : Cx) (ρ : Ent) (st : List Stmt) (ts : TS) (as : AS) : Prop where
  pe : PSs X st ts
  rd : RdS X.K ρ ts as
def aNext (A : AEnds) (Γ : Sl) (M : Mem) : Prop := A.nx Γ M
def aSeq (s t : AS) (A : AEnds) (Γ : Sl) (M : Mem) : Prop := s { A with nx := t A } Γ M
theorem Sim.seq {A : AEnds} {E : Ends} {t : AS} {tt : TS} (s : Sim K ρ B A E) (h : RdS K ρ tt t) : Sim K ρ B { A with nx := t A } { E with nx := tt E } :=
  ⟨fun σ H G Γ M k q => h B σ H G Γ M A E k q s, s.rt, s.bk, s.ct⟩
theorem qss_nil : QSs X ρ [] tNext aNext := ⟨pss_nil, fun _ σ H G Γ M _ _ k h s => s.nx σ H G Γ M k h⟩
theorem qss_cons {st : Stmt} {rest : List Stmt} {ts tr : TS} {as ar : AS} (h1 : QS X ρ st ts as) (h2 : QSs X ρ rest tr ar) : QSs X ρ (st :: rest) (tSeq ts tr) (aSeq as ar) :=
  ⟨pss_cons h1.pe h2.pe, fun B σ H G Γ M A E k h s => h1.rd B σ H G Γ M _ _ k h (s.seq h2.rd)⟩
theorem qss_one {st : Stmt} {ts : TS} {as : AS} (h1 : QS X ρ st ts as) : QSs X ρ [st] ts as := ⟨pss_one h1.pe, h1.rd⟩
theorem qs_pass : QS X ρ (.Pass pos) tNext aNext := ⟨ps_pass, fun _ σ H G Γ M _ _ k h s => s.nx σ H G Γ M k h⟩
def aBrk (A : AEnds) (Γ : Sl) (M : Mem) : Prop := A.bk Γ M
def aCnt (A : AEnds) (Γ : Sl) (M : Mem) : Prop := A.ct Γ M
theorem qs_break : QS X ρ (.Break pos) tBreak aBrk := ⟨ps_break, fun _ σ H G Γ M _ _ k h s => s.bk σ H G Γ M k h⟩
theorem qs_continue : QS X ρ (.Continue pos) tCont aCnt := ⟨ps_continue, fun _ σ H G Γ M _ _ k h s => s.ct σ H G Γ M k h⟩
def aDrop (aa : AE) (A : AEnds) (Γ : Sl) (M : Mem) : Prop := aa Γ M fun _ Γ1 M1 => A.nx Γ1 M1
theorem qs_expr (h : QE X ρ a ta aa) (hs : swapsWith a none pos.line X.env = pure false := by rfl) : QS X ρ (.Expr a pos) (tDrop ta) (aDrop aa) :=
  ⟨ps_expr h.pe hs, fun B σ H G Γ M A E k hh s => h.rd B σ H G Γ M _ _ k hh fun v H1 G1 Γ1 M1 r k1 _ _ q => s.nx σ H1 G1 Γ1 M1 k1 q⟩
def aRet (aa : AE) (A : AEnds) (Γ : Sl) (M : Mem) : Prop := aa Γ M fun r Γ1 M1 => A.rt r Γ1 M1
theorem qs_ret (h : QE X ρ a ta aa) : QS X ρ (.Return (some a) pos) (tRet ta) (aRet aa) :=
  ⟨ps_ret h.pe, fun B σ H G Γ M A E k hh s => h.rd B σ H G Γ M _ _ k hh fun v H1 G1 Γ1 M1 r k1 _ rr q => s.rt σ H H1 G1 Γ1 M1 r v k1 rr q⟩
def aIfS (t : AT) (s u : AS) (A : AEnds) (Γ : Sl) (M : Mem) : Prop := t Γ M fun b Γ1 M1 => if b = true then s A Γ1 M1 else u A Γ1 M1
theorem qs_if {tt : TT} {at' : AT} {s1 s2 : List Stmt} {ts tu : TS} {as au : AS} (hc : QT X ρ c tt at') (h1 : QSs X ρ s1 ts as) (h2 : QSs X ρ s2 tu au) : QS X ρ (.If c s1 s2 pos) (tIfS tt ts tu) (aIfS at' as au) :=
  ⟨ps_if hc.pe h1.pe h2.pe, fun B σ H G Γ M A E k h s => hc.rd B σ H G Γ M _ _ k h fun b H1 G1 Γ1 M1 k1 _ q => by
    cases b with
    | true => exact h1.rd B σ H1 G1 Γ1 M1 A E k1 (by simpa using q) s
    | false => exact h2.rd B σ H1 G1 Γ1 M1 A E k1 (by simpa using q) s⟩

/-! ### stores -/
theorem set_get {α : Type} {l : List α} {i j : Nat} {s t : α} (h : (l.set i s)[j]? = some t) : (j = i ∧ t = s) ∨ (j ≠ i ∧ l[j]? = some t) := by
  rw [List.getElem?_set] at h
  by_cases e : i = j
  · rw [if_pos e] at h
    split at h
    · cases h; exact .inl ⟨e.symm, rfl⟩
    · cases h
  · rw [if_neg e] at h; exact .inr ⟨fun q => e q.symm, h⟩
theorem lt_of_set {α : Type} {l : List α} {i : Nat} {s t : α} (h : (l.set i s)[i]? = some t) : i < l.length := by
  have := (List.getElem?_eq_some_iff.mp h).1
  rwa [List.length_set] at this
theorem owned_set {i : Nat} {v : V} {s : Slot} {x : Addr} (hs : ∀ c, s ≠ .own c) (h : owned (σ.set i (some v)) (Γ.set i s) x) : owned σ Γ x := by
  obtain ⟨j, c, h1, h2⟩ := h
  rcases set_get h1 with ⟨_, e⟩ | ⟨ne, e⟩
  · exact (hs c e.symm).elim
  · refine ⟨j, c, e, ?_⟩
    rw [List.getElem?_set_ne (fun q => ne q.symm)] at h2; exact h2
theorem Ok.setD {i : Nat} {d : D} {v : V} (k : Ok K ρ B σ H G Γ M) (r : Rep K G d v) : Ok K ρ B (σ.set i (some v)) H G (Γ.set i (.dat d)) M := by
  refine ⟨k.st, k.ex, k.nd, k.ms, fun j e h => ?_, fun j c h => ?_, fun j l c c' q h h' a b => ?_, by rw [List.length_set, List.length_set]; exact k.len, k.pb⟩
  · rcases set_get h with ⟨e1, e2⟩ | ⟨ne, e1⟩
    · cases e2; subst e1
      refine ⟨v, ?_, r⟩
      rw [List.getElem?_set_self]
      rw [← k.len]; exact lt_of_set h
    · rw [List.getElem?_set_ne (fun q => ne q.symm)]; exact k.dat j e e1
  · rcases set_get h with ⟨_, e2⟩ | ⟨ne, e1⟩
    · cases e2
    · rw [List.getElem?_set_ne (fun q => ne q.symm)]; exact k.own j c e1
  · rcases set_get h with ⟨_, e2⟩ | ⟨ne, e1⟩
    · cases e2
    rcases set_get h' with ⟨_, e2⟩ | ⟨ne', e1'⟩
    · cases e2
    rw [List.getElem?_set_ne (fun q => ne q.symm)] at a
    rw [List.getElem?_set_ne (fun q => ne' q.symm)] at b
    exact k.dis j l c c' q e1 e1' a b
theorem Ok.setO {i : Nat} {c : Cell} {p : Addr} (k : Ok K ρ B σ H G Γ M) (hb : B.H p = none) (hc : Cel K H G p c) (hm : p ∉ dom M) (hn : ¬ owned σ Γ p) : Ok K ρ B (σ.set i (some (.ref p))) H G (Γ.set i (.own c)) M := by
  refine ⟨k.st, k.ex, k.nd, k.ms, fun j e h => ?_, fun j c h => ?_, fun j l cj cl q h h' a b => ?_, by rw [List.length_set, List.length_set]; exact k.len, k.pb⟩
  · rcases set_get h with ⟨_, e2⟩ | ⟨ne, e1⟩
    · cases e2
    · rw [List.getElem?_set_ne (fun q => ne q.symm)]; exact k.dat j e e1
  · rcases set_get h with ⟨e1, e2⟩ | ⟨ne, e1⟩
    · cases e2; subst e1
      refine ⟨p, ?_, hb, hm, hc⟩
      rw [List.getElem?_set_self]
      rw [← k.len]; exact lt_of_set h
    · rw [List.getElem?_set_ne (fun q => ne q.symm)]; exact k.own j c e1
  · rcases set_get h with ⟨ei, e2⟩ | ⟨ne, e1⟩ <;> rcases set_get h' with ⟨ei', e2'⟩ | ⟨ne', e1'⟩
    · rw [ei, ei']
    · exfalso
      subst ei
      rw [List.getElem?_set_self (by rw [← k.len]; exact lt_of_set h)] at a
      cases a
      rw [List.getElem?_set_ne (fun q => ne' q.symm)] at b
      exact hn ⟨l, cl, e1', b⟩
    · exfalso
      subst ei'
      rw [List.getElem?_set_self (by rw [← k.len]; exact lt_of_set h')] at b
      cases b
      rw [List.getElem?_set_ne (fun q => ne q.symm)] at a
      exact hn ⟨j, cj, e1, a⟩
    · rw [List.getElem?_set_ne (fun q => ne q.symm)] at a
      rw [List.getElem?_set_ne (fun q => ne' q.symm)] at b
      exact k.dis j l cj cl q e1 e1' a b
/-- x = e: a new list is owned -/
def aAsg (aa : AE) (i : Nat) (A : AEnds) (Γ : Sl) (M : Mem) : Prop := aa Γ M fun r Γ1 M1 => match r with
  | .tmp c => A.nx (Γ1.set i (.own c)) M1
  | r => frz r Γ1 fun d Γ2 => A.nx (Γ2.set i (.dat d)) M1
/-- x = e: a new list is frozen -/
def aAsgF (aa : AE) (i : Nat) (A : AEnds) (Γ : Sl) (M : Mem) : Prop := aa Γ M fun r Γ1 M1 => frz r Γ1 fun d Γ2 => A.nx (Γ2.set i (.dat d)) M1
theorem rd_asgF {i : Nat} (ha : RdE K ρ ta aa) : RdS K ρ (tAsg ta (gName i)) (aAsgF aa i) := fun B σ H G Γ M A E k h s => ha B σ H G Γ M _ _ k h fun v H1 G1 Γ1 M1 r k1 e1 rr h1 => by
  obtain ⟨G2, Γ2, d, k2, e2, rp, h2⟩ := frz_ok (H0 := H) k1 e1 rr h1
  exact s.nx _ H1 G2 _ M1 (k2.setD rp) h2
theorem rd_asg {i : Nat} (ha : RdE K ρ ta aa) : RdS K ρ (tAsg ta (gName i)) (aAsg aa i) := fun B σ H G Γ M A E k h s => ha B σ H G Γ M _ _ k h fun v H1 G1 Γ1 M1 r k1 e1 rr h1 => by
  cases r with
  | tmp c =>
    obtain ⟨p, rfl, h0, hb, hc, hm, hn⟩ := rr
    exact s.nx _ H1 G1 _ M1 (k1.setO hb hc hm hn) h1
  | dat d =>
    obtain ⟨G2, Γ2, d, k2, e2, rp, h2⟩ := frz_ok (H0 := H) k1 e1 rr h1
    exact s.nx _ H1 G2 _ M1 (k2.setD rp) h2
  | var j =>
    obtain ⟨G2, Γ2, d, k2, e2, rp, h2⟩ := frz_ok (H0 := H) k1 e1 rr h1
    exact s.nx _ H1 G2 _ M1 (k2.setD rp) h2
section
variable {i : Nat} {x : Str} {pos' : Pos}
theorem qs_set (i : Nat) (hN : X.N.Nodup) (h : QE X ρ a ta aa) (hi : X.N[i]? = some x := by rfl) (hx : Loc X.env.scope x := by first | exact Or.inl rfl | exact Or.inr rfl) (hs : swapsWith a (some (.Name x pos')) pos.line X.env = pure false := by rfl) (hf : X.fn x = true ∨ X.env.scope.names.lookup x = some .local := by first | exact .inl rfl | exact .inr rfl | assumption) :
    QS X ρ (.Assign [.Name x pos'] a pos) (tAsg ta (gName i)) (aAsg aa i) := ⟨ps_set hN hi hx h.pe hs hf, rd_asg h.rd⟩
theorem qs_setF (i : Nat) (hN : X.N.Nodup) (h : QE X ρ a ta aa) (hi : X.N[i]? = some x := by rfl) (hx : Loc X.env.scope x := by first | exact Or.inl rfl | exact Or.inr rfl) (hs : swapsWith a (some (.Name x pos')) pos.line X.env = pure false := by rfl) (hf : X.fn x = true ∨ X.env.scope.names.lookup x = some .local := by first | exact .inl rfl | exact .inr rfl | assumption) :
    QS X ρ (.Assign [.Name x pos'] a pos) (tAsg ta (gName i)) (aAsgF aa i) := ⟨ps_set hN hi hx h.pe hs hf, rd_asgF h.rd⟩
end
/-! targets -/
abbrev AG := D → Sl → (Sl → Prop) → Prop
abbrev AGs := List D → Sl → (Sl → Prop) → Prop
def RdG (K : PySem.W.Frag) (ρ : Ent) (tg : TG) (ag : AG) (is : List Nat) : Prop := ∀ B σ H G Γ M d v (Q : Sl → Prop) (R : St → Hp → Prop), Ok K ρ B σ H G Γ M → Rep K G d v → ag d Γ Q →
  (∀ σ' Γ', Ok K ρ B σ' H G Γ' M → (∀ ws : List Nat, (∀ j ∈ is, j ∈ ws) → wipe σ' ws = wipe σ ws) → (∀ x, owned σ' Γ' x → owned σ Γ x) → Q Γ' → R σ' H) → tg v σ H R
def RdGs (K : PySem.W.Frag) (ρ : Ent) (tg : TGs) (ag : AGs) (is : List Nat) : Prop := ∀ B σ H G Γ M ds vs (Q : Sl → Prop) (R : St → Hp → Prop), Ok K ρ B σ H G Γ M → RepL K G ds vs → ag ds Γ Q →
  (∀ σ' Γ', Ok K ρ B σ' H G Γ' M → (∀ ws : List Nat, (∀ j ∈ is, j ∈ ws) → wipe σ' ws = wipe σ ws) → (∀ x, owned σ' Γ' x → owned σ Γ x) → Q Γ' → R σ' H) → tg vs σ H R
structure QG (X : Cx) (ρ : Ent) (tg : Expr) (t : TG) (ag : AG) (is : List Nat) : Prop where
  pe : PG X tg t
  rd : RdG X.K ρ t ag is
structure QGs (X : Cx) (ρ : Ent) (tgs : List Expr) (t : TGs) (ag : AGs) (is : List Nat) : Prop where
  pe : PGs X tgs t
  rd : RdGs X.K ρ t ag is
def agN (i : Nat) (d : D) (Γ : Sl) (Q : Sl → Prop) : Prop := Q (Γ.set i (.dat d))
def agNil (ds : List D) (Γ : Sl) (Q : Sl → Prop) : Prop := match ds with
  | [] => Q Γ
  | _ => False
def agCons (g : AG) (u : AGs) (ds : List D) (Γ : Sl) (Q : Sl → Prop) : Prop := match ds with
  | d :: r => g d Γ fun Γ1 => u r Γ1 Q
  | _ => False
def agT (n : Nat) (u : AGs) (d : D) (Γ : Sl) (Q : Sl → Prop) : Prop := match d with
  | .tup ds => ds.length = n ∧ u ds Γ Q
  | _ => False
theorem wipe_set {i : Nat} {v : Option V} : ∀ (ws : List Nat) (σ : St), i ∈ ws → wipe (σ.set i v) ws = wipe σ ws
  | [], _, h => by simp at h
  | w :: ws, σ, h => by
    unfold wipe
    by_cases hi : i ∈ ws
    · rw [wipe_set ws σ hi]
    · have e : i = w := by simpa [hi] using h
      subst e
      have comm : ∀ (us : List Nat) (σ : St), i ∉ us → wipe (σ.set i v) us = (wipe σ us).set i v := by
        intro us
        induction us with
        | nil => intro σ _; rfl
        | cons u us ih =>
          intro σ hu
          rw [List.mem_cons, not_or] at hu
          unfold wipe
          rw [ih σ hu.2, List.set_comm _ _ (fun e => hu.1 e)]
      rw [comm ws σ hi, List.set_set]
theorem rd_gN {i : Nat} : RdG K ρ (gName i) (agN i) [i] := fun B σ H G Γ M d v Q R k r h q => q _ _ (k.setD r) (fun ws hw => wipe_set ws σ (hw i (by simp))) (fun x h => owned_set (fun c e => by cases e) h) h
theorem rd_gNil : RdGs K ρ gNil agNil [] := fun B σ H G Γ M ds vs Q R k r h q => by
  unfold agNil at h
  split at h
  · exact ⟨repL_nil.mp r, q σ Γ k (fun _ _ => rfl) (fun _ z => z) h⟩
  · exact h.elim
theorem rd_gCons {t : TG} {u : TGs} {g : AG} {ag : AGs} {is js : List Nat} (h1 : RdG K ρ t g is) (h2 : RdGs K ρ u ag js) : RdGs K ρ (gCons t u) (agCons g ag) (is ++ js) := fun B σ H G Γ M ds vs Q R k r h q => by
  unfold agCons at h
  split at h
  · rename_i d ds
    obtain ⟨x, xs, rfl, r1, r2⟩ := repL_cons.mp r
    refine ⟨x, xs, rfl, h1 B σ H G Γ M d x _ _ k r1 h fun σ1 Γ1 k1 w1 o1 q1 => ?_⟩
    exact h2 B σ1 H G Γ1 M ds xs _ _ k1 r2 q1 fun σ2 Γ2 k2 w2 o2 q2 => q σ2 Γ2 k2 (fun ws hw => (w2 ws fun j hj => hw j (List.mem_append_right _ hj)).trans (w1 ws fun j hj => hw j (List.mem_append_left _ hj))) (fun x z => o1 x (o2 x z)) q2
  · exact h.elim
theorem rd_gT {n : Nat} {u : TGs} {ag : AGs} {is : List Nat} (h2 : RdGs K ρ u ag is) : RdG K ρ (gTup K n u) (agT n ag) is := fun B σ H G Γ M d v Q R k r h q => by
  unfold agT at h
  split at h
  · rename_i ds
    obtain ⟨a, xs, e, hq, rl⟩ := rep_tup.mp r
    exact ⟨a, xs, e, ex_t k.ex hq, by rw [rl.length]; exact h.1, h2 B σ H G Γ M ds xs Q R k rl h.2 q⟩
  · exact h.elim
section
variable {i : Nat} {x : Str} {pos' : Pos}
theorem qg_name (i : Nat) (hN : X.N.Nodup) (hi : X.N[i]? = some x := by rfl) (hx : Loc X.env.scope x := by first | exact Or.inl rfl | exact Or.inr rfl) (hf : X.fn x = true ∨ X.env.scope.names.lookup x = some .local := by first | exact .inl rfl | exact .inr rfl | assumption) : QG X ρ (.Name x pos) (gName i) (agN i) [i] := ⟨pg_name hN hi hx hf, rd_gN⟩
theorem qgs_nil : QGs X ρ [] gNil agNil [] := ⟨pgs_nil, rd_gNil⟩
theorem qgs_cons {es : List Expr} {t : TG} {u : TGs} {g : AG} {ag : AGs} {is js : List Nat} (h1 : QG X ρ a t g is) (h2 : QGs X ρ es u ag js) (hs : (assignEach (a :: es) X.env).map (·.2) = assign a X.env :: (assignEach es X.env).map (·.2) := by rfl) : QGs X ρ (a :: es) (gCons t u) (agCons g ag) (is ++ js) := ⟨pgs_cons h1.pe h2.pe hs, rd_gCons h1.rd h2.rd⟩
theorem qg_tup {es : List Expr} {kk n : Nat} {u : TGs} {ag : AGs} {is : List Nat} (h : QGs X ρ es u ag is) (hc : X.calm = true := by rfl) (hn : (assignEach es X.env).length = n := by rfl) (hst : (assignEach es X.env).findIdx? (·.1) = none := by rfl) (hK : X.K = K := by rfl) : QG X ρ (.Tuple es kk pos) (gTup K n u) (agT n ag) is := by subst hK; exact ⟨pg_tup hc h.pe hn hst, rd_gT h.rd⟩
end
/-- a, b, .. = e -/
def aUnp (aa : AE) (g : AG) (A : AEnds) (Γ : Sl) (M : Mem) : Prop := aa Γ M fun r Γ1 M1 => frz r Γ1 fun d Γ2 => g d Γ2 fun Γ3 => A.nx Γ3 M1
theorem qs_unp {tg : Expr} {t : TG} {g : AG} {is : List Nat} (h : QE X ρ a ta aa) (hg : QG X ρ tg t g is) (hs : swapsWithSole [tg] a pos.line X.env = pure false := by rfl) (hw : swappedStores [tg] a X.env = pure none := by rfl) (h1 : (assignEach [tg] X.env).map (·.2) = [assign tg X.env] := by rfl) : QS X ρ (.Assign [tg] a pos) (tAsg ta t) (aUnp aa g) :=
  ⟨ps_asg h.pe hg.pe hs hw h1, fun B σ H G Γ M A E k hh s => h.rd B σ H G Γ M _ _ k hh fun v H1 G1 Γ1 M1 r k1 e1 rr h1 => by
    obtain ⟨G2, Γ2, d, k2, e2, rp, h2⟩ := frz_ok (H0 := H) k1 e1 rr h1
    exact hg.rd B σ H1 G2 Γ2 M1 d v _ _ k2 rp h2 fun σ' Γ' k3 _ _ q => s.nx σ' H1 G2 Γ' M1 k3 q⟩
end
end Gw

namespace Gw
open PySem L2
variable {ρ : Ent}
section
variable {X : Cx} {a b c : Expr} {ta tb tc te : TE} {aa ab ac ae : AE} {pos : Pos} {K : PySem.W.Frag} {B : Ent} {σ : St} {H G H1 G1 H2 G2 : Hp} {Γ Γ1 Γ2 : Sl} {M M1 M2 : Mem}

/-! ### lists that are changed -/
def lget (r : Ret) (Γ : Sl) (M : Mem) : Option (List D) := match r with
  | .var i => match Γ[i]? with
    | some (.own (.lst ds)) => some ds
    | _ => none
  | .dat (.ref a) => match M.lookup a with
    | some (.lst ds) => some ds
    | _ => none
  | _ => none
def mput (M : Mem) (a : Addr) (c : Cell) : Mem := M.map fun x => if x.1 = a then (a, c) else x
def lput (r : Ret) (ds : List D) (Γ : Sl) (M : Mem) (k : Sl → Mem → Prop) : Prop := match r with
  | .var i => k (Γ.set i (.own (.lst ds))) M
  | .dat (.ref a) => k Γ (mput M a (.lst ds))
  | _ => False
theorem dom_mput (M : Mem) (a : Addr) (c : Cell) : dom (mput M a c) = dom M := by
  unfold dom mput
  rw [List.map_map]
  apply List.map_congr_left
  intro x _
  show (if x.1 = a then (a, c) else x).1 = x.1
  split
  · rename_i e; exact e.symm
  · rfl
theorem lget_ok {r : Ret} {v : V} {ds : List D} {H0 : Hp} (k : Ok K ρ B σ H G Γ M) (rr : RepR K B σ H0 H G Γ M r v) (h : lget r Γ M = some ds) : ∃ l xs, v = .ref l ∧ H l = some (.lst xs) ∧ RepL K G ds xs := by
  cases r with
  | var i =>
    simp only [lget] at h
    split at h
    · rename_i ds' e1
      cases h
      obtain ⟨p, s1, hb, hm, hg, u, ho, vs, rfl, hr⟩ := k.own i _ e1
      have : v = .ref p := by have := (show σ[i]? = some (some v) from rr); rw [s1] at this; cases this; rfl
      exact ⟨p, vs, this, ho, hr⟩
    · cases h
  | dat d =>
    cases d with
    | ref a =>
      simp only [lget] at h
      split at h
      · rename_i ds' e1
        cases h
        obtain ⟨hg, u, ho, vs, rfl, hr⟩ := k.ms a _ (lookup_mem e1)
        exact ⟨a, vs, by have := rr; simp only [RepR, Rep] at this; exact this, ho, hr⟩
      · cases h
    | _ => cases h
  | tmp c => cases h
theorem lput_ok {r : Ret} {l : Addr} {ds ds' : List D} {xs' : List V} {H0 : Hp} {kk : Sl → Mem → Prop} (k : Ok K ρ B σ H G Γ M) (rr : RepR K B σ H0 H G Γ M r (.ref l)) (h : lget r Γ M = some ds) (rl : RepL K G ds' xs') (hp : lput r ds' Γ M kk) :
    ∃ Γ' M', Ok K ρ B σ (upd H l (.lst xs')) G Γ' M' ∧ Es σ H G Γ M (upd H l (.lst xs')) G Γ' M' ∧ kk Γ' M' := by
  have updN : ∀ x, upd H l (.lst xs') x = none → H x = none := fun x e => by
    by_cases z : x = l
    · subst z; rw [upd_same] at e; cases e
    · rw [upd_ne z] at e; exact e
  cases r with
  | tmp c => cases h
  | var i =>
    simp only [lget] at h
    split at h
    · rename_i dd e1
      cases h
      obtain ⟨p, s1, hb, hm, hg, u, ho, vs, rfl, hr⟩ := k.own i _ e1
      have e : p = l := by have := (show σ[i]? = some (some (.ref l)) from rr); rw [s1] at this; cases this; rfl
      subst e
      have exG : Ex G (upd H p (.lst xs')) := fun x o z => by
        have ne : x ≠ p := fun e => by subst e; rw [hg] at z; cases z
        rw [upd_ne ne]; exact k.ex x o z
      have cel : ∀ x c, x ≠ p → Cel K H G x c → Cel K (upd H p (.lst xs')) G x c := fun x c ne ⟨z1, o, z2, z3⟩ => ⟨z1, o, by rw [upd_ne ne]; exact z2, z3⟩
      refine ⟨_, _, ⟨⟨k.st.g, fun x o z n => ?_, k.st.gn, k.st.mn, fun x z => k.st.nn x (updN x z)⟩, exG, k.nd, fun x c z => cel x c (fun e => hm (e ▸ List.mem_map.mpr ⟨_, z, rfl⟩)) (k.ms x c z), fun j d z => ?_, fun j c z => ?_, fun j m cj cm q z z' a b => ?_, by rw [List.length_set]; exact k.len, k.pb⟩, ⟨Ex.refl G, fun x o z g m n => ?_, updN⟩, hp⟩
      · have ne : x ≠ p := fun e => by subst e; rw [hb] at z; cases z
        rw [upd_ne ne]; exact k.st.fr x o z n
      · rcases set_get z with ⟨_, e⟩ | ⟨_, e⟩
        · cases e
        · exact k.dat j d e
      · rcases set_get z with ⟨e, e2⟩ | ⟨ne, e⟩
        · cases e2; subst e
          exact ⟨p, s1, hb, hm, hg, _, upd_same, xs', rfl, rl⟩
        · obtain ⟨q, y1, y2, y3, y4⟩ := k.own j c e
          exact ⟨q, y1, y2, y3, cel q c (fun eq => ne (k.dis j i _ _ p e e1 (eq ▸ y1) s1)) y4⟩
      · have own' : ∀ (j : Nat) (c : Cell), (Γ.set i (Slot.own (.lst ds')))[j]? = some (Slot.own c) → ∃ c', Γ[j]? = some (Slot.own c') := fun j c z => by
          rcases set_get z with ⟨e, _⟩ | ⟨_, e⟩
          · subst e; exact ⟨_, e1⟩
          · exact ⟨_, e⟩
        obtain ⟨c1, z1⟩ := own' j cj z
        obtain ⟨c2, z2⟩ := own' m cm z'
        exact k.dis j m c1 c2 q z1 z2 a b
      · have ne : x ≠ p := fun e => n ⟨i, _, e1, e ▸ s1⟩
        refine ⟨by rw [upd_ne ne]; exact z, g, m, fun ⟨j, c, y1, y2⟩ => n ?_⟩
        rcases set_get y1 with ⟨e, _⟩ | ⟨_, e⟩
        · subst e; exact ⟨_, _, e1, y2⟩
        · exact ⟨j, c, e, y2⟩
    · cases h
  | dat d =>
    cases d with
    | ref a =>
      simp only [lget] at h
      split at h
      · rename_i dd e1
        cases h
        obtain ⟨hg, u, ho, vs, rfl, hr⟩ := k.ms a _ (lookup_mem e1)
        have e : l = a := by have := rr; simp only [RepR, Rep] at this; cases this; rfl
        subst e
        have exG : Ex G (upd H l (.lst xs')) := fun x o z => by
          have ne : x ≠ l := fun e => by subst e; rw [hg] at z; cases z
          rw [upd_ne ne]; exact k.ex x o z
        have cel : ∀ x c, x ≠ l → Cel K H G x c → Cel K (upd H l (.lst xs')) G x c := fun x c ne ⟨z1, o, z2, z3⟩ => ⟨z1, o, by rw [upd_ne ne]; exact z2, z3⟩
        have inM : l ∈ dom M := List.mem_map.mpr ⟨_, lookup_mem e1, rfl⟩
        refine ⟨_, _, ⟨⟨k.st.g, fun x o z n => ?_, k.st.gn, ?_, fun x z => k.st.nn x (updN x z)⟩, exG, by rw [dom_mput]; exact k.nd, fun x c z => ?_, k.dat, fun j c z => ?_, k.dis, k.len, k.pb⟩, ⟨Ex.refl G, fun x o z g m n => ?_, updN⟩, hp⟩
        · have ne : x ≠ l := fun e => by
            subst e
            rcases k.st.mn x inM with z' | z'
            · exact n z'
            · rw [z] at z'; cases z'
          rw [upd_ne ne]; exact k.st.fr x o z n
        · rw [dom_mput]; exact k.st.mn
        · unfold mput at z
          obtain ⟨y, hy, e⟩ := List.mem_map.mp z
          split at e
          · cases e; exact ⟨hg, _, upd_same, xs', rfl, rl⟩
          · rename_i ne
            obtain ⟨y1, y2⟩ := y
            cases e
            exact cel x c ne (k.ms x c hy)
        · obtain ⟨q, y1, y2, y3, y4⟩ := k.own j c z
          exact ⟨q, y1, y2, by rw [dom_mput]; exact y3, cel q c (fun e => y3 (e ▸ inM)) y4⟩
        · have ne : x ≠ l := fun e => m (e ▸ inM)
          exact ⟨by rw [upd_ne ne]; exact z, g, by rw [dom_mput]; exact m, n⟩
      · cases h
    | _ => cases h
/-- a list's method by what it does to the data -/
abbrev AM := List D → List D → (List D → D → Prop) → Prop
def RdM (r : V → List V → Hp → VK → Prop) (am : AM) : Prop := ∀ (K : PySem.W.Frag) (H G : Hp) (l : Addr) (xs vs : List V) (ds es : List D) (Q : List D → D → Prop) (R : VK), Ex G H → H l = some (.lst xs) → RepL K G ds xs → RepL K G es vs → am ds es Q →
  (∀ ds' d xs' v, RepL K G ds' xs' → Rep K G d v → Q ds' d → R v (upd H l (.lst xs'))) → r (.ref l) vs H R
def aMeth (am : AM) (ao : AE) (aa : AA) (Γ : Sl) (M : Mem) (Q : Ret → Sl → Mem → Prop) : Prop := ao Γ M fun r Γ1 M1 => (lget r Γ1 M1).isSome = true ∧ aa Γ1 M1 fun es Γ2 M2 => match lget r Γ2 M2 with
  | some ds => am ds es fun ds' d => lput r ds' Γ2 M2 fun Γ3 M3 => Q (.dat d) Γ3 M3
  | none => False
theorem rd_meth {r : V → List V → Hp → VK → Prop} {am : AM} {to : TE} {ao : AE} {tr : TA} {ar : AA} (hm : RdM r am) (ho : RdE K ρ to ao) (ha : RdA K ρ tr ar) : RdE K ρ (tBM K "list" r to tr) (aMeth am ao ar) := by
  intro B σ H G Γ M Q R k h q
  refine ho B σ H G Γ M _ _ k h fun v H1 G1 Γ1 M1 r1 k1 e1 rr1 h1 => ?_
  obtain ⟨hs, h1⟩ := h1
  obtain ⟨ds1, hds⟩ := Option.isSome_iff_exists.mp hs
  obtain ⟨l1, xs1, ev, hl1, _⟩ := lget_ok k1 rr1 hds
  subst ev
  refine ⟨.inl ⟨rfl, xs1, SqL.of hl1⟩, ha B σ H1 G1 Γ1 M1 _ _ k1 h1 fun vs H2 G2 Γ2 M2 es k2 e2 rl h2 => ?_⟩
  have rr2 := rr1.es e2
  split at h2
  · rename_i ds hd
    obtain ⟨l, xs, ev, hl, hx⟩ := lget_ok k2 rr2 hd
    cases ev
    refine hm K H2 G2 l1 xs vs ds es _ _ k2.ex hl hx rl h2 fun ds' d xs' v rl' rd hq => ?_
    obtain ⟨Γ3, M3, k3, e3, hq⟩ := lput_ok k2 rr2 hd rl' hq
    exact q v _ G2 Γ3 M3 (.dat d) k3 ((e1.trans e2).trans e3) rd hq
  · exact h2.elim
def aMeth0 (am : AM) (ao : AE) (Γ : Sl) (M : Mem) (Q : Ret → Sl → Mem → Prop) : Prop := ao Γ M fun r Γ1 M1 => match lget r Γ1 M1 with
  | some ds => am ds [] fun ds' d => lput r ds' Γ1 M1 fun Γ3 M3 => Q (.dat d) Γ3 M3
  | none => False
theorem rd_meth0 {r : V → List V → Hp → VK → Prop} {am : AM} {to : TE} {ao : AE} (hm : RdM r am) (ho : RdE K ρ to ao) : RdE K ρ (tBM0 K "list" r to) (aMeth0 am ao) := by
  intro B σ H G Γ M Q R k h q
  refine ho B σ H G Γ M _ _ k h fun v H1 G1 Γ1 M1 r1 k1 e1 rr1 h1 => ?_
  split at h1
  · rename_i ds hd
    obtain ⟨l, xs, ev, hl, hx⟩ := lget_ok k1 rr1 hd
    subst ev
    refine ⟨.inl ⟨rfl, xs, SqL.of hl⟩, hm K H1 G1 l xs [] ds [] _ _ k1.ex hl hx (repL_nil.mpr rfl) h1 fun ds' d xs' v rl' rd hq => ?_⟩
    obtain ⟨Γ3, M3, k3, e3, hq⟩ := lput_ok k1 rr1 hd rl' hq
    exact q v _ G1 Γ3 M3 (.dat d) k3 (e1.trans e3) rd hq
  · exact h1.elim
section
variable {o e : Expr} {es : List Expr} {to : TE} {ao : AE} {tr : TA} {ar : AA} {apos cpos : Pos}
theorem q_bm {name : Str} {id : String} {r : V → List V → Hp → VK → Prop} {am : AM} (slot : PySem.Slot "list" name id) (hty : typeOf (.builtin id) = pure (.type "method_descriptor")) (hm : MtR X id r) (hd : RdM r am) (ho : QE X ρ o to ao) (ha : QA X ρ (e :: es) tr ar)
    (hbase : attributeBase o name X.env (eval o X.env) = eval o X.env)
    (hfew : ((backTo cpos (starEach (e :: es) X.env)).all (fun x => !x.1) && (backToKw cpos (keywordEach [] X.env)).all (fun x => x.1.isSome)
      && decide ((e :: es).length + ([] : List Keyword).length + (if ([] : List Keyword).isEmpty then 0 else 1) < 30)) = true)
    (hline : (apos.endLine == cpos.line) = true) (hs : starEach (e :: es) X.env = (false, eval e X.env) :: starEach es X.env) (hplain : (backTo cpos (starEach es X.env)).any (·.1) = false) :
    QE X ρ (.Call (.Attribute o name apos) (e :: es) [] cpos) (tBM X.K "list" r to tr) (aMeth am ao ar) := ⟨pe_bm PySem.F.plainAttrs_list slot hty hm ho.pe ha.pe hbase hfew hline hs hplain, rd_meth hd ho.rd ha.rd⟩
def amApp (ds : List D) (es : List D) (Q : List D → D → Prop) : Prop := match es with
  | [d] => ds.length < sizeLine ∧ Q (ds ++ [d]) .non
  | _ => False
theorem rm_app : RdM rAppend amApp := by
  intro K H G l xs vs ds es Q R hG hl hx hv h q
  unfold amApp at h
  split at h
  · rename_i d
    obtain ⟨y, r, rfl, ry, rn⟩ := repL_cons.mp hv
    have := repL_nil.mp rn; subst this
    exact ⟨l, xs, y, rfl, rfl, hl, by rw [hx.length]; exact h.1, q _ .non _ .non (hx.append (RepL.one ry)) (by rw [Rep]) h.2⟩
  · exact h.elim
def amExt (ds : List D) (es : List D) (Q : List D → D → Prop) : Prop := match es with
  | [.lst fs] => ds.length + fs.length ≤ sizeLine ∧ Q (ds ++ fs) .non
  | _ => False
theorem rm_ext : RdM rExtend amExt := by
  intro K H G l xs vs ds es Q R hG hl hx hv h q
  unfold amExt at h
  split at h
  · rename_i fs
    obtain ⟨y, r, rfl, ry, rn⟩ := repL_cons.mp hv
    have := repL_nil.mp rn; subst this
    obtain ⟨b, zs, rfl, hb, hz⟩ := rep_lst.mp ry
    exact ⟨l, b, xs, zs, rfl, rfl, hl, hG _ _ hb, by rw [hx.length, hz.length]; exact h.1, q _ .non _ .non (hx.append hz) (by rw [Rep]) h.2⟩
  · exact h.elim
def amPop (ds : List D) (es : List D) (Q : List D → D → Prop) : Prop := match es with
  | [] => match ds[ds.length - 1]? with
    | some d => Q ds.dropLast d
    | none => False
  | _ => False
theorem rm_pop : RdM rPop amPop := by
  intro K H G l xs vs ds es Q R hG hl hx hv h q
  unfold amPop at h
  split at h
  · split at h
    · rename_i d hd
      have := repL_nil.mp hv; subst this
      obtain ⟨y, hy, ry⟩ := hx.get hd
      refine ⟨l, xs, y, rfl, rfl, hl, by rw [hx.length]; exact hy, q _ d _ y ?_ ry h⟩
      rw [List.dropLast_eq_take, List.dropLast_eq_take, hx.length]; exact hx.take _
    · exact h.elim
  · exact h.elim
theorem RepL.erase {ds : List D} {vs : List V} (n : Nat) (h : RepL K G ds vs) : RepL K G (ds.eraseIdx n) (vs.eraseIdx n) := by
  rw [List.eraseIdx_eq_take_drop_succ, List.eraseIdx_eq_take_drop_succ]; exact (h.take _).append (h.drop _)
def amPopAt (ds : List D) (es : List D) (Q : List D → D → Prop) : Prop := match es with
  | [.int i] => (-(2 ^ 63) ≤ i ∧ i < 2 ^ 63) ∧ match seqIndex? i ds.length with
    | some k => match ds[k]? with
      | some d => Q (ds.eraseIdx k) d
      | none => False
    | none => False
  | _ => False
theorem rm_popAt : RdM rPopAt amPopAt := by
  intro K H G l xs vs ds es Q R hG hl hx hv h q
  unfold amPopAt at h
  split at h
  · rename_i i
    obtain ⟨hi, h⟩ := h
    obtain ⟨y, r, rfl, ry, rn⟩ := repL_cons.mp hv
    have := repL_nil.mp rn; subst this
    have ey : y = .int i := by rw [Rep] at ry; exact ry
    split at h
    · rename_i k hk
      split at h
      · rename_i d hd
        obtain ⟨z, hz, rz⟩ := hx.get hd
        exact ⟨l, xs, i, k, z, rfl, by rw [ey], hl, hi.1, hi.2, by rw [hx.length]; exact hk, hz, q _ d _ z (hx.erase k) rz h⟩
      · exact h.elim
    · exact h.elim
  · exact h.elim
def amIns (ds : List D) (es : List D) (Q : List D → D → Prop) : Prop := match es with
  | [.int i, d] => (ds.length < sizeLine ∧ 0 ≤ i ∧ i < 2 ^ 63) ∧ Q (ds.take i.toNat ++ [d] ++ ds.drop i.toNat) .non
  | _ => False
def rIns : V → List V → Hp → VK → Prop := fun x vs H Q => ∃ (l : Addr) (xs : List V) (i : Int) (y : V), x = .ref l ∧ vs = [.int i, y] ∧ H l = some (.lst xs) ∧ xs.length < sizeLine ∧ 0 ≤ i ∧ i < 2 ^ 63 ∧
    Q .non (upd H l (.lst (xs.take i.toNat ++ [y] ++ xs.drop i.toNat)))
theorem rm_ins : RdM rIns amIns := by
  intro K H G l xs vs ds es Q R hG hl hx hv h q
  unfold amIns at h
  split at h
  · rename_i i d
    obtain ⟨y, r, rfl, ry, rn⟩ := repL_cons.mp hv
    obtain ⟨z, r', rfl, rz, rn'⟩ := repL_cons.mp rn
    have := repL_nil.mp rn'; subst this
    have ey : y = .int i := by rw [Rep] at ry; exact ry
    subst ey
    exact ⟨l, xs, i, z, rfl, rfl, hl, by rw [hx.length]; exact h.1.1, h.1.2.1, h.1.2.2, q _ .non _ .non (((hx.take _).append (RepL.one rz)).append (hx.drop _)) (by rw [Rep]) h.2⟩
  · exact h.elim
theorem q_append (ho : QE X ρ o to ao) (ha : QA X ρ (e :: es) tr ar) (hbase : attributeBase o "append" X.env (eval o X.env) = eval o X.env := by rfl)
    (hfew : ((backTo cpos (starEach (e :: es) X.env)).all (fun x => !x.1) && (backToKw cpos (keywordEach [] X.env)).all (fun x => x.1.isSome)
      && decide ((e :: es).length + ([] : List Keyword).length + (if ([] : List Keyword).isEmpty then 0 else 1) < 30)) = true := by rfl)
    (hline : (apos.endLine == cpos.line) = true := by rfl) (hs : starEach (e :: es) X.env = (false, eval e X.env) :: starEach es X.env := by rfl) (hplain : (backTo cpos (starEach es X.env)).any (·.1) = false := by rfl) (hK : X.K = K := by rfl) :
    QE X ρ (.Call (.Attribute o "append" apos) (e :: es) [] cpos) (tBM K "list" rAppend to tr) (aMeth amApp ao ar) := by subst hK; exact q_bm PySem.F.slot_list_append PySem.F.type_list_append mt_append rm_app ho ha hbase hfew hline hs hplain
theorem q_extend (ho : QE X ρ o to ao) (ha : QA X ρ (e :: es) tr ar) (hbase : attributeBase o "extend" X.env (eval o X.env) = eval o X.env := by rfl)
    (hfew : ((backTo cpos (starEach (e :: es) X.env)).all (fun x => !x.1) && (backToKw cpos (keywordEach [] X.env)).all (fun x => x.1.isSome)
      && decide ((e :: es).length + ([] : List Keyword).length + (if ([] : List Keyword).isEmpty then 0 else 1) < 30)) = true := by rfl)
    (hline : (apos.endLine == cpos.line) = true := by rfl) (hs : starEach (e :: es) X.env = (false, eval e X.env) :: starEach es X.env := by rfl) (hplain : (backTo cpos (starEach es X.env)).any (·.1) = false := by rfl) (hK : X.K = K := by rfl) :
    QE X ρ (.Call (.Attribute o "extend" apos) (e :: es) [] cpos) (tBM K "list" rExtend to tr) (aMeth amExt ao ar) := by subst hK; exact q_bm PySem.F.slot_list_extend PySem.F.type_list_extend mt_extend rm_ext ho ha hbase hfew hline hs hplain
theorem q_popAt (ho : QE X ρ o to ao) (ha : QA X ρ (e :: es) tr ar) (hbase : attributeBase o "pop" X.env (eval o X.env) = eval o X.env := by rfl)
    (hfew : ((backTo cpos (starEach (e :: es) X.env)).all (fun x => !x.1) && (backToKw cpos (keywordEach [] X.env)).all (fun x => x.1.isSome)
      && decide ((e :: es).length + ([] : List Keyword).length + (if ([] : List Keyword).isEmpty then 0 else 1) < 30)) = true := by rfl)
    (hline : (apos.endLine == cpos.line) = true := by rfl) (hs : starEach (e :: es) X.env = (false, eval e X.env) :: starEach es X.env := by rfl) (hplain : (backTo cpos (starEach es X.env)).any (·.1) = false := by rfl) (hK : X.K = K := by rfl) :
    QE X ρ (.Call (.Attribute o "pop" apos) (e :: es) [] cpos) (tBM K "list" rPopAt to tr) (aMeth amPopAt ao ar) := by subst hK; exact q_bm PySem.F.slot_list_pop PySem.F.type_list_pop mt_popAt rm_popAt ho ha hbase hfew hline hs hplain
theorem q_insert (ho : QE X ρ o to ao) (ha : QA X ρ (e :: es) tr ar) (hbase : attributeBase o "insert" X.env (eval o X.env) = eval o X.env := by rfl)
    (hfew : ((backTo cpos (starEach (e :: es) X.env)).all (fun x => !x.1) && (backToKw cpos (keywordEach [] X.env)).all (fun x => x.1.isSome)
      && decide ((e :: es).length + ([] : List Keyword).length + (if ([] : List Keyword).isEmpty then 0 else 1) < 30)) = true := by rfl)
    (hline : (apos.endLine == cpos.line) = true := by rfl) (hs : starEach (e :: es) X.env = (false, eval e X.env) :: starEach es X.env := by rfl) (hplain : (backTo cpos (starEach es X.env)).any (·.1) = false := by rfl) (hK : X.K = K := by rfl) :
    QE X ρ (.Call (.Attribute o "insert" apos) (e :: es) [] cpos) (tBM K "list" rIns to tr) (aMeth amIns ao ar) := by subst hK; exact q_bm PySem.F.slot_list_insert PySem.F.type_list_insert mt_insert rm_ins ho ha hbase hfew hline hs hplain
theorem q_pop (ho : QE X ρ o to ao) (hbase : attributeBase o "pop" X.env (eval o X.env) = eval o X.env := by rfl) (hline : (apos.endLine == cpos.line) = true := by rfl) (hK : X.K = K := by rfl) :
    QE X ρ (.Call (.Attribute o "pop" apos) [] [] cpos) (tBM0 K "list" rPop to) (aMeth0 amPop ao) := by subst hK; exact ⟨pe_bm0 PySem.F.plainAttrs_list PySem.F.slot_list_pop PySem.F.type_list_pop mt_pop ho.pe hbase hline, rd_meth0 rm_pop ho.rd⟩
end
/-! ### x[i] = e -/
def aSetI (ae ao ai : AE) (A : AEnds) (Γ : Sl) (M : Mem) : Prop := ae Γ M fun r Γ0 M0 => frz r Γ0 fun d Γ1 => ao Γ1 M0 fun ro Γ2 M2 => ai Γ2 M2 fun ri Γ3 M3 => match ri, lget ro Γ3 M3 with
  | .dat (.int i), some ds => match ixN ds.length i with
    | some j => lput ro (ds.set j d) Γ3 M3 fun Γ4 M4 => A.nx Γ4 M4
    | none => False
  | _, _ => False
theorem qs_setI {o i : Expr} {to ti : TE} {ao ai : AE} {pos' : Pos} (h : QE X ρ a ta aa) (ho : QE X ρ o to ao) (hi : QE X ρ i ti ai)
    (has : ∀ v, assign (.Subscript o i pos') X.env v = (do
      let ov ← holding [v] (eval o X.env)
      let iv ← holding [v, ov] (eval i X.env)
      standAt pos'
      holding [v, ov, iv] (setItem ov iv v)
      release [v, ov, iv] []) := by intro _; rfl)
    (hs : swapsWithSole [.Subscript o i pos'] a pos.line X.env = pure false := by rfl) (hw : swappedStores [.Subscript o i pos'] a X.env = pure none := by rfl) (h1 : (assignEach [.Subscript o i pos'] X.env).map (·.2) = [assign (.Subscript o i pos') X.env] := by rfl) :
    QS X ρ (.Assign [.Subscript o i pos'] a pos) (tAsg ta (gSub to ti rSetL)) (aSetI aa ao ai) :=
  ⟨ps_asg h.pe (pg_sub ho.pe hi.pe set_list has) hs hw h1, fun B σ H G Γ M A E k hh s => h.rd B σ H G Γ M _ _ k hh fun v H1 G1 Γ1 M1 r k1 e1 rr h1 => by
    obtain ⟨G2, Γ2, d, k2, e2, rp, h2⟩ := frz_ok (H0 := H) k1 e1 rr h1
    refine ho.rd B σ H1 G2 Γ2 M1 _ _ k2 h2 fun ov H3 G3 Γ3 M3 ro k3 e3 rro h3 => ?_
    refine hi.rd B σ H3 G3 Γ3 M3 _ _ k3 h3 fun iv H4 G4 Γ4 M4 ri k4 e4 rri h4 => ?_
    split at h4
    · rename_i i ds hd
      split at h4
      · rename_i j hj
        have rro' := rro.es e4
        obtain ⟨l, xs, rfl, hl, hx⟩ := lget_ok k4 rro' hd
        have ei : iv = .int i := by have := rri; simp only [RepR, Rep] at this; exact this
        have rp4 : Rep X.K G4 d v := (rp.mono e3.g).mono e4.g
        obtain ⟨Γ5, M5, k5, e5, hq⟩ := lput_ok k4 rro' hd (hx.set j rp4) h4
        exact ⟨l, xs, i, j, rfl, ei, hl, by rw [hx.length]; exact hj, s.nx σ _ G4 Γ5 M5 k5 hq⟩
      · exact h4.elim
    · exact h4.elim⟩
/-! ### x op= e -/
def aAugI (i : Nat) (f : Int → Int → Int) (aa : AE) (A : AEnds) (Γ : Sl) (M : Mem) : Prop := match Γ[i]? with
  | some (.dat (.int n)) => aa Γ M fun r Γ1 M1 => match r with
    | .dat (.int m) => A.nx (Γ1.set i (.dat (.int (f n m)))) M1
    | _ => False
  | _ => False
theorem rd_augI {i : Nat} {f : Int → Int → Int} (ha : RdE K ρ ta aa) : RdS K ρ (tAug i ta (ipI f)) (aAugI i f aa) := fun B σ H G Γ M A E k h s => by
  unfold aAugI at h
  split at h
  · rename_i n e1
    obtain ⟨v, h1, h2⟩ := k.dat i _ e1
    have ev : v = .int n := by rw [Rep] at h2; exact h2
    refine ⟨v, h1, ha B σ H G Γ M _ _ k h fun u H1 G1 Γ1 M1 r k1 e2 rr hq => ?_⟩
    split at hq
    · rename_i m
      have eu : u = .int m := by have := rr; simp only [RepR, Rep] at this; exact this
      exact ⟨n, m, ev, eu, s.nx _ H1 G1 _ M1 (k1.setD (by rw [Rep])) hq⟩
    · exact hq.elim
  · exact h.elim
section
variable {x : Str} {pos' : Pos}
theorem qs_augA (i : Nat) (hN : X.N.Nodup) (h : QE X ρ a ta aa) (hi : X.N[i]? = some x := by rfl) (hx : Loc X.env.scope x := by first | exact Or.inl rfl | exact Or.inr rfl) (hf : X.fn x = true ∨ X.env.scope.names.lookup x = some .local := by first | exact .inl rfl | exact .inr rfl | assumption) :
    QS X ρ (.AugAssign (.Name x pos') .Add a pos) (tAug i ta (ipI fun i j => i + j)) (aAugI i (fun i j => i + j) aa) := ⟨ps_aug hN hi hx h.pe ip_add hf, rd_augI h.rd⟩
theorem qs_augS (i : Nat) (hN : X.N.Nodup) (h : QE X ρ a ta aa) (hi : X.N[i]? = some x := by rfl) (hx : Loc X.env.scope x := by first | exact Or.inl rfl | exact Or.inr rfl) (hf : X.fn x = true ∨ X.env.scope.names.lookup x = some .local := by first | exact .inl rfl | exact .inr rfl | assumption) :
    QS X ρ (.AugAssign (.Name x pos') .Sub a pos) (tAug i ta (ipI fun i j => i - j)) (aAugI i (fun i j => i - j) aa) := ⟨ps_aug hN hi hx h.pe ip_sub hf, rd_augI h.rd⟩
end
/-- a list grown by another one: the name's own list -/
def aAugL (i : Nat) (aa : AE) (A : AEnds) (Γ : Sl) (M : Mem) : Prop := aa Γ M fun r Γ1 M1 => match sqOf r Γ1 M1, Γ1[i]? with
  | some (.lst es), some (.own (.lst ds)) => ds.length + es.length ≤ sizeLine ∧ A.nx (Γ1.set i (.own (.lst (ds ++ es)))) M1
  | _, _ => False
theorem rd_augL {i : Nat} (ha : RdE K ρ ta aa) (hown : ∀ Γ M Q, aa Γ M Q → True) : RdS K ρ (fun D σ H => ∃ x, σ[i]? = some (some x) ∧ ta σ H fun y H1 => rExt2 x y H1 fun z H2 => D.nx (σ.set i (some z)) H2) (fun A Γ M => (∃ ds, Γ[i]? = some (.own (.lst ds))) ∧ aAugL i aa A Γ M) := fun B σ H G Γ M A E k h s => by
  obtain ⟨⟨ds0, e0⟩, h⟩ := h
  obtain ⟨p, s1, _⟩ := k.own i _ e0
  refine ⟨.ref p, s1, ha B σ H G Γ M _ _ k h fun u H1 G1 Γ1 M1 r k1 e2 rr hq => ?_⟩
  split at hq
  · rename_i es ds he e1
    obtain ⟨b, zs, rfl, hb, hz⟩ := sqOf_ok k1 rr he
    have lg : lget (.var i) Γ1 M1 = some ds := by simp only [lget, e1]
    obtain ⟨l, xs, ev, hl, hx⟩ := lget_ok (K := K) k1 (show RepR K B σ H H1 G1 Γ1 M1 (.var i) (.ref p) from s1) lg
    cases ev
    obtain ⟨Γ5, M5, k5, e5, hq5⟩ := lput_ok (K := K) (kk := fun Γ5 M5 => Γ5 = Γ1.set i (.own (.lst (ds ++ es))) ∧ M5 = M1) k1 (show RepR K B σ H H1 G1 Γ1 M1 (.var i) (.ref p) from s1) lg (hx.append hz) ⟨rfl, rfl⟩
    obtain ⟨rfl, rfl⟩ := hq5
    refine ⟨p, b, xs, zs, rfl, rfl, hl, hb, by rw [hx.length, hz.length]; exact hq.1, ?_⟩
    have : σ.set i (some (.ref p)) = σ := by
      apply List.ext_getElem?
      intro j
      rw [List.getElem?_set]
      split
      · rename_i ej
        subst ej
        rw [if_pos ((List.getElem?_eq_some_iff.mp s1).1), s1]
      · rfl
    show E.nx (List.set σ i (some (V.ref p))) _
    rw [this]
    exact s.nx σ _ G1 _ _ k5 hq.2
  · exact hq.elim
section
variable {x : Str} {pos' : Pos}
theorem qs_augL (i : Nat) (hN : X.N.Nodup) (h : QE X ρ a ta aa) (hi : X.N[i]? = some x := by rfl) (hx : Loc X.env.scope x := by first | exact Or.inl rfl | exact Or.inr rfl) (hf : X.fn x = true ∨ X.env.scope.names.lookup x = some .local := by first | exact .inl rfl | exact .inr rfl | assumption) :
    QS X ρ (.AugAssign (.Name x pos') .Add a pos) (tAug i ta rExt2) (fun A Γ M => (∃ ds, Γ[i]? = some (.own (.lst ds))) ∧ aAugL i aa A Γ M) := ⟨ps_aug hN hi hx h.pe iop_ext hf, rd_augL h.rd fun _ _ _ _ => trivial⟩
end
end
end Gw

namespace Gw
open PySem L2
variable {ρ : Ent}
/-! ### what is walked -/
def Yld (K : PySem.W.Frag) (G H H' : Hp) (d : D) (x : V) : Prop :=
  (H' = H ∧ Rep K G d x) ∨ ∃ T xs ds, x = .ref T ∧ H T = none ∧ H' = upd H T (.tup xs) ∧ d = .tup ds ∧ RepL K G ds xs
structure WalkD (K : PySem.W.Frag) (J : It) (G : Hp) (ds : List D) : Prop where
  w : ∃ GG Y, Walk J ds.length GG Y ∧ (∀ H, Ex G H → GG H) ∧ ∀ (i : Nat) H x H' d, ds[i]? = some d → Ex G H → Y i H x H' → Yld K G H H' d x
abbrev AI := Sl → Mem → (List D → Sl → Mem → Prop) → Prop
def RdI (K : PySem.W.Frag) (ρ : Ent) (wi : TI) (ai : AI) : Prop := ∀ B σ H G Γ M (Q : List D → Sl → Mem → Prop) (R : It → Hp → Prop), Ok K ρ B σ H G Γ M → ai Γ M Q →
  (∀ J H' G' Γ' M' ds, Ok K ρ B σ H' G' Γ' M' → Es σ H G Γ M H' G' Γ' M' → WalkD K J G' ds → Q ds Γ' M' → R J H') → wi σ H R
structure QI (X : Cx) (ρ : Ent) (tg iter : Expr) (wi : TI) (ai : AI) : Prop where
  pe : PI X tg iter wi
  rd : RdI X.K ρ wi ai
section
variable {X : Cx} {tg a b c : Expr} {ta tb tc te : TE} {aa ab ac ae : AE} {pos : Pos} {K : PySem.W.Frag} {B : Ent} {σ : St} {H G H' H1 G1 H2 G2 : Hp} {Γ Γ1 Γ2 : Sl} {M M1 M2 : Mem}
theorem Yld.ok {d : D} {x : V} {G0 : Hp} (y : Yld K G0 H H' d x) (k : Ok K ρ B σ H G Γ M) (e : Ex G0 G) : ∃ G', Ok K ρ B σ H' G' Γ M ∧ Es σ H G Γ M H' G' Γ M ∧ Rep K G' d x := by
  rcases y with ⟨rfl, r⟩ | ⟨T, xs, ds, rfl, hT, rfl, rfl, r⟩
  · exact ⟨G, k, .refl, r.mono e⟩
  · obtain ⟨k2, e2⟩ := k.new (o := .tup xs) hT
    exact ⟨_, k2, e2, rep_tup.mpr ⟨T, xs, rfl, SqT.of upd_same, r.mono (e.trans e2.g)⟩⟩
def aISeq (aa : AE) (Γ : Sl) (M : Mem) (Q : List D → Sl → Mem → Prop) : Prop := aa Γ M fun r Γ1 M1 => frz r Γ1 fun d Γ2 => match d with
  | .lst ds => Q ds Γ2 M1
  | .scr ds => Q ds Γ2 M1
  | _ => False
def aITup (aa : AE) (Γ : Sl) (M : Mem) (Q : List D → Sl → Mem → Prop) : Prop := aa Γ M fun r Γ1 M1 => frz r Γ1 fun d Γ2 => match d with
  | .tup ds => Q ds Γ2 M1
  | _ => False
theorem walkD_list {p : Addr} {xs : List V} {ds : List D} (h : SqL K G p xs) (r : RepL K G ds xs) : WalkD K (Itl K p) G ds := by
  refine ⟨fun H => SqL K H p xs, YAt xs, r.length ▸ walk_list, fun H e => ex_l e h, fun i H x H' d hd e y => .inl ⟨y.1, ?_⟩⟩
  obtain ⟨v, hv, rv⟩ := r.get hd
  have e2 := hv.symm.trans y.2
  cases e2
  exact rv
theorem walkD_tup {p : Addr} {xs : List V} {ds : List D} (h : SqT K G p xs) (r : RepL K G ds xs) : WalkD K (Itt K p) G ds := by
  refine ⟨fun H => SqT K H p xs, YAt xs, r.length ▸ walk_tup, fun H e => ex_t e h, fun i H x H' d hd e y => .inl ⟨y.1, ?_⟩⟩
  obtain ⟨v, hv, rv⟩ := r.get hd
  have e2 := hv.symm.trans y.2
  cases e2
  exact rv
theorem qi_list (h : QE X ρ a ta aa) (hK : X.K = K := by rfl) : QI X ρ tg a (iList K ta) (aISeq aa) := by subst hK; exact ⟨pi_list h.pe, fun B σ H G Γ M Q R k hh q => h.rd B σ H G Γ M _ _ k hh fun v H1 G1 Γ1 M1 r k1 e1 rr h1 => by
  obtain ⟨G2, Γ2, d, k2, e2, rp, h2⟩ := frz_ok (H0 := H) k1 e1 rr h1
  split at h2
  · rename_i ds
    obtain ⟨p, xs, rfl, hp, rl⟩ := rep_lst.mp rp
    exact ⟨p, rfl, ⟨xs, SqL.of (k2.ex _ _ hp)⟩, q _ H1 G2 Γ2 M1 ds k2 e2 (walkD_list (SqL.of hp) rl) h2⟩
  · rename_i ds
    obtain ⟨p, xs, rfl, hp, rl⟩ := rep_scr.mp rp
    exact ⟨p, rfl, ⟨xs, ex_l k2.ex hp⟩, q _ H1 G2 Γ2 M1 ds k2 e2 (walkD_list hp rl) h2⟩
  · exact h2.elim⟩
theorem qi_tup (h : QE X ρ a ta aa) (hK : X.K = K := by rfl) : QI X ρ tg a (iTup K ta) (aITup aa) := by subst hK; exact ⟨pi_tup h.pe, fun B σ H G Γ M Q R k hh q => h.rd B σ H G Γ M _ _ k hh fun v H1 G1 Γ1 M1 r k1 e1 rr h1 => by
  obtain ⟨G2, Γ2, d, k2, e2, rp, h2⟩ := frz_ok (H0 := H) k1 e1 rr h1
  split at h2
  · rename_i ds
    obtain ⟨p, xs, rfl, hp, rl⟩ := rep_tup.mp rp
    exact ⟨p, rfl, ⟨xs, ex_t k2.ex hp⟩, q _ H1 G2 Γ2 M1 ds k2 e2 (walkD_tup hp rl) h2⟩
  · exact h2.elim⟩
def rngD (lo : Int) (n : Nat) : List D := (List.range n).map fun i => .int (lo + (i : Nat))
theorem walkD_rng {lo : Int} {n : Nat} : WalkD K (Itr lo n) G (rngD lo n) := by
  have hl : (rngD lo n).length = n := by simp [rngD]
  refine ⟨fun _ => True, YFn fun i => .int (lo + i), by rw [hl]; exact walk_range, fun _ _ => trivial, fun i H x H' d hd e y => .inl ⟨y.1, ?_⟩⟩
  rw [y.2]
  have hi : i < n := by rw [← hl]; exact (List.getElem?_eq_some_iff.mp hd).1
  simp only [rngD, List.getElem?_map, List.getElem?_range hi, Option.map_some, Option.some.injEq] at hd
  subst hd
  rw [Rep]
def aRng1 (aa : AA) (Γ : Sl) (M : Mem) (Q : List D → Sl → Mem → Prop) : Prop := aa Γ M fun ds Γ1 M1 => match ds with
  | [.int n] => (-(2 ^ 62) ≤ n ∧ n < 2 ^ 62) ∧ Q (rngD 0 n.toNat) Γ1 M1
  | _ => False
def aRng2 (aa : AA) (Γ : Sl) (M : Mem) (Q : List D → Sl → Mem → Prop) : Prop := aa Γ M fun ds Γ1 M1 => match ds with
  | [.int m, .int n] => (-(2 ^ 62) ≤ m ∧ m < 2 ^ 62 ∧ -(2 ^ 62) ≤ n ∧ n < 2 ^ 62) ∧ Q (rngD m (n - m).toNat) Γ1 M1
  | _ => False
theorem qi_range1 {tr : TA} {ar : AA} {p : Pos} (hm : X.mg "range" = none) (ha : QA X ρ [a] tr ar) (hg : Gl X "range" := by rfl) (hs : starEach [a] X.env = [(false, eval a X.env)] := by rfl) : QI X ρ tg (.Call (.Name "range" p) [a] [] pos) (iRng1 tr) (aRng1 ar) := ⟨pi_range1 hg hm ha.pe hs, fun B σ H G Γ M Q R k hh q => ha.rd B σ H G Γ M _ _ k hh fun vs H1 G1 Γ1 M1 ds k1 e1 rl h1 => by
  split at h1
  · rename_i n
    obtain ⟨y, r, rfl, ry, rn⟩ := repL_cons.mp rl
    have := repL_nil.mp rn; subst this
    rw [Rep] at ry; subst ry
    exact ⟨n, rfl, h1.1.1, h1.1.2, q _ H1 G1 Γ1 M1 _ k1 e1 walkD_rng h1.2⟩
  · exact h1.elim⟩
theorem qi_range2 {tr : TA} {ar : AA} {p : Pos} (hm : X.mg "range" = none) (ha : QA X ρ [a, b] tr ar) (hg : Gl X "range" := by rfl) (hs : starEach [a, b] X.env = [(false, eval a X.env), (false, eval b X.env)] := by rfl) (hs2 : starEach [b] X.env = [(false, eval b X.env)] := by rfl) :
    QI X ρ tg (.Call (.Name "range" p) [a, b] [] pos) (iRng2 tr) (aRng2 ar) := ⟨pi_range2 hg hm ha.pe hs hs2, fun B σ H G Γ M Q R k hh q => ha.rd B σ H G Γ M _ _ k hh fun vs H1 G1 Γ1 M1 ds k1 e1 rl h1 => by
  split at h1
  · rename_i m n
    obtain ⟨y, r, rfl, ry, rn⟩ := repL_cons.mp rl
    obtain ⟨z, r', rfl, rz, rn'⟩ := repL_cons.mp rn
    have := repL_nil.mp rn'; subst this
    rw [Rep] at ry rz; subst ry; subst rz
    exact ⟨m, n, rfl, h1.1, q _ H1 G1 Γ1 M1 _ k1 e1 walkD_rng h1.2⟩
  · exact h1.elim⟩

/-! ### for -/
def aForL (g : AG) (body : AS) : List D → AS
  | [] => fun A Γ M => A.nx Γ M
  | d :: ds => fun A Γ M => g d Γ fun Γ1 => body { A with nx := aForL g body ds A, ct := aForL g body ds A, bk := A.nx } Γ1 M
structure WitA (A : AEnds) : Type where
def forW (g : AG) (body : AS) (ds : List D) (A : AEnds) (_ : WitA A) (Γ : Sl) (M : Mem) : Prop := aForL g body ds A Γ M
def aFor (ai : AI) (g : AG) (body : AS) (A : AEnds) (Γ : Sl) (M : Mem) : Prop := ai Γ M fun ds Γ1 M1 => forW g body ds A ⟨⟩ Γ1 M1
theorem Ok.to (k : Ok K ρ B σ H G Γ M) (e : Ex G1 G) (e0 : Ex B.G G1) (gn : ∀ a o, G1 a = some o → B.G a = some o ∨ B.H a = none) : Ok K ρ ⟨B.H, G1, B.A⟩ σ H G Γ M :=
  ⟨⟨e, k.st.fr, fun a o h => (k.st.gn a o h).imp (fun z => e0 a o z) id, k.st.mn, k.st.nn⟩, k.ex, k.nd, k.ms, k.dat, k.own, k.dis, k.len, k.pb.h, k.pb.a, k.pb.g.trans e0, fun a o h => (gn a o h).elim (k.pb.gn a o) fun z => .inr (k.pb.h ▸ z)⟩
theorem Ok.back (pb : Refi ρ B) (k : Ok K ρ ⟨B.H, G1, B.A⟩ σ H G Γ M) (e0 : Ex B.G G1) (gn : ∀ a o, G1 a = some o → B.G a = some o ∨ B.H a = none) : Ok K ρ B σ H G Γ M ∧ Ex G1 G :=
  ⟨⟨⟨e0.trans k.st.g, k.st.fr, fun a o h => (k.st.gn a o h).elim (fun z => gn a o z) .inr, k.st.mn, k.st.nn⟩, k.ex, k.nd, k.ms, k.dat, k.own, k.dis, k.len, pb⟩, k.st.g⟩
theorem rd_for {wi : TI} {ai : AI} {g : TG} {ag : AG} {is : List Nat} {tb : TS} {ab : AS} (hi : RdI K ρ wi ai) (hg : RdG K ρ g ag is) (hb : RdS K ρ tb ab) : RdS K ρ (tFor wi g tb) (aFor ai ag ab) := fun B σ H G Γ M A E k h s => by
  refine hi B σ H G Γ M _ _ k h fun J H1 G1 Γ1 M1 ds k1 e1 w h1 => ?_
  obtain ⟨GG, Y, wk, hGG, hY⟩ := w.w
  have e0 : Ex B.G G1 := k1.st.g
  have gn := k1.st.gn
  have sim : ∀ i, Sim K ρ ⟨B.H, G1, B.A⟩ { A with nx := aForL ag ab (ds.drop (i + 1)) A, ct := aForL ag ab (ds.drop (i + 1)) A, bk := A.nx }
      { E with nx := fun σ H => ∃ G2 Γ2 M2, Ok K ρ B σ H G2 Γ2 M2 ∧ Ex G1 G2 ∧ aForL ag ab (ds.drop (i + 1)) A Γ2 M2, ct := fun σ H => ∃ G2 Γ2 M2, Ok K ρ B σ H G2 Γ2 M2 ∧ Ex G1 G2 ∧ aForL ag ab (ds.drop (i + 1)) A Γ2 M2, bk := E.nx } := fun i =>
    ⟨fun σ H G Γ M k q => let ⟨k', e'⟩ := k.back k1.pb e0 gn; ⟨G, Γ, M, k', e', q⟩, fun σ H0 H G Γ M r v k rr q => s.rt σ H0 H G Γ M r v (k.back k1.pb e0 gn).1 rr q, fun σ H G Γ M k q => s.nx σ H G Γ M (k.back k1.pb e0 gn).1 q, fun σ H G Γ M k q => let ⟨k', e'⟩ := k.back k1.pb e0 gn; ⟨G, Γ, M, k', e', q⟩⟩
  refine for_it wk (fun i σ H => ∃ G2 Γ2 M2, Ok K ρ B σ H G2 Γ2 M2 ∧ Ex G1 G2 ∧ aForL ag ab (ds.drop i) A Γ2 M2) ⟨G1, Γ1, M1, k1, Ex.refl _, h1⟩ (fun i σ H _ ⟨G2, Γ2, M2, k2, e2, _⟩ => hGG H (e2.trans k2.ex)) ?_ ?_
  · rintro i x σ H H' hin ⟨G2, Γ2, M2, k2, e2, h2⟩ y
    rw [List.drop_eq_getElem_cons hin] at h2
    obtain ⟨G3, k3, e3, rp⟩ := (hY i H x H' _ (List.getElem?_eq_getElem hin) (e2.trans k2.ex) y).ok k2 e2
    refine hg B σ H' G3 Γ2 M2 _ x _ _ k3 rp h2 fun σ' Γ' k4 _ _ h4 => ?_
    exact hb ⟨B.H, G1, B.A⟩ σ' H' G3 Γ' M2 _ _ (k4.to (e2.trans e3.g) e0 gn) h4 (sim i)
  · rintro σ H ⟨G2, Γ2, M2, k2, e2, h2⟩
    rw [List.drop_length] at h2
    exact s.nx σ H G2 Γ2 M2 k2 h2
theorem qs_for {iter : Expr} {body : List Stmt} {wi : TI} {ai : AI} {g : TG} {ag : AG} {is : List Nat} {tb : TS} {ab : AS} (hi : QI X ρ tg iter wi ai) (hg : QG X ρ tg g ag is) (hb : QSs X ρ body tb ab) (hc : X.calm = true := by rfl)
    (hp : PassesOwn (model X.prog X.w) X.A X.env X.xe := by exact PassesOwn.never) (hs : ∀ x, foldedSetIterable iter X.env x = pure x := by intro _; rfl) : QS X ρ (.For tg iter body [] pos) (tFor wi g tb) (aFor ai ag ab) := ⟨ps_for hp hc hi.pe hg.pe hb.pe hs, rd_for hi.rd hg.rd hb.rd⟩
/-! ### while -/
def aWhile (t : AT) (body : AS) (A : AEnds) (Γ : Sl) (M : Mem) : Prop := ∃ W : Nat → Sl → Mem → Prop, (∃ m, W m Γ M) ∧ ∀ m Γ M, W m Γ M →
  t Γ M fun b Γ1 M1 => if b = true then body { A with nx := fun Γ M => ∃ m', m' < m ∧ W m' Γ M, ct := fun Γ M => ∃ m', m' < m ∧ W m' Γ M, bk := A.nx } Γ1 M1 else A.nx Γ1 M1
theorem rd_while {tt : TT} {at' : AT} {tb : TS} {ab : AS} (hc : RdT K ρ tt at') (hb : RdS K ρ tb ab) : RdS K ρ (tWhile tt tb) (aWhile at' ab) := fun B σ H G Γ M A E k h s => by
  obtain ⟨W, ⟨m0, w0⟩, hw⟩ := h
  refine ⟨fun m σ H => ∃ G Γ M, Ok K ρ B σ H G Γ M ∧ W m Γ M, ⟨m0, G, Γ, M, k, w0⟩, ?_⟩
  rintro m σ H ⟨G1, Γ1, M1, k1, w1⟩
  refine hc B σ H G1 Γ1 M1 _ _ k1 (hw m Γ1 M1 w1) fun b H2 G2 Γ2 M2 k2 e2 h2 => ?_
  cases b with
  | true =>
    refine ⟨fun σ H => ∃ G Γ M, Ok K ρ B σ H G Γ M ∧ ∃ m', m' < m ∧ W m' Γ M, fun σ' H' ⟨G, Γ, M, k, m', l, w⟩ => ⟨m', l, G, Γ, M, k, w⟩, ?_⟩
    have h3 : ab { A with nx := fun Γ M => ∃ m', m' < m ∧ W m' Γ M, ct := fun Γ M => ∃ m', m' < m ∧ W m' Γ M, bk := A.nx } Γ2 M2 := by simpa using h2
    exact hb B σ H2 G2 Γ2 M2 _ _ k2 h3 ⟨fun σ H G Γ M k q => ⟨G, Γ, M, k, q⟩, s.rt, s.nx, fun σ H G Γ M k q => ⟨G, Γ, M, k, q⟩⟩
  | false => exact s.nx σ H2 G2 Γ2 M2 k2 (by simpa using h2)
theorem qs_while {body : List Stmt} {tt : TT} {at' : AT} {tb : TS} {ab : AS} (hc : QT X ρ c tt at') (hb : QSs X ρ body tb ab) (hp : PassesOwn (model X.prog X.w) X.A X.env X.xe := by exact PassesOwn.never) : QS X ρ (.While c body [] pos) (tWhile tt tb) (aWhile at' ab) := ⟨ps_while hp hc.pe hb.pe, rd_while hc.rd hb.rd⟩

/-! ### comprehensions -/
def wipeS (Γ : Sl) : List Nat → Sl
  | [] => Γ
  | v :: vs => (wipeS Γ vs).set v .non
theorem wipeS_some {i : Nat} {s : Slot} : ∀ {vs : List Nat}, (wipeS Γ vs)[i]? = some s → s ≠ .non → Γ[i]? = some s ∧ i ∉ vs
  | [], h, _ => ⟨h, by simp⟩
  | v :: vs, h, hn => by
    unfold wipeS at h
    rcases set_get h with ⟨_, e⟩ | ⟨ne, e⟩
    · exact (hn e).elim
    · obtain ⟨h1, h2⟩ := wipeS_some e hn
      exact ⟨h1, by simp only [List.mem_cons, not_or]; exact ⟨ne, h2⟩⟩
theorem wipeS_length : ∀ vs : List Nat, (wipeS Γ vs).length = Γ.length
  | [] => rfl
  | v :: vs => by unfold wipeS; rw [List.length_set, wipeS_length vs]
theorem wipe_wipe (σ : St) : ∀ vs : List Nat, wipe (wipe σ vs) vs = wipe σ vs := fun vs => by
  apply List.ext_getElem?
  intro i
  by_cases hi : i ∈ vs
  · have key : ∀ (ws : List Nat) (τ : St), i ∈ ws → i < τ.length → (wipe τ ws)[i]? = some none := by
      intro ws
      induction ws with
      | nil => intro τ h; simp at h
      | cons w ws ih =>
        intro τ h hl
        unfold wipe
        by_cases e : w = i
        · subst e; rw [List.getElem?_set_self (by rw [wipe_length]; exact hl)]
        · rw [List.getElem?_set_ne e]; exact ih τ (by simpa [show ¬ i = w from fun q => e q.symm] using h) hl
    by_cases hl : i < σ.length
    · rw [key vs _ hi (by rw [wipe_length]; exact hl), key vs σ hi hl]
    · rw [List.getElem?_eq_none (by rw [wipe_length, wipe_length]; omega), List.getElem?_eq_none (by rw [wipe_length]; omega)]
  · rw [wipe_out hi]
/-- slots that agree where something is said -/
theorem Ok.agree {σ' : St} {Γ' : Sl} (k : Ok K ρ B σ H G Γ M) (hs : ∀ (i : Nat) (s : Slot), Γ'[i]? = some s → s ≠ .non → Γ[i]? = some s ∧ σ'[i]? = σ[i]?) (hl : Γ'.length = σ'.length) : Ok K ρ B σ' H G Γ' M ∧ ∀ x, owned σ' Γ' x → owned σ Γ x := by
  refine ⟨⟨k.st, k.ex, k.nd, k.ms, fun i d h => ?_, fun i c h => ?_, fun i j ci cj p h h' a b => ?_, hl, k.pb⟩, fun x ⟨i, c, h1, h2⟩ => ?_⟩
  · obtain ⟨h1, h2⟩ := hs i _ h (by intro e; cases e)
    rw [h2]; exact k.dat i d h1
  · obtain ⟨h1, h2⟩ := hs i _ h (by intro e; cases e)
    rw [h2]; exact k.own i c h1
  · obtain ⟨h1, h2⟩ := hs i _ h (by intro e; cases e)
    obtain ⟨h1', h2'⟩ := hs j _ h' (by intro e; cases e)
    rw [h2] at a; rw [h2'] at b
    exact k.dis i j ci cj p h1 h1' a b
  · obtain ⟨g1, g2⟩ := hs i _ h1 (by intro e; cases e)
    exact ⟨i, c, g1, by rw [← g2]; exact h2⟩
theorem Ok.updTmp {p : Addr} {xs ys : List V} (k : Ok K ρ B σ H G Γ M) (hp : H p = some (.lst xs)) (hb : B.H p = none) (hg : G p = none) (hm : p ∉ dom M) (hn : ¬ owned σ Γ p) : Ok K ρ B σ (upd H p (.lst ys)) G Γ M := by
  have cel : ∀ x c, x ≠ p → Cel K H G x c → Cel K (upd H p (.lst ys)) G x c := fun x c ne ⟨z1, o, z2, z3⟩ => ⟨z1, o, by rw [upd_ne ne]; exact z2, z3⟩
  refine ⟨⟨k.st.g, fun x o z n => ?_, k.st.gn, k.st.mn, fun x z => k.st.nn x ?_⟩, fun x o z => ?_, k.nd, fun x c z => cel x c (fun e => hm (e ▸ List.mem_map.mpr ⟨_, z, rfl⟩)) (k.ms x c z), k.dat, fun i c z => ?_, k.dis, k.len, k.pb⟩
  · rw [upd_ne (ne_of_none z hb)]; exact k.st.fr x o z n
  · by_cases e : x = p
    · subst e; rw [upd_same] at z; cases z
    · rw [upd_ne e] at z; exact z
  · rw [upd_ne (ne_of_none z hg)]; exact k.ex x o z
  · obtain ⟨q, h1, h2, h3, h4⟩ := k.own i c z
    exact ⟨q, h1, h2, h3, cel q c (fun e => hn ⟨i, c, z, e ▸ h1⟩) h4⟩
def aLcL (g : AG) (tt : AT) (ae : AE) (vs : List Nat) (k : List D → Sl → Mem → Prop) : List D → List D → Sl → Mem → Prop
  | [], acc, Γ, M => k acc Γ M
  | d :: ds, acc, Γ, M => g d Γ fun Γ1 => tt Γ1 M fun b Γ2 M2 => if b = true then ae Γ2 M2 fun r Γ3 M3 => frz r Γ3 fun y Γ4 => acc.length < sizeLine ∧ aLcL g tt ae vs k ds (acc ++ [y]) (wipeS Γ4 vs) M3
      else aLcL g tt ae vs k ds acc (wipeS Γ2 vs) M2
structure WitL (k : List D → Sl → Mem → Prop) : Type where
def lcW (g : AG) (tt : AT) (ae : AE) (vs : List Nat) (k : List D → Sl → Mem → Prop) (_ : WitL k) (ds acc : List D) (Γ : Sl) (M : Mem) : Prop := aLcL g tt ae vs k ds acc Γ M
def aLc (ai : AI) (g : AG) (tt : AT) (ae : AE) (vs : List Nat) (Γ : Sl) (M : Mem) (Q : Ret → Sl → Mem → Prop) : Prop := ai Γ M fun ds Γ1 M1 => lcW g tt ae vs (fun acc Γ2 M2 => Q (.tmp (.lst acc)) Γ2 M2) ⟨⟩ ds [] (wipeS Γ1 vs) M1
def aYes (Γ : Sl) (M : Mem) (Q : Bool → Sl → Mem → Prop) : Prop := Q true Γ M
theorem rd_yes : RdT K ρ tYes aYes := fun _ _ H G Γ M _ _ k h q => q true H G Γ M k .refl h
theorem rd_lc {wi : TI} {ai : AI} {g : TG} {ag : AG} {is vs : List Nat} {tt : TT} {at' : AT} (hi : RdI K ρ wi ai) (hg : RdG K ρ g ag is) (hsub : ∀ j ∈ is, j ∈ vs) (ht : RdT K ρ tt at') (he : RdE K ρ te ae) : RdE K ρ (tLc wi g tt te vs) (aLc ai ag at' ae vs) := by
  intro B σ H G Γ M Q R k h q
  refine hi B σ H G Γ M _ _ k h fun J H1 G1 Γ1 M1 ds k1 e1 w h1 p hp => ?_
  obtain ⟨GG, Y, wk, hGG, hY⟩ := w.w
  have h0p : H p = none := e1.nn p hp
  -- the state with the block's names wiped
  have wS : ∀ (Δ : Sl) (i : Nat) (s : Slot), (wipeS Δ vs)[i]? = some s → s ≠ .non → Δ[i]? = some s ∧ i ∉ vs := fun Δ i s a b => wipeS_some a b
  obtain ⟨k1t, e1t, hm1, hn1, hb1, hg1⟩ := k1.tmp (o := .lst []) hp
  obtain ⟨k1w, o1w⟩ := k1t.agree (σ' := σ) (Γ' := wipeS Γ1 vs) (fun i s a b => ⟨(wS Γ1 i s a b).1, rfl⟩) (by rw [wipeS_length]; exact k1.len)
  have upN : ∀ {H2 : Hp} {o : HO} x, upd H2 p o x = none → H2 x = none := fun {H2 o} x z => by
    by_cases e : x = p
    · subst e; rw [upd_same] at z; cases z
    · rw [upd_ne e] at z; exact z
  refine lc_it wk (fun i H2 => ∃ G2 Γ2 M2 acc xs, Ok K ρ B σ H2 G2 Γ2 M2 ∧ Es σ H1 G1 Γ1 M1 H2 G2 Γ2 M2 ∧ (∀ (j : Nat) (s : Slot), Γ2[j]? = some s → s ≠ .non → j ∉ vs) ∧ H2 p = some (.lst xs) ∧ RepL K G2 acc xs ∧ G2 p = none ∧ p ∉ dom M2 ∧ ¬ owned σ Γ2 p ∧
      aLcL ag at' ae vs (fun acc Γ2 M2 => Q (.tmp (.lst acc)) Γ2 M2) (ds.drop i) acc Γ2 M2) ?_ ?_ ?_ ?_
  · refine ⟨G1, wipeS Γ1 vs, M1, [], [], k1w, ⟨Ex.refl _, fun a o h g m n => ?_, fun a z => upN a z⟩, fun j s a b => (wS Γ1 j s a b).2, upd_same, repL_nil.mpr rfl, hg1, hm1, fun z => hn1 (o1w _ z), h1⟩
    exact ⟨by rw [upd_ne (ne_of_none h hp)]; exact h, g, m, fun z => n (o1w _ z)⟩
  · rintro i H2 _ ⟨G2, Γ2, M2, acc, xs, k2, e2, _⟩
    exact hGG H2 (e2.g.trans k2.ex)
  · rintro i x H2 H2' hin ⟨G2, Γ2, M2, acc, xs, k2, e2, hv2, hp2, ra2, hg2, hm2, hn2, h2⟩ y
    rw [List.drop_eq_getElem_cons hin] at h2
    obtain ⟨G3, k3, e3, rp⟩ := (hY i H2 x H2' _ (List.getElem?_eq_getElem hin) (e2.g.trans k2.ex) y).ok k2 e2.g
    obtain ⟨hp3, hg3, hm3, hn3⟩ := e3.tmp p _ hp2 hg2 hm2 hn2
    obtain ⟨k3w, o3w⟩ := k3.agree (σ' := wipe σ vs) (Γ' := Γ2) (fun j s a b => ⟨a, wipe_out (hv2 j s a b)⟩) (by rw [wipe_length]; exact k3.len)
    have o3b : ∀ x, owned σ Γ2 x → owned (wipe σ vs) Γ2 x := fun x ⟨j, c, z1, z2⟩ => ⟨j, c, z1, by rw [wipe_out (hv2 j _ z1 (by intro e; cases e))]; exact z2⟩
    refine hg B (wipe σ vs) H2' G3 Γ2 M2 _ x _ _ k3w rp h2 fun σ2 Γ3 k4 w4 o4 h4 => ⟨?_, ?_⟩
    · rw [w4 vs hsub, wipe_wipe]
    have hw2 : wipe σ2 vs = wipe σ vs := by rw [w4 vs hsub, wipe_wipe]
    have ag2 : ∀ j, j ∉ vs → σ[j]? = σ2[j]? := fun j hj => by rw [← wipe_out (σ := σ2) hj, hw2, wipe_out hj]
    have hl2 : σ2.length = σ.length := by rw [← wipe_length σ2 vs, hw2, wipe_length]
    -- what stands at the end of a turn
    have fin : ∀ {H5 G5 : Hp} {Γ5 : Sl} {M5 : Mem}, Ok K ρ B σ2 H5 G5 Γ5 M5 → Es σ2 H2' G3 Γ3 M2 H5 G5 Γ5 M5 → Ok K ρ B σ H5 G5 (wipeS Γ5 vs) M5 ∧ Es σ H1 G1 Γ1 M1 H5 G5 (wipeS Γ5 vs) M5 ∧ H5 p = some (.lst xs) ∧ G5 p = none ∧ p ∉ dom M5 ∧ ¬ owned σ2 Γ5 p ∧ ¬ owned σ (wipeS Γ5 vs) p := fun {H5 G5 Γ5 M5} k5 e5 => by
      obtain ⟨k6, o6⟩ := k5.agree (σ' := σ) (Γ' := wipeS Γ5 vs) (fun j s a b => ⟨(wS Γ5 j s a b).1, ag2 j (wS Γ5 j s a b).2⟩) (by rw [wipeS_length, k5.len, hl2])
      have through : ∀ a o, H2 a = some o → G2 a = none → a ∉ dom M2 → ¬ owned σ Γ2 a → H5 a = some o ∧ G5 a = none ∧ a ∉ dom M5 ∧ ¬ owned σ2 Γ5 a := fun a o h g m n => by
        obtain ⟨a1, a2, a3, a4⟩ := e3.tmp a o h g m n
        exact e5.tmp a o a1 a2 a3 fun z => a4 (o3w _ (o4 _ z))
      obtain ⟨b1, b2, b3, b4⟩ := through p _ hp2 hg2 hm2 hn2
      refine ⟨k6, ⟨(e2.g.trans e3.g).trans e5.g, fun a o h g m n => ?_, fun a z => e2.nn a (e3.nn a (e5.nn a z))⟩, b1, b2, b3, b4, fun z => b4 (o6 _ z)⟩
      obtain ⟨a1, a2, a3, a4⟩ := e2.tmp a o h g m n
      obtain ⟨c1, c2, c3, c4⟩ := through a o a1 a2 a3 a4
      exact ⟨c1, c2, c3, fun z => c4 (o6 _ z)⟩
    refine ht B σ2 H2' G3 Γ3 M2 _ _ k4 h4 fun b H5 G5 Γ5 M5 k5 e5 h5 => ?_
    cases b with
    | false =>
      obtain ⟨k6, e6, p6, g6, m6, _, n6⟩ := fin k5 e5
      exact ⟨G5, wipeS Γ5 vs, M5, acc, xs, k6, e6, fun j s a b => (wS Γ5 j s a b).2, p6, (ra2.mono e3.g).mono e5.g, g6, m6, n6, by simpa using h5⟩
    | true =>
      refine he B σ2 H5 G5 Γ5 M5 _ _ k5 (by simpa using h5) fun v H6 G6 Γ6 M6 r k6 e6 rr h6 => ?_
      obtain ⟨G7, Γ7, y, k7, e7, rp7, hlen, h7⟩ := frz_ok (H0 := H5) k6 e6 rr h6
      obtain ⟨k8, e8, p8, g8, m8, n8', n8⟩ := fin k7 (e5.trans e7)
      have ra : RepL K G7 acc xs := (ra2.mono e3.g).mono (e5.trans e7).g
      refine ⟨xs, p8, by rw [ra.length]; exact hlen, G7, wipeS Γ7 vs, M6, acc ++ [y], xs ++ [v], k8.updTmp p8 hb1 g8 m8 n8, ⟨e8.g, fun a o h g m n => ?_, fun a z => e8.nn a (upN a z)⟩, fun j s a b => (wS Γ7 j s a b).2, upd_same, ra.append (RepL.one rp7), g8, m8, n8, h7⟩
      obtain ⟨a1, a2, a3, a4⟩ := e8.tmp a o h g m n
      exact ⟨by rw [upd_ne (ne_of_none h hp)]; exact a1, a2, a3, a4⟩
  · rintro H2 ⟨G2, Γ2, M2, acc, xs, k2, e2, _, hp2, ra2, hg2, hm2, hn2, h2⟩
    rw [List.drop_length] at h2
    exact q _ H2 G2 Γ2 M2 (.tmp (.lst acc)) k2 (e1.trans e2) ⟨p, rfl, h0p, hb1, ⟨hg2, _, hp2, xs, rfl, ra2⟩, hm2, hn2⟩ h2
structure QTs (X : Cx) (ρ : Ent) (ifs : List Expr) (tt : TT) (at' : AT) : Prop where
  pe : PTs X ifs tt
  rd : RdT X.K ρ tt at'
theorem qts_nil : QTs X ρ [] tYes aYes := ⟨pts_nil, rd_yes⟩
theorem qts_one {tt : TT} {at' : AT} (h : QT X ρ c tt at') : QTs X ρ [c] tt at' := ⟨pts_one h.pe, h.rd⟩
theorem q_lc {elt iter : Expr} {ifs : List Expr} {scope : Scope} {own : List (Str × Nat)} {wi : TI} {ai : AI} {g : TG} {ag : AG} {is : List Nat} {tt : TT} {at' : AT} (own' : List (Str × Nat)) (hown : own = own') (hN : X.N.Nodup) (hi : QI X ρ tg iter wi ai) (ok : BlkOk X.N X.env.scope scope own)
    (hg : ∀ (s : Shared) (H : Hp) (C : Addr) (cl : List (Str × Addr)) (fp : List Addr), QG (X.blk s H scope (compEnvC scope cl C X.env) fp) ρ tg g ag is) (ht : ∀ (s : Shared) (H : Hp) (C : Addr) (cl : List (Str × Addr)) (fp : List Addr), QTs (X.blk s H scope (compEnvC scope cl C X.env) fp) ρ ifs tt at')
    (he : ∀ (s : Shared) (H : Hp) (C : Addr) (cl : List (Str × Addr)) (fp : List Addr), QE (X.blk s H scope (compEnvC scope cl C X.env) fp) ρ elt te ae) (hsub : ∀ j ∈ is, j ∈ own.map (·.2)) (s0 : Shared) (hc : X.calm = true := by rfl) (hs : ∀ x, foldedSetIterable iter X.env x = pure x := by intro _; rfl) :
    QE X ρ (.ListComp elt [⟨tg, iter, ifs, 0⟩] scope pos) (tLc wi g tt te (own.map (·.2))) (aLc ai ag at' ae (own.map (·.2))) :=
  ⟨pe_lc hc hN hi.pe ok (fun s H C cl fp => (hg s H C cl fp).pe) (fun s H C cl fp => (ht s H C cl fp).pe) (fun s H C cl fp => (he s H C cl fp).pe) hs,
   rd_lc hi.rd (hg s0 X.H_0 0 [] []).rd hsub (ht s0 X.H_0 0 [] []).rd (he s0 X.H_0 0 [] []).rd⟩
end
end Gw

namespace Gw
open PySem L2 PyProof.Rows
variable {ρ : Ent}
/-! ### a def by its abstract body -/
def ret (r : Ret) (Γ : Sl) (k : Ret → Prop) : Prop := match r with
  | .dat d => k (.dat d)
  | .tmp c => k (.tmp c)
  | .var i => match Γ[i]? with
    | some (.own c) => k (.tmp c)
    | some (.dat d) => k (.dat d)
    | _ => False
def endsOf (Q : Ret → Mem → Prop) : AEnds := ⟨fun _ M => Q (.dat .non) M, fun r Γ M => ret r Γ fun r' => Q r' M, fun _ _ => False, fun _ _ => False⟩
def slots (n : Nat) (ds : List D) : Sl := ds.map .dat ++ List.replicate (n - ds.length) .non
section
variable {P : Program} {w : World} {K : PySem.W.Frag} {mg : Str → Option Value} {base : Heap}
theorem ok_start {N : List Str} {vs : List V} {ds : List D} {H G : Hp} {M : Mem} (ex : Ex G H) (nd : (dom M).Nodup) (ms : ∀ a c, (a, c) ∈ M → Cel K H G a c) (rl : RepL K G ds vs) : Ok K ⟨H, G, dom M⟩ ⟨H, G, dom M⟩ (L2.start N vs) H G (slots N.length ds) M := by
  have hdat : ∀ (i : Nat) (s : Slot), (slots N.length ds)[i]? = some s → s ≠ .non → ∃ d, ds[i]? = some d ∧ s = .dat d := fun i s h hn => by
    unfold slots at h
    by_cases hi : i < ds.length
    · rw [List.getElem?_append_left (by rw [List.length_map]; exact hi), List.getElem?_map, List.getElem?_eq_getElem hi] at h
      cases h
      exact ⟨_, List.getElem?_eq_getElem hi, rfl⟩
    · rw [List.getElem?_append_right (by rw [List.length_map]; omega)] at h
      have := List.mem_of_getElem? h
      rw [List.mem_replicate] at this
      exact (hn this.2).elim
  refine ⟨⟨Ex.refl _, fun _ _ h _ => h, fun _ _ h => .inl h, fun _ h => .inl h, fun _ h => h⟩, ex, nd, ms, fun i d h => ?_, fun i c h => ?_, fun i j ci cj p h _ _ _ => ?_, ?_, Refi.refl _⟩
  · obtain ⟨d', e, z⟩ := hdat i _ h (by intro e; cases e)
    cases z
    obtain ⟨v, hv, r⟩ := rl.get e
    refine ⟨v, ?_, r⟩
    unfold L2.start
    rw [List.getElem?_append_left (by rw [List.length_map]; exact (List.getElem?_eq_some_iff.mp hv).1), List.getElem?_map, hv]
    rfl
  · obtain ⟨d', e, z⟩ := hdat i _ h (by intro e; cases e)
    cases z
  · obtain ⟨d', e, z⟩ := hdat i _ h (by intro e; cases e)
    cases z
  · unfold slots L2.start
    rw [List.length_append, List.length_append, List.length_map, List.length_map, List.length_replicate, List.length_replicate, rl.length]
theorem fn_ok {k : Nat} {x qual : Str} {st : Stmt} {f : Addr} {fd : FuncData} {N ps : List Str} {S : ASp} (F : Fun K x qual st f fd) (sc : FnScope N ps (defScope st)) (hn : Ar ps.length S) {as : AS}
    (hb : ∀ (ρ : Ent) (cd : Value) (A : Around) (outer : List Env) (s : Shared) (H : Hp) (E : XK), Room k (A.deeper (envOfC qual (defScope st) s.heap.objs.size f cd)) → A.guards = some [] → ∃ ts, QSs (cxOf CX0 P w K mg base N qual (defScope st) f cd A outer s H E).nox ρ (defBody st) ts as)
    (hr : ∀ ds M Q, S ds M Q → as (endsOf Q) (slots N.length ds) M) : FnG P w K mg base CX0 (k + 1) f fd ps (spA K ps.length S) := by
  refine fnG_of F sc (fun vs H Q E h => ?_) fun cd A outer s H vs Q E room gd h => ?_
  · obtain ⟨G, M, ds, hl, _⟩ := h; exact hl
  · obtain ⟨G, M, ds, hl, ex, nd, ms, rl, Qa, hS, fin⟩ := h
    obtain ⟨ts, q⟩ := hb ⟨H, G, dom M⟩ cd A outer s H E room gd
    refine ⟨ts, q.pe.nox, q.rd ⟨H, G, dom M⟩ (L2.start N vs) H G (slots N.length ds) M (endsOf Qa) _ (ok_start ex nd ms rl) (hr ds M Qa hS) ⟨fun σ H' G' Γ' M' k' z => ?_, fun σ H0 H' G' Γ' M' r v k' rr z => ?_, fun _ _ _ _ _ _ z => z.elim, fun _ _ _ _ _ _ z => z.elim⟩⟩
    · exact fin (.dat .non) M' .non H' G' z ⟨k'.st, k'.ex, k'.nd, k'.ms⟩ (by simp only [RetOk, Rep])
    · have post : Post K H G M H' G' M' := ⟨k'.st, k'.ex, k'.nd, k'.ms⟩
      cases r with
      | dat d => exact fin (.dat d) M' v H' G' z post rr
      | tmp c =>
        obtain ⟨p, e, _, hb, hc, hm, _⟩ := rr
        exact fin (.tmp c) M' v H' G' z post ⟨p, e, hb, hc, hm⟩
      | var i =>
        simp only [endsOf, ret] at z
        split at z
        · rename_i c e1
          obtain ⟨p, s1, hb, hm, hc⟩ := k'.own i c e1
          have : v = .ref p := by have := (show (_ : L2.St)[i]? = some (some v) from rr); rw [s1] at this; cases this; rfl
          exact fin (.tmp c) M' v H' G' z post ⟨p, this, hb, hc, hm⟩
        · rename_i d e1
          obtain ⟨v', h1, h2⟩ := k'.dat i d e1
          have : v' = v := by have := (show (_ : L2.St)[i]? = some (some v) from rr); rw [h1] at this; cases this; rfl
          subst this
          exact fin (.dat d) M' _ H' G' z post h2
        · exact z.elim
end
/-! ### repr -/
section
variable {X : Cx} {a : Expr} {ta : TE} {aa : AE} {pos : Pos} {K : PySem.W.Frag}
def shOk (d : D) : Bool := plain d && (toPy d).showable && decide ((toPy d).depth ≤ 64) && decide ((toPy d).shown.length ≤ sizeLine)
def shD (d : D) : Str := (toPy d).shown
def aRepr (r : Ret) (Γ : Sl) (M : Mem) (Q : Ret → Sl → Mem → Prop) : Prop := match dOf r Γ M with
  | some d => shOk d = true ∧ Q (.dat (.str (shD d))) Γ M
  | none => False
def rReprD (K : PySem.W.Frag) : List V → Hp → VK → Prop := fun xs H Q => ∃ v d, xs = [v] ∧ Dp K H v d ∧ d.showable = true ∧ d.depth ≤ 64 ∧ d.shown.length ≤ sizeLine ∧ Q (.str d.shown) H
theorem rd_repr : RdU K ρ (rReprD K) aRepr := by
  intro B σ H H1 G Γ M rx x Q R k r1 h q
  unfold aRepr at h
  split at h
  · rename_i d hd
    obtain ⟨c, h⟩ := h
    simp only [shOk, Bool.and_eq_true, decide_eq_true_eq] at c
    exact ⟨x, _, rfl, (dOf_ok k r1 hd).dp c.1.1.1, c.1.1.2, c.1.2, c.2, q _ H G Γ M (.dat (.str _)) k .refl (by simp only [RepR, Rep]; rfl) h⟩
  · exact h.elim
theorem q_repr {p : Pos} (gd : X.A.guards = some []) (hu : X.A.units + 100 < cLine) (hm : X.mg "repr" = none) (ha : QE X ρ a ta aa) (hg : Gl X "repr" := by rfl) (na : starEach [a] X.env = (false, eval a X.env) :: starEach [] X.env := by rfl) (hK : X.K = K := by rfl) :
    QE X ρ (.Call (.Name "repr" p) [a] [] pos) (tCB (rReprD K) (tCons ta tNil)) (aCall1 aRepr aa) := by subst hK; exact q_callB1 (call_reprD gd hu) rd_repr hm ha hg (na := na)
end
/-! ### the law's end -/
section
variable {P : Program} {w : World} {K : PySem.W.Frag} {mg mb : Str → Option Value}
/-- what stands at the law's call where only the script is told of -/
theorem env_script {s : Shared} {H : Hp} {a : Addr} {vs : List Value} (KX : K.In s.heap) (hns : s.heap.Ns mainGlobals mg) (hb : s.heap.Ns builtinsNs mb) (hbb : ∀ x : Str, x ≠ "__name__" → mb x = bootBuiltins x) (lim : s.heap.NoLimit) (hg : s.gens = #[])
    (ha : s.heap.get? a = some { cls := .type "list", data := .seq vs.toArray }) (hok : HOk P w H s.heap) (one : ∀ b, H b ≠ none → b = a) (hK : H a ≠ none → K.lookup a = none) :
    K.In (hidT s.heap H) ∧ (hidT s.heap H).Ns mainGlobals mg ∧ Env0 P w K mg (hidT s.heap H) callerA [] s H := by
  have free : ∀ b, b ≠ a → H b = none := fun b ne => Classical.byContradiction fun z => ne (one b z)
  have nsOf : ∀ {b : Addr} {m : Str → Option Value}, s.heap.Ns b m → (hidT s.heap H).Ns b m := by
    rintro b m ⟨o, es, ep, e, d, r⟩
    refine ⟨o, es, ep, hidT_get e (free b fun z => ?_), d, r⟩
    rw [z, ha] at e
    have e' := Option.some.inj e
    rw [← e'] at d
    cases d
  have kin : K.In (hidT s.heap H) := by
    intro b o e
    refine hidT_get (KX b o e) (Classical.byContradiction fun z => ?_)
    have eb := one b z
    subst eb
    rw [hK z] at e
    cases e
  obtain ⟨mc, l1, l2⟩ := lim
  refine ⟨kin, nsOf hns, ⟨rfl, ⟨kin, nsOf hns, ⟨mb, nsOf hb, hbb⟩, ⟨mc, nsOf l1, l2⟩⟩, fun b o e => of_hidT e, ?_, trivial, ?_, hok, .of_eq hg⟩⟩
  · rw [hidT_size]; exact Nat.le_refl _
  · intro b hb'; cases hb'
def spLaw (K : PySem.W.Frag) (S : List Int → Prop) : Sp := fun vs H Q _ => ∃ (a : Addr) (ns : List Int), vs = [.ref a] ∧ SqL K H a (ns.map V.int) ∧ S ns ∧ ∀ H', Q (.bl true) H'
theorem law_end {S : List Int → Prop} {k : Nat} {fa a : Addr} {fd : FuncData} {x : Str} {s₁ : Shared} {vs : List Value} {ns : List Int} (KX : K.In s₁.heap) (hns : s₁.heap.Ns mainGlobals mg) (hb : s₁.heap.Ns builtinsNs mb) (hbb : ∀ x : Str, x ≠ "__name__" → mb x = bootBuiltins x) (lim : s₁.heap.NoLimit) (hg : s₁.gens = #[])
    (ha : s₁.heap.get? a = some { cls := .type "list", data := .seq vs.toArray }) (hi : IntsAre vs ns) (hl : ns.length ≤ sizeLine) (hr : Room k callerA) (hS : S ns)
    (F : ∀ base : Heap, K.In base → base.Ns mainGlobals mg → FnG P w K mg base CX0 k fa fd [x] (spLaw K S)) (bind : ∀ (s : Shared) (u : Value), BindsTo s fd ⟨[u], []⟩ [(x, u)]) :
    codeAny (model P w) callerA (.call (.ref fa) ⟨[.ref a], []⟩) (fun r s' => r = .ok (.ret (.bool true)) ∧ PySem.OldK s₁.heap s'.heap ∧ s'.os = s₁.os ∧ AllBare s'.gens) s₁ := by
  have go : ∀ H : Hp, (∀ b, H b = none ∨ ∃ o xs, H b = some (.frz o (.lst xs))) → SqL K H a (ns.map V.int) → HOk P w H s₁.heap → (∀ b, H b ≠ none → b = a) → (H a ≠ none → K.lookup a = none) →
      codeAny (model P w) callerA (.call (.ref fa) ⟨[.ref a], []⟩) (fun r s' => r = .ok (.ret (.bool true)) ∧ PySem.OldK s₁.heap s'.heap ∧ s'.os = s₁.os ∧ AllBare s'.gens) s₁ := by
    intro H only sq hok one hK
    obtain ⟨kin, nsb, e0⟩ := env_script (P := P) (w := w) KX hns hb hbb lim hg ha hok one hK
    have run := (F _ kin nsb).go callerA [] s₁ H ⟨[.ref a], []⟩ [.ref a] [.ref a] (fun v _ => v = .bl true) (fun _ _ _ => False) hr rfl e0 (bind s₁ (.ref a)) (.cons rfl .nil) ⟨a, ns, rfl, sq, hS, fun _ => rfl⟩
    refine codeAny_mono run fun r s' h => ?_
    match r, h with
    | .error _, h => exact h.elim
    | .ok .next, h => exact h.elim
    | .ok .brk, h => exact h.elim
    | .ok .cont, h => exact h.elim
    | .ok (.ret u), ⟨v, H', os, bare, un, hok', rv, q⟩ =>
      have q' : v = .bl true := q
      subst q'
      have eu : u = Value.bool true := rv
      subst eu
      refine ⟨rfl, PySem.OldK.of_keep fun b o e => ?_, os, bare⟩
      rcases only b with z | ⟨ob, xs, z⟩
      · exact un.keep b o e z (fun m => by cases m) (fun m => by cases m)
      · obtain ⟨e1, _⟩ := hok b _ z
        obtain ⟨e2, _⟩ := hok' b _ (un.frzs b ob _ z)
        rw [e1] at e
        cases e
        exact e2
  have rv : Vals (ns.map V.int) vs := vals_ints hi
  by_cases hk : ∃ o, K.lookup a = some o
  · obtain ⟨o, hk⟩ := hk
    have e := KX a o hk
    rw [ha] at e
    cases e
    refine go (fun _ => none) (fun _ => .inl rfl) (.inr ⟨_, vs.toArray, _, hk, rfl, rfl, rfl, ?_, ?_⟩) (fun b u z => nomatch z) (fun b z => (z rfl).elim) (fun z => (z rfl).elim)
    · rw [List.size_toArray, hi.length]; exact hl
    · simpa using rv
  · have hk' : K.lookup a = none := by cases z : K.lookup a with | none => rfl | some o => exact (hk ⟨o, z⟩).elim
    let ob : Obj := { cls := .type "list", data := .seq vs.toArray }
    refine go (fun b => if b = a then some (.frz ob (.lst (ns.map V.int))) else none) (fun b => ?_) (.inl (.inr ⟨ob, if_pos rfl⟩)) (fun b u z => ?_) (fun b z => ?_) (fun _ => hk')
    · by_cases eb : b = a
      · exact .inr ⟨_, _, if_pos eb⟩
      · exact .inl (if_neg eb)
    · by_cases eb : b = a
      · subst eb
        have z' : u = .frz ob (.lst (ns.map V.int)) := by simpa using z.symm
        subst z'
        exact ⟨ha, by rw [List.length_map]; exact hl, vs, _, rv, ha⟩
      · simp [eb] at z
    · exact Classical.byContradiction fun eb => z (if_neg eb)
end
theorem law_walk {l : PySem.W.OpenLaw} {n k : Nat} {q : Program} {loose : List Str} {XP : (Str → Option Value) → Heap → Prop} {YP : World → Heap → Prop} {d : DefRec} {K : Params → PySem.W.Frag} {x : Str} {S : List Int → Prop}
    (hn : l.most = some n) (hn2 : n ≤ sizeLine) (hdf : d.params.defaults = []) (hr : Room k callerA) (hY : ∀ (w : World) (h : Heap), YP w h → (K w.params).In h)
    (F : ∀ (w : World) (mg : Str → Option Value) (fa : Addr) (h : Heap), (K w.params).In h → h.Ns mainGlobals mg → mg d.name = some (.ref fa) →
      ∃ fd : FuncData, (∀ (s : Shared) (u : Value), BindsTo s fd ⟨[u], []⟩ [(x, u)]) ∧ ∀ base : Heap, (K w.params).In base → base.Ns mainGlobals mg → FnG l.prog w (K w.params) mg base CX0 k fa fd [x] (spLaw (K w.params) S))
    (hS : ∀ ns : List Int, ns.length ≤ n → (∀ z ∈ ns, Builtin.Int.intBits z ≤ 1048576) → S ns) : PySem.W.WalkO q loose XP YP l.row.toRowW d [] (fun f vs => PySem.call f vs) :=
  Att.attach_callB hn hdf fun w s₀ s₁ mg mb fa o pm cd doc a vs ns G Y ho hd hcd hmg hobj hints hlen hbits hg => by
    have kx := hY w _ Y
    obtain ⟨fd, hb, hF⟩ := F w mg fa _ kx G.T.g hmg
    exact law_end kx G.T.g G.T.b G.T.builtins G.T.nolimit hg hobj hints (Nat.le_trans hlen hn2) hr (hS ns hlen hbits) hF hb
end Gw

namespace Gw
open PySem L2
variable {ρ : Ent}
section
variable {X : Cx} {tg a b c : Expr} {ta tb tc te : TE} {aa ab ac ae : AE} {pos : Pos} {K : PySem.W.Frag} {i : Nat} {x : Str} {pos' : Pos}
/-- name = [..] -/
theorem qs_setLcG {elt iter : Expr} {ifs : List Expr} {scope : Scope} {own : List (Str × Nat)} {wi : TI} {ai : AI} {g : TG} {ag : AG} {is : List Nat} {tt : TT} {at' : AT} {spos : Pos} {as : AS} (i : Nat)
    (has : ∀ {te' : TE} {ae' : AE}, RdE X.K ρ te' ae' → ae' = aLc ai ag at' ae (own.map (·.2)) → RdS X.K ρ (tAsg te' (gName i)) as)
    (hN : X.N.Nodup) (hi : QI X ρ tg iter wi ai) (ok : BlkOk X.N X.env.scope scope own)
    (hg : ∀ (s : Shared) (H : Hp) (C : Addr) (cl : List (Str × Addr)) (fp : List Addr), QG (X.blk s H scope (compEnvC scope cl C X.env) fp) ρ tg g ag is) (ht : ∀ (s : Shared) (H : Hp) (C : Addr) (cl : List (Str × Addr)) (fp : List Addr), QTs (X.blk s H scope (compEnvC scope cl C X.env) fp) ρ ifs tt at')
    (he : ∀ (s : Shared) (H : Hp) (C : Addr) (cl : List (Str × Addr)) (fp : List Addr), QE (X.blk s H scope (compEnvC scope cl C X.env) fp) ρ elt te ae) (hsub : ∀ j ∈ is, j ∈ own.map (·.2)) (s0 : Shared)
    (hy : X.N[i]? = some x) (hyl : X.env.scope.names.lookup x = some .local) (hsw : swapsWith (.ListComp elt [⟨tg, iter, ifs, 0⟩] scope pos) (some (.Name x pos')) spos.line X.env = pure true) (hc : X.calm = true) (hs : ∀ x, foldedSetIterable iter X.env x = pure x) :
    QS X ρ (.Assign [.Name x pos'] (.ListComp elt [⟨tg, iter, ifs, 0⟩] scope pos) spos) (tAsg (tLc wi g tt te (own.map (·.2))) (gName i)) as :=
  ⟨ps_setLc hc hN hy hyl hsw hi.pe ok (fun s H C cl fp => (hg s H C cl fp).pe) (fun s H C cl fp => (ht s H C cl fp).pe) (fun s H C cl fp => (he s H C cl fp).pe) hs,
   has (rd_lc hi.rd (hg s0 X.H_0 0 [] []).rd hsub (ht s0 X.H_0 0 [] []).rd (he s0 X.H_0 0 [] []).rd) rfl⟩
theorem qs_setLc {elt iter : Expr} {ifs : List Expr} {scope : Scope} {own : List (Str × Nat)} {wi : TI} {ai : AI} {g : TG} {ag : AG} {is : List Nat} {tt : TT} {at' : AT} {spos : Pos} (i : Nat) (hN : X.N.Nodup) (hi : QI X ρ tg iter wi ai) (ok : BlkOk X.N X.env.scope scope own)
    (hg : ∀ (s : Shared) (H : Hp) (C : Addr) (cl : List (Str × Addr)) (fp : List Addr), QG (X.blk s H scope (compEnvC scope cl C X.env) fp) ρ tg g ag is) (ht : ∀ (s : Shared) (H : Hp) (C : Addr) (cl : List (Str × Addr)) (fp : List Addr), QTs (X.blk s H scope (compEnvC scope cl C X.env) fp) ρ ifs tt at')
    (he : ∀ (s : Shared) (H : Hp) (C : Addr) (cl : List (Str × Addr)) (fp : List Addr), QE (X.blk s H scope (compEnvC scope cl C X.env) fp) ρ elt te ae) (s0 : Shared) (hsub : ∀ j ∈ is, j ∈ own.map (·.2) := by decide)
    (hy : X.N[i]? = some x := by rfl) (hyl : X.env.scope.names.lookup x = some .local := by rfl) (hsw : swapsWith (.ListComp elt [⟨tg, iter, ifs, 0⟩] scope pos) (some (.Name x pos')) spos.line X.env = pure true := by exact sw_true rfl rfl rfl (by decide +kernel)) (hc : X.calm = true := by rfl) (hs : ∀ x, foldedSetIterable iter X.env x = pure x := by intro _; rfl) :
    QS X ρ (.Assign [.Name x pos'] (.ListComp elt [⟨tg, iter, ifs, 0⟩] scope pos) spos) (tAsg (tLc wi g tt te (own.map (·.2))) (gName i)) (aAsg (aLc ai ag at' ae (own.map (·.2))) i) :=
  qs_setLcG i (fun h e => by subst e; exact rd_asg h) hN hi ok hg ht he hsub s0 hy hyl hsw hc hs
theorem qs_setLcF {elt iter : Expr} {ifs : List Expr} {scope : Scope} {own : List (Str × Nat)} {wi : TI} {ai : AI} {g : TG} {ag : AG} {is : List Nat} {tt : TT} {at' : AT} {spos : Pos} (i : Nat) (hN : X.N.Nodup) (hi : QI X ρ tg iter wi ai) (ok : BlkOk X.N X.env.scope scope own)
    (hg : ∀ (s : Shared) (H : Hp) (C : Addr) (cl : List (Str × Addr)) (fp : List Addr), QG (X.blk s H scope (compEnvC scope cl C X.env) fp) ρ tg g ag is) (ht : ∀ (s : Shared) (H : Hp) (C : Addr) (cl : List (Str × Addr)) (fp : List Addr), QTs (X.blk s H scope (compEnvC scope cl C X.env) fp) ρ ifs tt at')
    (he : ∀ (s : Shared) (H : Hp) (C : Addr) (cl : List (Str × Addr)) (fp : List Addr), QE (X.blk s H scope (compEnvC scope cl C X.env) fp) ρ elt te ae) (s0 : Shared) (hsub : ∀ j ∈ is, j ∈ own.map (·.2) := by decide)
    (hy : X.N[i]? = some x := by rfl) (hyl : X.env.scope.names.lookup x = some .local := by rfl) (hsw : swapsWith (.ListComp elt [⟨tg, iter, ifs, 0⟩] scope pos) (some (.Name x pos')) spos.line X.env = pure true := by exact sw_true rfl rfl rfl (by decide +kernel)) (hc : X.calm = true := by rfl) (hs : ∀ x, foldedSetIterable iter X.env x = pure x := by intro _; rfl) :
    QS X ρ (.Assign [.Name x pos'] (.ListComp elt [⟨tg, iter, ifs, 0⟩] scope pos) spos) (tAsg (tLc wi g tt te (own.map (·.2))) (gName i)) (aAsgF (aLc ai ag at' ae (own.map (·.2))) i) :=
  qs_setLcG i (fun h e => by subst e; exact rd_asgF h) hN hi ok hg ht he hsub s0 hy hyl hsw hc hs
theorem q_comp {elt iter : Expr} {ifs : List Expr} {scope : Scope} {own : List (Str × Nat)} {wi : TI} {ai : AI} {g : TG} {ag : AG} {is : List Nat} {tt : TT} {at' : AT} (hN : X.N.Nodup) (hi : QI X ρ tg iter wi ai) (ok : BlkOk X.N X.env.scope scope own)
    (hg : ∀ (s : Shared) (H : Hp) (C : Addr) (cl : List (Str × Addr)) (fp : List Addr), QG (X.blk s H scope (compEnvC scope cl C X.env) fp) ρ tg g ag is) (ht : ∀ (s : Shared) (H : Hp) (C : Addr) (cl : List (Str × Addr)) (fp : List Addr), QTs (X.blk s H scope (compEnvC scope cl C X.env) fp) ρ ifs tt at')
    (he : ∀ (s : Shared) (H : Hp) (C : Addr) (cl : List (Str × Addr)) (fp : List Addr), QE (X.blk s H scope (compEnvC scope cl C X.env) fp) ρ elt te ae) (s0 : Shared) (hsub : ∀ j ∈ is, j ∈ own.map (·.2) := by decide) (hc : X.calm = true := by rfl) (hs : ∀ x, foldedSetIterable iter X.env x = pure x := by intro _; rfl) :
    QE X ρ (.ListComp elt [⟨tg, iter, ifs, 0⟩] scope pos) (tLc wi g tt te (own.map (·.2))) (aLc ai ag at' ae (own.map (·.2))) := q_lc own rfl hN hi ok hg ht he hsub s0 hc hs
/-! a, b = e1, e2 -/
def sto (r : Ret) (Γ : Sl) (i : Nat) (k : Sl → Prop) : Prop := match r with
  | .tmp c => k (Γ.set i (.own c))
  | r => frz r Γ fun d Γ2 => k (Γ2.set i (.dat d))
/-- both made first; data alone -/
def aPar (aa : AA) (i j : Nat) (A : AEnds) (Γ : Sl) (M : Mem) : Prop := aa Γ M fun ds Γ1 M1 => match ds with
  | [d, e] => A.nx ((Γ1.set i (.dat d)).set j (.dat e)) M1
  | _ => False
theorem qs_par {y : Str} {tr : TA} {ar : AA} {px py pt spos : Pos} {kt k2 pt2} (i j : Nat) (hN : X.N.Nodup) (ha : QA X ρ [a, b] tr ar) (hi : X.N[i]? = some x := by rfl) (hj : X.N[j]? = some y := by rfl) (hij : i ≠ j := by decide)
    (hx : X.env.scope.names.lookup x = some .local := by rfl) (hy : X.env.scope.names.lookup y = some .local := by rfl) (hw : swappedStores [.Tuple [.Name x px, .Name y py] kt pt] (.Tuple [a, b] k2 pt2) X.env = pure (some [x, y]) := by rfl)
    (hs : swapsWithSole [.Tuple [.Name x px, .Name y py] kt pt] (.Tuple [a, b] k2 pt2) spos.line X.env = pure false := by rfl) (hc : X.calm = true := by rfl) : QS X ρ (.Assign [.Tuple [.Name x px, .Name y py] kt pt] (.Tuple [a, b] k2 pt2) spos) (tPar i j tr) (aPar ar i j) :=
  ⟨ps_par hc hN hi hj hij hx hy ha.pe hw hs, fun B σ H G Γ M A E k h s => ha.rd B σ H G Γ M _ _ k h fun vs H1 G1 Γ1 M1 ds k1 e1 rl h1 => by
    split at h1
    · rename_i d e
      obtain ⟨v, r, rfl, rv, rn⟩ := repL_cons.mp rl
      obtain ⟨u, r', rfl, ru, rn'⟩ := repL_cons.mp rn
      have := repL_nil.mp rn'; subst this
      exact ⟨v, u, rfl, s.nx _ H1 G1 _ M1 ((k1.setD rv).setD ru) h1⟩
    · exact h1.elim⟩
/-- the second a new list of its own -/
def aParO (aa ab : AE) (i j : Nat) (A : AEnds) (Γ : Sl) (M : Mem) : Prop := aa Γ M fun r Γ1 M1 => frz r Γ1 fun d Γ2 => ab Γ2 M1 fun r2 Γ3 M3 => match r2 with
  | .tmp c => A.nx ((Γ3.set i (.dat d)).set j (.own c)) M3
  | _ => False
theorem qs_parO {y : Str} {px py pt spos : Pos} {kt k2 pt2} (i j : Nat) (hN : X.N.Nodup) (ha : QE X ρ a ta aa) (hb : QE X ρ b tb ab) (na : starEach [a, b] X.env = (false, eval a X.env) :: starEach [b] X.env := by rfl) (nb : starEach [b] X.env = (false, eval b X.env) :: starEach [] X.env := by rfl) (hi : X.N[i]? = some x := by rfl) (hj : X.N[j]? = some y := by rfl) (hij : i ≠ j := by decide)
    (hx : X.env.scope.names.lookup x = some .local := by rfl) (hy : X.env.scope.names.lookup y = some .local := by rfl) (hw : swappedStores [.Tuple [.Name x px, .Name y py] kt pt] (.Tuple [a, b] k2 pt2) X.env = pure (some [x, y]) := by rfl)
    (hs : swapsWithSole [.Tuple [.Name x px, .Name y py] kt pt] (.Tuple [a, b] k2 pt2) spos.line X.env = pure false := by rfl) (hc : X.calm = true := by rfl) : QS X ρ (.Assign [.Tuple [.Name x px, .Name y py] kt pt] (.Tuple [a, b] k2 pt2) spos) (tPar i j (tCons ta (tCons tb tNil))) (aParO aa ab i j) :=
  ⟨ps_par hc hN hi hj hij hx hy (pa_cons ha.pe (pa_cons hb.pe pa_nil nb) na) hw hs, fun B σ H G Γ M A E k h s => ha.rd B σ H G Γ M _ _ k h fun v H1 G1 Γ1 M1 r k1 e1 rr h1 => by
    obtain ⟨G2, Γ2, d, k2, e2, rp, h2⟩ := frz_ok (H0 := H) k1 e1 rr h1
    refine hb.rd B σ H1 G2 Γ2 M1 _ _ k2 h2 fun u H3 G3 Γ3 M3 r3 k3 e3 rr3 h3 => ?_
    split at h3
    · rename_i c
      obtain ⟨p, rfl, h0, hb', hc', hm, hn⟩ := rr3
      exact ⟨v, _, rfl, s.nx _ H3 G3 _ M3 ((k3.setD (rp.mono e3.g)).setO hb' hc' hm fun z => hn (owned_set (fun c e => by cases e) z)) h3⟩
    · exact h3.elim⟩
/-! min, max of three -/
def aI3 (g : Int → Int → Int → Int) (aa : AA) (Γ : Sl) (M : Mem) (Q : Ret → Sl → Mem → Prop) : Prop := aa Γ M fun ds Γ1 M1 => match ds with
  | [.int i, .int j, .int l] => Q (.dat (.int (g i j l))) Γ1 M1
  | _ => False
theorem rd_I3 {f : V → V → V → Option V} {g : Int → Int → Int → Int} (hf : ∀ i j l, f (.int i) (.int j) (.int l) = some (.int (g i j l))) {tr : TA} {ar : AA} (ha : RdA K ρ tr ar) : RdE K ρ (tCB (rNuC3 f) tr) (aI3 g ar) := fun B σ H G Γ M Q R k h q =>
  ha B σ H G Γ M _ _ k h fun vs H1 G1 Γ1 M1 ds k1 e1 rl h1 => by
    split at h1
    · rename_i i j l
      obtain ⟨v, r, rfl, rv, rn⟩ := repL_cons.mp rl
      obtain ⟨u, r', rfl, ru, rn'⟩ := repL_cons.mp rn
      obtain ⟨t, r'', rfl, rt, rn''⟩ := repL_cons.mp rn'
      have := repL_nil.mp rn''; subst this
      rw [Rep] at rv ru rt
      subst rv; subst ru; subst rt
      exact ⟨_, _, _, _, rfl, hf i j l, q _ H1 G1 Γ1 M1 (.dat (.int _)) k1 e1 (by simp only [RepR, Rep]) h1⟩
    · exact h1.elim
def min3 (i j l : Int) : Int := let m := if j < i then j else i; if l < m then l else m
theorem q_min3 {p : Pos} {tr : TA} {ar : AA} (hm : X.mg "min" = none) (ha : QA X ρ [a, b, c] tr ar) (hc : X.calm = true := by rfl) (hg : Gl X "min" := by rfl) (he : starEach [a, b, c] X.env = (false, eval a X.env) :: starEach [b, c] X.env := by rfl) (hpl : (backTo pos (starEach [b, c] X.env)).any (·.1) = false := by rfl) :
    QE X ρ (.Call (.Name "min" p) [a, b, c] [] pos) (tCB (rNuC3 nuMin3) tr) (aI3 min3 ar) := ⟨pe_callB (call_min3Nu hc) hg hm (by decide +kernel) ha.pe (by decide) (by decide) he hpl, rd_I3 (fun i j l => by
      simp only [nuMin3, nuMin2, nuLt, nuCB, Option.map_some, Option.bind_some, min3]
      by_cases h1 : j < i <;> simp [h1] <;> split <;> simp_all) ha.rd⟩
end
/-! ### the law's def -/
section
variable {P : Program} {w : World} {K : PySem.W.Frag} {mg : Str → Option Value} {base : Heap}
def SLaw (S : List Int → Prop) : ASp := fun ds M Q => ∃ ns : List Int, ds = [.scr (ns.map .int)] ∧ M = [] ∧ S ns ∧ ∀ M', Q (.dat (.bl true)) M'
theorem ar_law (S : List Int → Prop) : Ar 1 (SLaw S) := fun _ _ _ ⟨_, e, _⟩ => by rw [e]; rfl
theorem law_fn {S : List Int → Prop} {k : Nat} {f : Addr} {fd : FuncData} {x : Str} (F : FnG P w K mg base CX0 k f fd [x] (spA K 1 (SLaw S))) : FnG P w K mg base CX0 k f fd [x] (spLaw K S) where
  arity := fun vs H Q E h => by obtain ⟨a, ns, rfl, _⟩ := h; rfl
  go := fun A o s H ar us vs Q E r gd e b rv h => F.go A o s H ar us vs Q E r gd e b rv (by
    obtain ⟨a, ns, rfl, sq, hS, hq⟩ := h
    refine ⟨H, [], [.scr (ns.map .int)], rfl, Ex.refl H, List.nodup_nil, (fun _ _ h => nomatch h), RepL.one (rep_scr.mpr ⟨a, _, rfl, sq, repL_map_int.mpr rfl⟩), fun r _ => r = .dat (.bl true), ⟨ns, rfl, rfl, hS, fun _ => rfl⟩, fun r M' v H' G' er _ rr => ?_⟩
    subst er
    have ev : v = .bl true := by have := rr; simp only [RetOk, Rep] at this; exact this
    subst ev
    exact hq H')
end
end Gw

namespace Gw
open PySem L2
variable {ρ : Ent}
theorem hu_big {k : Nat} {A : Around} (r : Room k A) : A.units + 100 < cLine := by have := r.un; omega
/-! ### a def that may be called: all that its callers want -/
structure Cal (P : Program) (w : World) (K : PySem.W.Frag) (mg : Str → Option Value) (base : Heap) (x : Str) (ps : List Str) (k : Nat) (S : ASp) : Prop where
  ex : ∃ f fd, FnG P w K mg base CX0 k f fd ps (spA K ps.length S) ∧ mg x = some (.ref f) ∧ PySem.W.keepIn K (.ref f) = true ∧ Binds K fd ps [] ∧ Ar ps.length S
structure KCal (P : Program) (w : World) (K : PySem.W.Frag) (mg : Str → Option Value) (base : Heap) (x : Str) (ps : List Str) (k : Nat) (S : ASp) : Prop where
  ex : ∃ f fd, FnG P w K mg base CX0 k f fd ps (spA K ps.length S) ∧ mg x = some (.ref f) ∧ PySem.W.keepIn K (.ref f) = true ∧
    (∀ (s : Shared) (ws : List Value), K.In s.heap → ws.length = ps.length → BindsTo s fd ⟨[], ps.zip ws⟩ (ps.zip ws)) ∧ Ar ps.length S
section
variable {X : Cx} {P : Program} {w : World} {K : PySem.W.Frag} {mg : Str → Option Value} {base : Heap} {k n : Nat} {ps : List Str} {S : ASp} {x : Str} {p pos : Pos} {a : Expr} {es : List Expr} {tr : TA} {ar : AA}
/-- the context runs over this text -/
structure At (X : Cx) (P : Program) (w : World) (K : PySem.W.Frag) (mg : Str → Option Value) (base : Heap) : Prop where
  prog : X.prog = P
  w : X.w = w
  K : X.K = K
  mg : X.mg = mg
  base : X.base = base
theorem q_callC (C : Cal P w K mg base x ps k S) (hr : Room k X.A) (gd : X.A.guards = some []) (ha : QA X ρ (a :: es) tr ar) (hX : At X P w K mg base := by exact ⟨rfl, rfl, rfl, rfl, rfl⟩) (hg : Gl X x := by rfl) (hdb : (x == ("__debug__" : Str)) = false := by decide)
    (he : starEach (a :: es) X.env = (false, eval a X.env) :: starEach es X.env := by rfl) (hpl : (backTo pos (starEach es X.env)).any (·.1) = false := by rfl) :
    QE X ρ (.Call (.Name x p) (a :: es) [] pos) (tCall (spA K ps.length S) [] E0 tr) (aCall S ar) := by
  obtain ⟨f, fd, F, hm, hk, hb, hn⟩ := C.ex
  obtain ⟨h1, h2, h3, h4, h5⟩ := hX
  subst h1 h2 h3 h4 h5
  exact q_call F hr gd hm hk hb hn ha hg hdb he hpl
theorem q_callC0 (C : Cal P w K mg base x ps k S) (hr : Room k X.A) (gd : X.A.guards = some []) (hX : At X P w K mg base := by exact ⟨rfl, rfl, rfl, rfl, rfl⟩) (hg : Gl X x := by rfl) (hdb : (x == ("__debug__" : Str)) = false := by decide) :
    QE X ρ (.Call (.Name x p) [] [] pos) (tCall (spA K ps.length S) [] E0 tNil) (aCall S aNil) := by
  obtain ⟨f, fd, F, hm, hk, hb, hn⟩ := C.ex
  obtain ⟨h1, h2, h3, h4, h5⟩ := hX
  subst h1 h2 h3 h4 h5
  exact q_call0 F hr gd hm hk hb hn hg hdb
theorem q_callCK {kws : List Keyword} {tk : TA} {ak : AA} (C : KCal P w K mg base x ps k S) (room : Room k X.A) (gd : X.A.guards = some []) (hkw : QK X ρ kws tk ak) (hX : At X P w K mg base := by exact ⟨rfl, rfl, rfl, rfl, rfl⟩) (hg : Gl X x := by rfl)
    (hall : (backToKw pos (keywordEach kws X.env)).all (·.1.isSome) = true := by rfl) (hks : (backToKw pos (keywordEach kws X.env)).filterMap (·.1) = ps := by rfl)
    (hdb : (x == ("__debug__" : Str)) = false := by decide) (hpl : ((backTo pos (starEach [] X.env)).any (·.1) || (backToKw pos (keywordEach kws X.env)).any (·.1.isNone)) = false := by rfl) :
    QE X ρ (.Call (.Name x p) [] kws pos) (tCall (spA K ps.length S) [] E0 tk) (aCall S ak) := by
  obtain ⟨f, fd, F, hm, hk, hb, hn⟩ := C.ex
  obtain ⟨h1, h2, h3, h4, h5⟩ := hX
  subst h1 h2 h3 h4 h5
  refine ⟨⟨fun pins s σ H Q I h => wpAny_Call_Name_kw (ld_glob I hg hm ?_ hdb)⟩, rd_call hn hkw.rd⟩
  refine PySem.W.callWith_KW0 (h₀ := X.base) I.ok.mod.kin hk hall (thn (hkw.pe.run pos pins s σ H _ I h) ?_) hpl
  rintro ws s2 ⟨zs, H2, I2, rz, q⟩
  rw [List.append_nil] at q
  rw [hks]
  exact ⟨I2.kIn, callG F room gd pass0 I2 (hb s2 ws I2.kIn (by rw [← rz.length]; exact F.arity _ _ _ _ q)) rz q⟩
end
/-! ### a new list is shared -/
section
variable {X : Cx} {a : Expr} {ta : TE} {aa : AE} {K : PySem.W.Frag} {B : Ent} {σ : St} {H G H1 G1 : Hp} {Γ Γ1 : Sl} {M M1 : Mem}
theorem Ok.share {p : Addr} {c : Cell} (k : Ok K ρ B σ H G Γ M) (hb : B.H p = none) (hc : Cel K H G p c) (hm : p ∉ dom M) (hn : ¬ owned σ Γ p) : Ok K ρ B σ H G Γ ((p, c) :: M) := by
  refine ⟨⟨k.st.g, k.st.fr, k.st.gn, fun x hx => ?_, k.st.nn⟩, k.ex, List.nodup_cons.mpr ⟨hm, k.nd⟩, fun x cx hx => ?_, k.dat, fun i ci h => ?_, k.dis, k.len, k.pb⟩
  · rcases List.mem_cons.mp hx with e | e
    · exact .inr (by rw [e]; exact hb)
    · exact k.st.mn x e
  · rcases List.mem_cons.mp hx with e | e
    · cases e; exact hc
    · exact k.ms x cx e
  · obtain ⟨q, h1, h2, h3, h4⟩ := k.own i ci h
    refine ⟨q, h1, h2, fun z => ?_, h4⟩
    rcases List.mem_cons.mp z with e | e
    · exact hn ⟨i, ci, h, by rw [show p = q from e.symm]; exact h1⟩
    · exact h3 e
def aSh (aa : AE) (Γ : Sl) (M : Mem) (Q : Ret → Sl → Mem → Prop) : Prop := aa Γ M fun r Γ1 M1 => match r with
  | .tmp c => ∀ p, p ∉ dom M1 → Q (.dat (.ref p)) Γ1 ((p, c) :: M1)
  | _ => False
theorem rd_sh (ha : RdE K ρ ta aa) : RdE K ρ ta (aSh aa) := fun B σ H G Γ M Q R k h q => ha B σ H G Γ M _ _ k h fun v H1 G1 Γ1 M1 r k1 e1 rr h1 => by
  split at h1
  · rename_i c
    obtain ⟨p, rfl, h0, hb, hc, hm, hn⟩ := rr
    refine q _ H1 G1 Γ1 _ (.dat (.ref p)) (k1.share hb hc hm hn) ⟨e1.g, fun x o hx g m n => ?_, e1.nn⟩ (by simp only [RepR, Rep]) (h1 p hm)
    obtain ⟨b1, b2, b3, b4⟩ := e1.tmp x o hx g m n
    refine ⟨b1, b2, fun z => ?_, b4⟩
    rcases List.mem_cons.mp z with e | e
    · subst e; rw [h0] at hx; cases hx
    · exact b3 e
  · exact h1.elim
theorem q_sh (h : QE X ρ a ta aa) : QE X ρ a ta (aSh aa) := ⟨h.pe, rd_sh h.rd⟩
def aShV (i : Nat) (Γ : Sl) (M : Mem) (Q : Ret → Sl → Mem → Prop) : Prop := match Γ[i]? with
  | some (.own c) => ∀ p, p ∉ dom M → Q (.dat (.ref p)) (Γ.set i (.dat (.ref p))) ((p, c) :: M)
  | _ => False
theorem rd_shV {i : Nat} : RdE K ρ (tVar i) (aShV i) := fun B σ H G Γ M Q R k h q => by
  unfold aShV at h
  split at h
  · rename_i c e1
    obtain ⟨p, s1, hb, hm, hc⟩ := k.own i c e1
    have own' : ∀ x, owned σ (Γ.set i .non) x → owned σ Γ x := fun x ⟨j, cj, h1, h2⟩ => by
      rcases set_get h1 with ⟨_, e⟩ | ⟨_, e⟩
      · cases e
      · exact ⟨j, cj, e, h2⟩
    have hn : ¬ owned σ (Γ.set i .non) p := fun ⟨j, cj, h1, h2⟩ => by
      rcases set_get h1 with ⟨_, e⟩ | ⟨ne, e⟩
      · cases e
      · exact ne (k.dis j i _ _ p e e1 h2 s1)
    obtain ⟨k0, _⟩ := k.agree (σ' := σ) (Γ' := Γ.set i .non) (fun j s h hs => by
      rcases set_get h with ⟨_, e⟩ | ⟨_, e⟩
      · exact (hs e).elim
      · exact ⟨e, rfl⟩) (by rw [List.length_set]; exact k.len)
    have k1 := (k0.share hb hc hm hn).setD (i := i) (d := .ref p) (v := .ref p) (by rw [Rep])
    have es : σ.set i (some (.ref p)) = σ := by
      apply List.ext_getElem?
      intro j
      rw [List.getElem?_set]
      split
      · rename_i ej
        subst ej
        rw [if_pos ((List.getElem?_eq_some_iff.mp s1).1), s1]
      · rfl
    rw [es, List.set_set] at k1
    refine ⟨_, s1, q _ H G _ _ (.dat (.ref p)) k1 ⟨Ex.refl G, fun x o hx g m n => ?_, fun _ z => z⟩ (by simp only [RepR, Rep]) (h p hm)⟩
    refine ⟨hx, g, fun z => ?_, fun ⟨j, cj, h1, h2⟩ => n ?_⟩
    · rcases List.mem_cons.mp z with e | e
      · exact n ⟨i, c, e1, by rw [show x = p from e]; exact s1⟩
      · exact m e
    · rcases set_get h1 with ⟨_, e⟩ | ⟨_, e⟩
      · cases e
      · exact ⟨j, cj, e, h2⟩
  · exact h.elim
theorem qv_sh (i : Nat) {x : Str} {pos : Pos} (hN : X.N[i]? = some x := by rfl) (hv : Vis X.env.scope x := by first | exact Or.inl rfl | exact Or.inr (Or.inl rfl) | exact Or.inr (Or.inr rfl)) (hd : (x == ("__debug__" : Str)) = false := by decide)
    (hcd : (x == ("__classdict__" : Str)) = false := by decide) : QE X ρ (.Name x pos) (tVar i) (aShV i) := ⟨pe_var hN hv hd hcd, rd_shV⟩
end
/-! ### texts compared -/
section
variable {X : Cx} {K : PySem.W.Frag}
def aEqS (f : Bool → Bool) (x : Ret) (y : Ret) (Γ : Sl) (M : Mem) (Q : Ret → Sl → Mem → Prop) : Prop := match x, y with
  | .dat (.str s), .dat (.str t) => Q (.dat (.bl (f (decide (s = t))))) Γ M
  | _, _ => False
theorem rd_eqS : RdO K ρ rEq (aEqS id) := by
  intro B σ H H1 H2 G Γ M rx ry x y Q R k r1 r2 h q
  unfold aEqS at h
  split at h
  · rename_i s t
    have e1 : x = .str s := by have := r1; simp only [RepR, Rep] at this; exact this
    have e2 : y = .str t := by have := r2; simp only [RepR, Rep] at this; exact this
    subst e1; subst e2
    refine ⟨rfl, q _ H G Γ M (.dat (.bl _)) k .refl ?_ h⟩
    simp only [RepR, Rep, id, V.str.injEq]
  · exact h.elim
theorem rd_neS : RdO K ρ rNe (aEqS not) := by
  intro B σ H H1 H2 G Γ M rx ry x y Q R k r1 r2 h q
  unfold aEqS at h
  split at h
  · rename_i s t
    have e1 : x = .str s := by have := r1; simp only [RepR, Rep] at this; exact this
    have e2 : y = .str t := by have := r2; simp only [RepR, Rep] at this; exact this
    subst e1; subst e2
    refine ⟨rfl, q _ H G Γ M (.dat (.bl _)) k .refl ?_ h⟩
    simp only [RepR, Rep, V.str.injEq]
  · exact h.elim
theorem c_eqS : CmpR X ρ .Eq rEq (aEqS id) := ⟨op_eq, rd_eqS⟩
theorem c_neS : CmpR X ρ .NotEq rNe (aEqS not) := ⟨op_ne, rd_neS⟩
end
end Gw

namespace Gw
open PySem L2
variable {ρ : Ent}
/-! ### loops read by what holds of the rest -/
theorem forL {g : AG} {body : AS} {A : AEnds} (I : List D → Sl → Mem → Prop) (hn : ∀ Γ M, I [] Γ M → A.nx Γ M)
    (hc : ∀ d ds Γ M (K : Sl → Mem → Prop), I (d :: ds) Γ M → (∀ Γ' M', I ds Γ' M' → K Γ' M') → g d Γ fun Γ1 => body { A with nx := K, ct := K, bk := A.nx } Γ1 M) : ∀ (ds : List D) {Γ : Sl} {M : Mem}, I ds Γ M → aForL g body ds A Γ M
  | [], Γ, M, h => hn Γ M h
  | d :: ds, Γ, M, h => hc d ds Γ M _ h fun Γ' M' h' => forL I hn hc ds h'
theorem lcL {g : AG} {tt : AT} {ae : AE} {vs : List Nat} {k : List D → Sl → Mem → Prop} (I : List D → List D → Sl → Mem → Prop) (hn : ∀ acc Γ M, I [] acc Γ M → k acc Γ M)
    (hc : ∀ d ds acc Γ M (K : List D → Sl → Mem → Prop), I (d :: ds) acc Γ M → (∀ acc' Γ' M', I ds acc' Γ' M' → K acc' Γ' M') → g d Γ fun Γ1 => tt Γ1 M fun b Γ2 M2 => if b = true then ae Γ2 M2 fun r Γ3 M3 => frz r Γ3 fun y Γ4 => acc.length < sizeLine ∧ K (acc ++ [y]) (wipeS Γ4 vs) M3
      else K acc (wipeS Γ2 vs) M2) : ∀ (ds acc : List D) {Γ : Sl} {M : Mem}, I ds acc Γ M → aLcL g tt ae vs k ds acc Γ M
  | [], acc, Γ, M, h => hn acc Γ M h
  | d :: ds, acc, Γ, M, h => hc d ds acc Γ M _ h fun acc' Γ' M' h' => lcL I hn hc ds acc' h'
theorem rngD_cons (lo : Int) (n : Nat) : rngD lo (n + 1) = .int lo :: rngD (lo + 1) n := by
  unfold rngD
  rw [List.range_succ_eq_map, List.map_cons, List.map_map]
  congr 1
  · simp
  · apply List.map_congr_left
    intro i _
    simp only [Function.comp_apply]
    congr 1
    omega
theorem rngD_zero (lo : Int) : rngD lo 0 = [] := rfl
/-- over a range: n turns are left -/
theorem forR {g : AG} {body : AS} {A : AEnds} (I : Int → Nat → Sl → Mem → Prop) (hn : ∀ i Γ M, I i 0 Γ M → A.nx Γ M)
    (hc : ∀ i n Γ M (K : Sl → Mem → Prop), I i (n + 1) Γ M → (∀ Γ' M', I (i + 1) n Γ' M' → K Γ' M') → g (.int i) Γ fun Γ1 => body { A with nx := K, ct := K, bk := A.nx } Γ1 M) : ∀ (n : Nat) {lo : Int} {Γ : Sl} {M : Mem}, I lo n Γ M → aForL g body (rngD lo n) A Γ M
  | 0, lo, Γ, M, h => hn lo Γ M h
  | n + 1, lo, Γ, M, h => by rw [rngD_cons]; exact hc lo n Γ M _ h fun Γ' M' h' => forR I hn hc n h'
theorem lcR {g : AG} {tt : AT} {ae : AE} {vs : List Nat} {k : List D → Sl → Mem → Prop} (I : Int → Nat → List D → Sl → Mem → Prop) (hn : ∀ i acc Γ M, I i 0 acc Γ M → k acc Γ M)
    (hc : ∀ i n acc Γ M (K : List D → Sl → Mem → Prop), I i (n + 1) acc Γ M → (∀ acc' Γ' M', I (i + 1) n acc' Γ' M' → K acc' Γ' M') → g (.int i) Γ fun Γ1 => tt Γ1 M fun b Γ2 M2 => if b = true then ae Γ2 M2 fun r Γ3 M3 => frz r Γ3 fun y Γ4 => acc.length < sizeLine ∧ K (acc ++ [y]) (wipeS Γ4 vs) M3
      else K acc (wipeS Γ2 vs) M2) : ∀ (n : Nat) {lo : Int} (acc : List D) {Γ : Sl} {M : Mem}, I lo n acc Γ M → aLcL g tt ae vs k (rngD lo n) acc Γ M
  | 0, lo, acc, Γ, M, h => hn lo acc Γ M h
  | n + 1, lo, acc, Γ, M, h => by rw [rngD_cons]; exact hc lo n acc Γ M _ h fun acc' Γ' M' h' => lcR I hn hc n acc' h'
/-! ### what can be compared, shown -/
theorem plainL_ints (ns : List Int) : plainL (ns.map .int) = true := by
  induction ns with
  | nil => rfl
  | cons n ns ih => rw [List.map_cons, plainL, plain, ih]; rfl
theorem toPyL_ints (ns : List Int) : toPyL (ns.map .int) = ns.map .int := by
  induction ns with
  | nil => rfl
  | cons n ns ih => rw [List.map_cons, toPyL, toPy, ih]; rfl
theorem lay_ints (ns : List Int) : PyData.canLayAll0 (ns.map .int) = true := by
  induction ns with
  | nil => simp [PyData.canLayAll0]
  | cons n ns ih => rw [List.map_cons, PyData.canLayAll0, PyData.canLay0, ih]; rfl
theorem depth_ints (ns : List Int) : PyData.depthAll (ns.map .int) = 0 := by
  induction ns with
  | nil => simp [PyData.depthAll]
  | cons n ns ih => rw [List.map_cons, PyData.depthAll, PyData.depth, ih]; rfl
theorem cmp_ints_l (ns : List Int) : cmpOk (.lst (ns.map .int)) = true := by
  simp only [cmpOk, plain, toPy, SeqAt.shaped, PyData.canLay0, PyData.depth, plainL_ints, toPyL_ints, lay_ints, depth_ints]; decide
theorem cmp_ints_t (ns : List Int) : cmpOk (.tup (ns.map .int)) = true := by
  simp only [cmpOk, plain, toPy, SeqAt.shaped, PyData.canLay0, PyData.depth, plainL_ints, toPyL_ints, lay_ints, depth_ints]; decide
theorem cmp_int (i : Int) : cmpOk (.int i) = true := by simp [cmpOk, plain, toPy, SeqAt.shaped, PyData.canLay0, PyData.depth]
theorem cmp_nil_l : cmpOk (.lst []) = true := cmp_ints_l []
theorem cmp_nil_t : cmpOk (.tup []) = true := cmp_ints_t []
theorem eqD_int (i j : Int) : eqD (.int i) (.int j) = decide (i = j) := by simp [eqD, toPy, PyData.eqv, Bool.beq_eq_decide_eq]
theorem eqD_ints_l (ns ms : List Int) : eqD (.lst (ns.map .int)) (.lst (ms.map .int)) = decide (ns = ms) := by
  simp only [eqD, toPy, PyData.eqv, toPyL_ints]
  induction ns generalizing ms with
  | nil => cases ms <;> simp [PyData.eqvAll]
  | cons n ns ih => cases ms with
    | nil => simp [PyData.eqvAll]
    | cons m ms => simp [PyData.eqvAll, PyData.eqv, ih, Bool.beq_eq_decide_eq]
theorem eqD_ints_t (ns ms : List Int) : eqD (.tup (ns.map .int)) (.tup (ms.map .int)) = decide (ns = ms) := by
  have := eqD_ints_l ns ms
  simpa only [eqD, toPy, PyData.eqv] using this
theorem eqD_nil_l (ns : List Int) : eqD (.lst (ns.map .int)) (.lst []) = decide (ns = []) := eqD_ints_l ns []
theorem eqD_nil_t (ns : List Int) : eqD (.tup (ns.map .int)) (.tup []) = decide (ns = []) := eqD_ints_t ns []
/-! ### items -/
theorem ixN_of {n : Nat} {i : Int} (h0 : 0 ≤ i) (h1 : i < n) : ixN n i = some i.toNat := by
  obtain ⟨j, rfl⟩ : ∃ j : Nat, i = (j : Int) := ⟨i.toNat, by omega⟩
  simp only [ixN]
  split <;> first | omega | simp
theorem atI_in {α : Type} {xs : List α} {i : Int} (h0 : 0 ≤ i) (h1 : i < xs.length) : ∃ x, atI xs i = some x ∧ xs[i.toNat]? = some x := by
  unfold atI
  rw [ixN_of h0 h1]
  have : i.toNat < xs.length := by omega
  exact ⟨xs[i.toNat], by simp [this], by simp [this]⟩
end Gw
namespace Gw
theorem size_val : PySem.sizeLine = 16777216 := by decide
end Gw
namespace Gw
open PySem L2
theorem lk_self {a : Addr} {c : Cell} {M : Mem} : List.lookup a ((a, c) :: M) = some c := by rw [List.lookup_cons, beq_self_eq_true]
theorem lk_ne {a b : Addr} {c : Cell} {M : Mem} (h : (b == a) = false) : List.lookup b ((a, c) :: M) = List.lookup b M := by rw [List.lookup_cons, h]
theorem at0 {α : Type} {x : α} {xs : List α} : atI (x :: xs) 0 = some x := by simp [atI, ixN]
theorem at1 {α : Type} {x y : α} {xs : List α} : atI (x :: y :: xs) 1 = some y := by
  unfold atI
  rw [ixN_of (by omega) (by simp only [List.length_cons]; omega)]; rfl
theorem at2 {α : Type} {x y z : α} {xs : List α} : atI (x :: y :: z :: xs) 2 = some z := by
  unfold atI
  rw [ixN_of (by omega) (by simp only [List.length_cons]; omega)]; rfl
theorem at3 {α : Type} {x y z u : α} {xs : List α} : atI (x :: y :: z :: u :: xs) 3 = some u := by
  unfold atI
  rw [ixN_of (by omega) (by simp only [List.length_cons]; omega)]; rfl
theorem at4 {α : Type} {x y z u v : α} {xs : List α} : atI (x :: y :: z :: u :: v :: xs) 4 = some v := by
  unfold atI
  rw [ixN_of (by omega) (by simp only [List.length_cons]; omega)]; rfl
theorem ix0 {n : Nat} : ixN (n + 1) 0 = some 0 := ixN_of (by omega) (by omega)
theorem ix1 {n : Nat} : ixN (n + 2) 1 = some 1 := ixN_of (by omega) (by omega)
theorem ix2 {n : Nat} : ixN (n + 3) 2 = some 2 := ixN_of (by omega) (by omega)
theorem sx0 {n : Nat} : seqIndex? 0 (n + 1) = some 0 := by simp [seqIndex?]
theorem mput_self {a : Addr} {c c' : Cell} {M : Mem} (h : a ∉ dom M) : mput ((a, c) :: M) a c' = (a, c') :: M := by
  unfold mput
  rw [List.map_cons]
  congr 1
  · simp
  · conv => rhs; rw [← List.map_id M]
    apply List.map_congr_left
    intro x hx
    have : x.1 ≠ a := fun e => h (e ▸ List.mem_map.mpr ⟨x, hx, rfl⟩)
    simp [this]
theorem mput_ne {a b : Addr} {c c' : Cell} {M : Mem} (h : a ≠ b) : mput ((a, c) :: M) b c' = (a, c) :: mput M b c' := by
  unfold mput
  rw [List.map_cons]
  simp [h]
theorem mput_nil {a : Addr} {c' : Cell} : mput [] a c' = [] := rfl
end Gw
namespace Gw
theorem ends_d {Q : Ret → Mem → Prop} {d : D} {Γ : Sl} {M : Mem} : (endsOf Q).rt (.dat d) Γ M = Q (.dat d) M := rfl
theorem ends_t {Q : Ret → Mem → Prop} {c : Cell} {Γ : Sl} {M : Mem} : (endsOf Q).rt (.tmp c) Γ M = Q (.tmp c) M := rfl
theorem ends_n {Q : Ret → Mem → Prop} {Γ : Sl} {M : Mem} : (endsOf Q).nx Γ M = Q (.dat .non) M := rfl
theorem ends_v {Q : Ret → Mem → Prop} {i : Nat} {c : Cell} {Γ : Sl} {M : Mem} (h : Γ[i]? = some (.own c)) : (endsOf Q).rt (.var i) Γ M = Q (.tmp c) M := by simp [endsOf, ret, h]
end Gw
namespace Gw
open PySem L2
theorem eqD_l00 : eqD (.lst []) (.lst []) = true := by simp [eqD, toPy, toPyL, PyData.eqv, PyData.eqvAll]
theorem eqD_l10 {d : D} {ds : List D} : eqD (.lst (d :: ds)) (.lst []) = false := by simp [eqD, toPy, toPyL, PyData.eqv, PyData.eqvAll]
theorem eqD_t00 : eqD (.tup []) (.tup []) = true := by simp [eqD, toPy, toPyL, PyData.eqv, PyData.eqvAll]
theorem eqD_t10 {d : D} {ds : List D} : eqD (.tup (d :: ds)) (.tup []) = false := by simp [eqD, toPy, toPyL, PyData.eqv, PyData.eqvAll]
theorem fmod_lo {a b : Int} (h : 0 < b) : 0 ≤ a.fmod b := Int.fmod_nonneg_of_pos a h
theorem fmod_hi {a b : Int} (h : 0 < b) : a.fmod b < b := Int.fmod_lt_of_pos a h
theorem log2_le {x k : Nat} (h : x < 2 ^ k) (hk : 0 < k) : x.log2 < k := by
  rcases Nat.eq_zero_or_pos x with z | z
  · rw [z]; simpa using hk
  · exact (Nat.log2_lt (by omega)).mpr h
theorem div_ok {i j : Int} (h0 : 0 < j) (h1 : j ≤ 4294967295) : CDivW i j := ⟨h0, by
  have := log2_le (x := j.natAbs) (k := 32) (by omega) (by decide)
  omega⟩
theorem mul_l {i j : Int} (h0 : -18446744073709551616 < i) (h1 : i < 18446744073709551616) : CM i j := .inl (.inl ⟨by omega, by omega⟩)
theorem mul_r {i j : Int} (h0 : -18446744073709551616 < j) (h1 : j < 18446744073709551616) : CM i j := .inl (.inr ⟨by omega, by omega⟩)
end Gw
namespace Gw
open PySem L2
def cutI (xs : List Int) (lo hi : Option Int) : List Int := (xs.drop (HT.sIx xs.length 0 lo)).take (HT.sIx xs.length xs.length hi - HT.sIx xs.length 0 lo)
theorem cutD_ints (xs : List Int) (lo hi : Option Int) : cutD (xs.map .int) lo hi = (cutI xs lo hi).map .int := by
  unfold cutD cutI
  rw [List.length_map, List.map_take, List.map_drop]
theorem cutI_len (xs : List Int) (lo hi : Option Int) : (cutI xs lo hi).length ≤ xs.length := by
  unfold cutI
  rw [List.length_take, List.length_drop]
  omega
theorem map_eq_cons {α : Type} {f : α → D} {xs : List α} {d : D} {ds : List D} (h : d :: ds = xs.map f) : ∃ x r, xs = x :: r ∧ d = f x ∧ ds = r.map f := by
  cases xs with
  | nil => cases h
  | cons x r => cases h; exact ⟨x, r, rfl, rfl, rfl⟩
theorem map_eq_nil {α : Type} {f : α → D} {xs : List α} (h : [] = xs.map f) : xs = [] := by cases xs with | nil => rfl | cons _ _ => cases h
end Gw

namespace Gw
open PySem L2
variable {ρ : Ent}
section
variable {X : Cx} {a b c : Expr} {ta tb tc te : TE} {aa ab ac ae : AE} {pos : Pos} {K : PySem.W.Frag} {i : Nat} {x : Str} {pos' : Pos} {B : Ent} {σ : St} {H G H1 G1 H2 G2 : Hp} {Γ Γ1 Γ2 : Sl} {M M1 M2 : Mem}
/-! a, b, c = e1, e2, e3 -/
def aPar3 (aa : AA) (i j l : Nat) (A : AEnds) (Γ : Sl) (M : Mem) : Prop := aa Γ M fun ds Γ1 M1 => match ds with
  | [d, e, f] => A.nx (((Γ1.set i (.dat d)).set j (.dat e)).set l (.dat f)) M1
  | _ => False
theorem qs_par3 {y z : Str} {tr : TA} {ar : AA} {px py pz pt spos : Pos} {kt k2 pt2} (i j l : Nat) (hN : X.N.Nodup) (ha : QA X ρ [a, b, c] tr ar) (hi : X.N[i]? = some x := by rfl) (hj : X.N[j]? = some y := by rfl) (hl : X.N[l]? = some z := by rfl) (hij : i ≠ j := by decide) (hil : i ≠ l := by decide) (hjl : j ≠ l := by decide)
    (hx : X.env.scope.names.lookup x = some .local := by rfl) (hy : X.env.scope.names.lookup y = some .local := by rfl) (hz : X.env.scope.names.lookup z = some .local := by rfl) (hw : swappedStores [.Tuple [.Name x px, .Name y py, .Name z pz] kt pt] (.Tuple [a, b, c] k2 pt2) X.env = pure (some [x, y, z]) := by rfl)
    (hs : swapsWithSole [.Tuple [.Name x px, .Name y py, .Name z pz] kt pt] (.Tuple [a, b, c] k2 pt2) spos.line X.env = pure false := by rfl) (hc : X.calm = true := by rfl) :
    QS X ρ (.Assign [.Tuple [.Name x px, .Name y py, .Name z pz] kt pt] (.Tuple [a, b, c] k2 pt2) spos) (tPar3 i j l tr) (aPar3 ar i j l) :=
  ⟨ps_par3 hc hN hi hj hl hij hil hjl hx hy hz ha.pe hw hs, fun B σ H G Γ M A E k h s => ha.rd B σ H G Γ M _ _ k h fun vs H1 G1 Γ1 M1 ds k1 e1 rl h1 => by
    split at h1
    · rename_i d e f
      obtain ⟨v, r, rfl, rv, rn⟩ := repL_cons.mp rl
      obtain ⟨u, r', rfl, ru, rn'⟩ := repL_cons.mp rn
      obtain ⟨t, r'', rfl, rt, rn''⟩ := repL_cons.mp rn'
      have := repL_nil.mp rn''; subst this
      exact ⟨v, u, t, rfl, s.nx _ H1 G1 _ M1 (((k1.setD rv).setD ru).setD rt) h1⟩
    · exact h1.elim⟩
/-! x *= e -/
def aAugC (i : Nat) (C : Int → Int → Prop) (f : Int → Int → Int) (aa : AE) (A : AEnds) (Γ : Sl) (M : Mem) : Prop := match Γ[i]? with
  | some (.dat (.int n)) => aa Γ M fun r Γ1 M1 => match r with
    | .dat (.int m) => C n m ∧ A.nx (Γ1.set i (.dat (.int (f n m)))) M1
    | _ => False
  | _ => False
theorem rd_augC {i : Nat} {C : Int → Int → Prop} {f : Int → Int → Int} (ha : RdE K ρ ta aa) : RdS K ρ (tAug i ta (rI C fun i j => .int (f i j))) (aAugC i C f aa) := fun B σ H G Γ M A E k h s => by
  unfold aAugC at h
  split at h
  · rename_i n e1
    obtain ⟨v, h1, h2⟩ := k.dat i _ e1
    have ev : v = .int n := by rw [Rep] at h2; exact h2
    refine ⟨v, h1, ha B σ H G Γ M _ _ k h fun u H1 G1 Γ1 M1 r k1 e2 rr hq => ?_⟩
    split at hq
    · rename_i m
      have eu : u = .int m := by have := rr; simp only [RepR, Rep] at this; exact this
      exact ⟨n, m, ev, eu, hq.1, s.nx _ H1 G1 _ M1 (k1.setD (by rw [Rep])) hq.2⟩
    · exact hq.elim
  · exact h.elim
theorem qs_augM (i : Nat) (hN : X.N.Nodup) (h : QE X ρ a ta aa) (hi : X.N[i]? = some x := by rfl) (hx : Loc X.env.scope x := by first | exact Or.inl rfl | exact Or.inr rfl) (hf : X.fn x = true ∨ X.env.scope.names.lookup x = some .local := by first | exact .inl rfl | exact .inr rfl | assumption) :
    QS X ρ (.AugAssign (.Name x pos') .Mult a pos) (tAug i ta (rI CMul fun i j => .int (i * j))) (aAugC i CMul (fun i j => i * j) aa) := ⟨ps_aug hN hi hx h.pe iop_mul hf, rd_augC h.rd⟩
/-! great powers -/
def CPowW (i j : Int) : Prop := 0 ≤ j ∧ (Builtin.Int.intBits i : Int) * j ≤ 2 ^ 27
theorem op_powW : OpR X (binaryOp .Pow) (rI CPowW fun i j => .int (i ^ j.toNat)) := opI fun _ _ _ _ _ _ _ hc q => PyProof.Rows.pow_int hc.1 hc.2 q
theorem q_powW (ha : QE X ρ a ta aa) (hb : QE X ρ b tb ab) : QE X ρ (.BinOp a .Pow b pos) (tOp (rI CPowW fun i j => .int (i ^ j.toNat)) ta tb) (aOp (aIC CPowW fun i j => .int (i ^ j.toNat)) aa ab) := q_op op_powW (rd_IC fun _ _ _ => by rw [Rep]) ha hb
/-! a constant of the module -/
structure Glob (K : PySem.W.Frag) (mg : Str → Option Value) (x : Str) (d : D) : Prop where
  ex : ∃ v u, mg x = some u ∧ RelV v u ∧ ∀ G, Rep K G d v
def tAny (K : PySem.W.Frag) (d : D) : TE := fun _ H Q => ∀ v, (∀ G, Rep K G d v) → Q v H
theorem q_glob {mg : Str → Option Value} {d : D} (h : Glob K mg x d) (hg : Gl X x := by rfl) (hmg : X.mg = mg := by rfl) (hK : X.K = K := by rfl) (hd : (x == ("__debug__" : Str)) = false := by decide) : QE X ρ (.Name x pos) (tAny K d) (aC d) := by
  subst hK; subst hmg
  obtain ⟨v, u, hm, r, hr⟩ := h.ex
  refine ⟨⟨fun pins s σ H Q I q => (pe_glob hg hm r hd).run pins s σ H Q I (q v hr)⟩, fun B σ H G Γ M Q R k h' q => fun v hv => q v H G Γ M (.dat d) k .refl (hv G) h'⟩
theorem glob_int {mg : Str → Option Value} {n : Int} {t : Tok} (h : mg x = some (.int n t)) : Glob K mg x (.int n) := ⟨.int n, _, h, ⟨t, rfl⟩, fun _ => by rw [Rep]⟩
theorem glob_tup {mg : Str → Option Value} {p : Addr} {ds : List D} {o : Obj} {its : Array Value} {n : Nat} {xs : List V} (h : mg x = some (.ref p)) (hl : K.lookup p = some o) (hc : o.cls = .type "tuple") (hd : o.data = .seq its n) (hz : its.size ≤ sizeLine) (hv : Vals xs its.toList) (hr : ∀ G, RepL K G ds xs) :
    Glob K mg x (.tup ds) := ⟨.ref p, _, h, rfl, fun G => rep_tup.mpr ⟨p, xs, rfl, .inr ⟨o, its, n, hl, hc, hd, hz, hv⟩, hr G⟩⟩
/-! calls with keywords in any order, behind places or not -/
def permL {α : Type} (π : List Nat) (xs : List α) : List α := π.filterMap (xs[·]?)
theorem RepL.perm {ds : List D} {vs : List V} (π : List Nat) (h : RepL K G ds vs) : RepL K G (permL π ds) (permL π vs) := by
  induction π with
  | nil => exact repL_nil.mpr rfl
  | cons n π ih =>
    unfold permL at *
    cases e : ds[n]? with
    | none =>
      have e2 : vs[n]? = none := by rw [List.getElem?_eq_none_iff] at *; rw [h.length]; exact e
      rw [List.filterMap_cons, List.filterMap_cons, e, e2]; exact ih
    | some d =>
      obtain ⟨v, e2, r⟩ := h.get e
      rw [List.filterMap_cons, List.filterMap_cons, e, e2]; exact repL_cons.mpr ⟨v, _, rfl, r, ih⟩
theorem vals_perm {vs : List V} {us : List Value} (π : List Nat) (h : Vals vs us) : Vals (permL π vs) (permL π us) := by
  induction π with
  | nil => exact .nil
  | cons n π ih =>
    unfold permL at *
    cases e : vs[n]? with
    | none =>
      have e2 : us[n]? = none := by rw [List.getElem?_eq_none_iff] at *; rw [← h.length]; exact e
      rw [List.filterMap_cons, List.filterMap_cons, e, e2]; exact ih
    | some d =>
      obtain ⟨v, e2, r⟩ := h.get e
      rw [List.filterMap_cons, List.filterMap_cons, e, e2]; exact .cons r ih
structure PCal (P : Program) (w : World) (K : PySem.W.Frag) (mg : Str → Option Value) (base : Heap) (x : Str) (ps : List Str) (m : Nat) (ks : List Str) (π : List Nat) (k : Nat) (S : ASp) : Prop where
  ex : ∃ f fd, FnG P w K mg base CX0 k f fd ps (spA K ps.length S) ∧ mg x = some (.ref f) ∧ PySem.W.keepIn K (.ref f) = true ∧
    (∀ (s : Shared) (us ws : List Value), K.In s.heap → us.length = m → ws.length = ks.length → BindsTo s fd ⟨us, ks.zip ws⟩ (ps.zip (permL π (us ++ ws)))) ∧ Ar ps.length S
def tCallP (sp : Sp) (m n : Nat) (π : List Nat) (t tk : TA) : TE := fun σ H Q => t σ H fun vs H1 => tk σ H1 fun zs H2 => vs.length = m ∧ zs.length = n ∧ sp (permL π (vs ++ zs)) H2 Q E0
def aCallP (S : ASp) (m n : Nat) (π : List Nat) (aa ak : AA) (Γ : Sl) (M : Mem) (Q : Ret → Sl → Mem → Prop) : Prop := aa Γ M fun ds Γ1 M1 => ak Γ1 M1 fun es Γ2 M2 => ds.length = m ∧ es.length = n ∧ ap S (permL π (ds ++ es)) M2 (fun r M3 => Q r Γ2 M3) ⟨⟩
theorem rd_callP {n m n' : Nat} {π : List Nat} {S : ASp} {tr tk : TA} {ar ak : AA} (hn : Ar n S) (ha : RdA K ρ tr ar) (hk : RdA K ρ tk ak) : RdE K ρ (tCallP (spA K n S) m n' π tr tk) (aCallP S m n' π ar ak) := by
  intro B σ H G Γ M Q R k h q
  refine ha B σ H G Γ M _ _ k h fun vs H1 G1 Γ1 M1 ds k1 e1 rl h1 => ?_
  refine hk B σ H1 G1 Γ1 M1 _ _ k1 h1 fun zs H2 G2 Γ2 M2 es k2 e2 rz h2 => ?_
  obtain ⟨l1, l2, h2⟩ := h2
  have rp := ((rl.mono e2.g).append rz).perm π
  refine ⟨by rw [rl.length]; exact l1, by rw [rz.length]; exact l2, G2, M2, _, by rw [rp.length]; exact hn _ _ _ h2, k2.ex, k2.nd, k2.ms, rp, _, h2, fun r M' v H' G' hq p rr => ?_⟩
  obtain ⟨k3, e3, r3⟩ := k2.call p rr
  exact q _ H' G' Γ2 M' r k3 ((e1.trans e2).trans e3) (r3.old (fun x z => e1.nn x (e2.nn x z))) hq
section
variable {P : Program} {w : World} {mg : Str → Option Value} {base : Heap} {k n m : Nat} {ps ks : List Str} {π : List Nat} {S : ASp} {p : Pos} {es : List Expr} {tr tk : TA} {ar ak : AA} {kws : List Keyword}
theorem q_callP0 (C : PCal P w K mg base x ps 0 ks π k S) (room : Room k X.A) (gd : X.A.guards = some []) (hkw : QK X ρ kws tk ak) (hX : At X P w K mg base := by exact ⟨rfl, rfl, rfl, rfl, rfl⟩) (hg : Gl X x := by rfl)
    (hall : (backToKw pos (keywordEach kws X.env)).all (·.1.isSome) = true := by rfl) (hks : (backToKw pos (keywordEach kws X.env)).filterMap (·.1) = ks := by rfl)
    (hdb : (x == ("__debug__" : Str)) = false := by decide) (hpl : ((backTo pos (starEach [] X.env)).any (·.1) || (backToKw pos (keywordEach kws X.env)).any (·.1.isNone)) = false := by rfl) :
    QE X ρ (.Call (.Name x p) [] kws pos) (tCallP (spA K ps.length S) 0 ks.length π tNil tk) (aCallP S 0 ks.length π aNil ak) := by
  obtain ⟨f, fd, F, hm, hk, hb, hn⟩ := C.ex
  obtain ⟨h1, h2, h3, h4, h5⟩ := hX
  subst h1 h2 h3 h4 h5
  refine ⟨⟨fun pins s σ H Q I h => wpAny_Call_Name_kw (ld_glob I hg hm ?_ hdb)⟩, rd_callP hn rd_nil hkw.rd⟩
  refine PySem.W.callWith_KW0 (h₀ := X.base) I.ok.mod.kin hk hall (thn (hkw.pe.run pos pins s σ H _ I h) ?_) hpl
  rintro ws s2 ⟨zs, H2, I2, rz, l1, l2, q⟩
  rw [hks]
  exact ⟨I2.kIn, callG F room gd pass0 I2 (hb s2 [] ws I2.kIn rfl (by rw [← rz.length]; exact l2)) (vals_perm π (.append .nil rz)) q⟩
theorem q_callP (C : PCal P w K mg base x ps m ks π k S) (room : Room k X.A) (gd : X.A.guards = some []) (ha : QA X ρ (a :: es) tr ar) (hkw : QK X ρ kws tk ak) (hX : At X P w K mg base := by exact ⟨rfl, rfl, rfl, rfl, rfl⟩) (hg : Gl X x := by rfl)
    (hall : (backToKw pos (keywordEach kws X.env)).all (·.1.isSome) = true := by rfl) (hks : (backToKw pos (keywordEach kws X.env)).filterMap (·.1) = ks := by rfl) (he : starEach (a :: es) X.env = (false, eval a X.env) :: starEach es X.env := by rfl)
    (hdb : (x == ("__debug__" : Str)) = false := by decide) (hpl : ((backTo pos (starEach (a :: es) X.env)).any (·.1) || (backToKw pos (keywordEach kws X.env)).any (·.1.isNone)) = false := by rfl) :
    QE X ρ (.Call (.Name x p) (a :: es) kws pos) (tCallP (spA K ps.length S) m ks.length π tr tk) (aCallP S m ks.length π ar ak) := by
  obtain ⟨f, fd, F, hm, hk, hb, hn⟩ := C.ex
  obtain ⟨h1, h2, h3, h4, h5⟩ := hX
  subst h1 h2 h3 h4 h5
  refine ⟨⟨fun pins s σ H Q I h => wpAny_Call_Name_kw (ld_glob I hg hm ?_ hdb)⟩, rd_callP hn ha.rd hkw.rd⟩
  refine PySem.W.callWith_KW (h₀ := X.base) I.ok.mod.kin hk hall (thn (ha.pe.run pos pins s σ H _ I h) ?_) hpl he
  rintro us s1 ⟨vs, H1, I1, r1, q1⟩
  refine thn (hkw.pe.run pos pins s1 σ H1 _ I1 q1) ?_
  rintro ws s2 ⟨zs, H2, I2, rz, l1, l2, q⟩
  rw [hks]
  exact ⟨I2.kIn, callG F room gd pass0 I2 (hb s2 us ws I2.kIn (by rw [← r1.length]; exact l1) (by rw [← rz.length]; exact l2)) (vals_perm π (r1.append rz)) q⟩
end
end
end Gw

namespace Gw
open PySem L2
variable {ρ : Ent}
/-! ### how long a shown thing is at most -/
mutual
def wid : D → Nat
  | .non => 4
  | .bl _ => 5
  | .int i => i.natAbs.log2 + 2
  | .str x => (reprText x).length
  | .tup ds => widL ds + 3
  | .lst ds => widL ds + 3
  | .scr ds => widL ds + 3
  | .ref _ => 4
  | .dct _ _ => 4
  | .exc _ _ _ => 4
  | .dcT _ _ => 4
def widL : List D → Nat
  | [] => 0
  | d :: ds => wid d + 2 + widL ds
end
mutual
theorem shown_wid : ∀ d : D, (toPy d).shown.length ≤ wid d
  | .non => by rw [toPy, PyData.shown, wid]; decide
  | .bl b => by rw [toPy, PyData.shown, wid]; cases b <;> decide
  | .int i => by
    rw [toPy, PyData.shown, wid]
    have h := int_text_length_le (a := i) (k := i.natAbs.log2 + 1) (by omega) (by omega)
    have e : (Str.ofString (toString i)).length = (toString i).length := by
      rw [Str.ofString_eq_toList]
      show ((toString i).toList.map Char.toNat).toArray.size = _
      rw [List.size_toArray, List.length_map]; exact String.length_toList
    rw [e]; exact h
  | .str x => by rw [toPy, PyData.shown, wid]; exact Nat.le_refl _
  | .ref _ => by rw [toPy, PyData.shown, wid]; decide
  | .dct _ _ => by rw [toPy, PyData.shown, wid]; decide
  | .exc _ _ _ => by rw [toPy, PyData.shown, wid]; decide
  | .dcT _ _ => by rw [toPy, PyData.shown, wid]; decide
  | .tup ds => by
    rw [toPy, PyData.shown, wid]
    have := tupleText_len_le (PyData.shownAll (toPyL ds))
    have := shownL_wid ds
    omega
  | .lst ds => by
    rw [toPy, PyData.shown, wid]
    have := listText_len_le (PyData.shownAll (toPyL ds))
    have := shownL_wid ds
    omega
  | .scr ds => by
    rw [toPy, PyData.shown, wid]
    have := listText_len_le (PyData.shownAll (toPyL ds))
    have := shownL_wid ds
    omega
theorem shownL_wid : ∀ ds : List D, ((PyData.shownAll (toPyL ds)).map (·.length)).sum + 2 * (PyData.shownAll (toPyL ds)).length ≤ widL ds
  | [] => by rw [toPyL, PyData.shownAll, widL]; decide
  | d :: ds => by
    rw [toPyL, PyData.shownAll, widL, List.map_cons, List.sum_cons, List.length_cons]
    have := shown_wid d
    have := shownL_wid ds
    omega
end
/-! ints that are not too great -/
mutual
def fine : D → Bool
  | .int i => decide (i.natAbs.log2 < 1920)
  | .tup ds => fineL ds
  | .lst ds => fineL ds
  | .scr ds => fineL ds
  | .ref _ => false
  | .dct _ _ => false
  | .exc _ _ _ => false
  | .dcT _ _ => false
  | .non => true
  | .bl _ => true
  | .str _ => true
def fineL : List D → Bool
  | [] => true
  | d :: ds => fine d && fineL ds
end
mutual
theorem fine_plain : ∀ {d : D}, fine d = true → plain d = true ∧ (toPy d).showable = true
  | .int i, h => by rw [fine] at h; rw [plain, toPy, PyData.showable]; exact ⟨rfl, h⟩
  | .tup ds, h => by rw [fine] at h; rw [plain, toPy, PyData.showable]; exact fineL_plain h
  | .lst ds, h => by rw [fine] at h; rw [plain, toPy, PyData.showable]; exact fineL_plain h
  | .scr ds, h => by rw [fine] at h; rw [plain, toPy, PyData.showable]; exact fineL_plain h
  | .ref _, h => by rw [fine] at h; cases h
  | .dct _ _, h => by rw [fine] at h; cases h
  | .exc _ _ _, h => by rw [fine] at h; cases h
  | .dcT _ _, h => by rw [fine] at h; cases h
  | .non, _ => by rw [plain, toPy, PyData.showable]; exact ⟨rfl, rfl⟩
  | .bl _, _ => by rw [plain, toPy, PyData.showable]; exact ⟨rfl, rfl⟩
  | .str _, _ => by rw [plain, toPy, PyData.showable]; exact ⟨rfl, rfl⟩
theorem fineL_plain : ∀ {ds : List D}, fineL ds = true → plainL ds = true ∧ PyData.showableAll (toPyL ds) = true
  | [], _ => by rw [plainL, toPyL, PyData.showableAll]; exact ⟨rfl, rfl⟩
  | d :: ds, h => by
    rw [fineL, Bool.and_eq_true] at h
    obtain ⟨a1, a2⟩ := fine_plain h.1
    obtain ⟨b1, b2⟩ := fineL_plain h.2
    rw [plainL, toPyL, PyData.showableAll, a1, a2, b1, b2]; exact ⟨rfl, rfl⟩
end
mutual
def dep : D → Nat
  | .tup ds => depL ds + 1
  | .lst ds => depL ds + 1
  | .scr ds => depL ds + 1
  | .int _ => 0
  | .ref _ => 0
  | .dct _ _ => 0
  | .exc _ _ _ => 0
  | .dcT _ _ => 0
  | .non => 0
  | .bl _ => 0
  | .str _ => 0
def depL : List D → Nat
  | [] => 0
  | d :: ds => max (dep d) (depL ds)
end
mutual
theorem dep_py : ∀ d : D, (toPy d).depth = dep d
  | .tup ds => by rw [toPy, PyData.depth, dep, depL_py]
  | .lst ds => by rw [toPy, PyData.depth, dep, depL_py]
  | .scr ds => by rw [toPy, PyData.depth, dep, depL_py]
  | .int _ => by rw [toPy, PyData.depth, dep]
  | .ref _ => by rw [toPy, PyData.depth, dep]
  | .dct _ _ => by rw [toPy, PyData.depth, dep]
  | .exc _ _ _ => by rw [toPy, PyData.depth, dep]
  | .dcT _ _ => by rw [toPy, PyData.depth, dep]
  | .non => by rw [toPy, PyData.depth, dep]
  | .bl _ => by rw [toPy, PyData.depth, dep]
  | .str _ => by rw [toPy, PyData.depth, dep]
theorem depL_py : ∀ ds : List D, PyData.depthAll (toPyL ds) = depL ds
  | [] => by rw [toPyL, PyData.depthAll, depL]
  | d :: ds => by rw [toPyL, PyData.depthAll, depL, dep_py, depL_py]
end
theorem sh_of {d : D} (h1 : fine d = true) (h2 : dep d ≤ 64) (h3 : wid d ≤ 16777216) : shOk d = true := by
  obtain ⟨a, b⟩ := fine_plain h1
  have := shown_wid d
  simp only [shOk, a, b, dep_py, Bool.true_and, Bool.and_eq_true, decide_eq_true_eq, size_val]
  omega
/-! ### comparing data: texts in it are texts -/
mutual
def safe : D → Bool
  | .str x => PyData.strOk x
  | .tup ds => safeL ds
  | .lst ds => safeL ds
  | .scr ds => safeL ds
  | .ref _ => false
  | .dct _ _ => false
  | .exc _ _ _ => false
  | .dcT _ _ => false
  | .int _ => true
  | .non => true
  | .bl _ => true
def safeL : List D → Bool
  | [] => true
  | d :: ds => safe d && safeL ds
end
mutual
theorem safe_lay : ∀ {d : D}, safe d = true → plain d = true ∧ (toPy d).canLay0 = true
  | .int i, _ => by rw [plain, toPy, PyData.canLay0]; exact ⟨rfl, rfl⟩
  | .str x, h => by rw [safe] at h; rw [plain, toPy, PyData.canLay0]; exact ⟨rfl, h⟩
  | .tup ds, h => by rw [safe] at h; rw [plain, toPy, PyData.canLay0]; exact safeL_lay h
  | .lst ds, h => by rw [safe] at h; rw [plain, toPy, PyData.canLay0]; exact safeL_lay h
  | .scr ds, h => by rw [safe] at h; rw [plain, toPy, PyData.canLay0]; exact safeL_lay h
  | .ref _, h => by rw [safe] at h; cases h
  | .dct _ _, h => by rw [safe] at h; cases h
  | .exc _ _ _, h => by rw [safe] at h; cases h
  | .dcT _ _, h => by rw [safe] at h; cases h
  | .non, _ => by rw [plain, toPy, PyData.canLay0]; exact ⟨rfl, rfl⟩
  | .bl _, _ => by rw [plain, toPy, PyData.canLay0]; exact ⟨rfl, rfl⟩
theorem safeL_lay : ∀ {ds : List D}, safeL ds = true → plainL ds = true ∧ PyData.canLayAll0 (toPyL ds) = true
  | [], _ => by rw [plainL, toPyL, PyData.canLayAll0]; exact ⟨rfl, rfl⟩
  | d :: ds, h => by
    rw [safeL, Bool.and_eq_true] at h
    obtain ⟨a1, a2⟩ := safe_lay h.1
    obtain ⟨b1, b2⟩ := safeL_lay h.2
    rw [plainL, toPyL, PyData.canLayAll0, a1, a2, b1, b2]; exact ⟨rfl, rfl⟩
end
theorem cmp_of {d : D} (h1 : safe d = true) (h2 : dep d ≤ 64) : cmpOk d = true := by
  obtain ⟨a, b⟩ := safe_lay h1
  simp only [cmpOk, SeqAt.shaped, a, b, dep_py, Bool.true_and, decide_eq_true_eq]
  exact h2
mutual
theorem eqD_refl : ∀ {d : D}, plain d = true → eqD d d = true
  | .non, _ => by simp [eqD, toPy, PyData.eqv]
  | .bl b, _ => by simp [eqD, toPy, PyData.eqv]
  | .int i, _ => by simp [eqD, toPy, PyData.eqv]
  | .str x, _ => by simp [eqD, toPy, PyData.eqv]
  | .ref _, h => by rw [plain] at h; cases h
  | .dct _ _, h => by rw [plain] at h; cases h
  | .exc _ _ _, h => by rw [plain] at h; cases h
  | .dcT _ _, h => by rw [plain] at h; cases h
  | .tup ds, h => by rw [plain] at h; unfold eqD; rw [toPy, PyData.eqv]; exact eqDL_refl h
  | .lst ds, h => by rw [plain] at h; unfold eqD; rw [toPy, PyData.eqv]; exact eqDL_refl h
  | .scr ds, h => by rw [plain] at h; unfold eqD; rw [toPy, PyData.eqv]; exact eqDL_refl h
theorem eqDL_refl : ∀ {ds : List D}, plainL ds = true → PyData.eqvAll (toPyL ds) (toPyL ds) = true
  | [], _ => by rw [toPyL, PyData.eqvAll]
  | d :: ds, h => by
    rw [plainL, Bool.and_eq_true] at h
    have a := eqD_refl h.1
    unfold eqD at a
    rw [toPyL, PyData.eqvAll, a, eqDL_refl h.2]; rfl
end
/-! shown things are texts -/
theorem ok_app {x y : Str} (h1 : PyData.strOk x = true) (h2 : PyData.strOk y = true) : PyData.strOk (x ++ y) = true := by
  unfold PyData.strOk at *
  show (x.cps ++ y.cps).all _ = true
  rw [Array.all_append, h1, h2]; rfl
theorem ok_str (s : String) : PyData.strOk (Str.ofString s) = true := by
  unfold PyData.strOk
  rw [Str.ofString_eq_toList, List.all_toArray, List.all_eq_true]
  intro c hc
  obtain ⟨ch, _, rfl⟩ := List.mem_map.mp hc
  have h := ch.valid
  simp only [decide_eq_true_eq]
  show ch.val.toNat < 1114112
  rcases h with h | h
  · have : ch.val.toNat < 0xd800 := h
    omega
  · exact h.2
theorem ok_join {sep : Str} (hs : PyData.strOk sep = true) : ∀ ts : List Str, (∀ t ∈ ts, PyData.strOk t = true) → PyData.strOk (Str.join sep ts) = true
  | [], _ => by simp [Str.join, Str.empty, PyData.strOk]
  | [t], h => h t List.mem_cons_self
  | t :: u :: r, h => by
    show PyData.strOk (t ++ sep ++ Str.join sep (u :: r)) = true
    exact ok_app (ok_app (h t List.mem_cons_self) hs) (ok_join hs (u :: r) fun x hx => h x (List.mem_cons_of_mem _ hx))
theorem ok_from : ∀ (ts : List Str) (k : Nat) (acc : Str), PyData.strOk acc = true → (∀ t ∈ ts, PyData.strOk t = true) → PyData.strOk (textFrom k acc ts) = true
  | [], _, _, h, _ => h
  | t :: r, k, acc, h, hr => by
    show PyData.strOk (textFrom (k + 1) (acc ++ (if k > 0 then ", " else "" : String) ++ t) r) = true
    exact ok_from r (k + 1) _ (ok_app (ok_app h (ok_str _)) (hr t List.mem_cons_self)) fun x hx => hr x (List.mem_cons_of_mem _ hx)
mutual
def safeS : D → Bool
  | .str x => PyData.strOk (reprText x)
  | .tup ds => safeSL ds
  | .lst ds => safeSL ds
  | .scr ds => safeSL ds
  | .ref _ => true
  | .dct _ _ => true
  | .exc _ _ _ => true
  | .dcT _ _ => true
  | .int _ => true
  | .non => true
  | .bl _ => true
def safeSL : List D → Bool
  | [] => true
  | d :: ds => safeS d && safeSL ds
end
mutual
theorem ok_shown : ∀ {d : D}, safeS d = true → PyData.strOk (toPy d).shown = true
  | .non, _ => by rw [toPy, PyData.shown]; exact ok_str _
  | .ref _, _ => by rw [toPy, PyData.shown]; exact ok_str _
  | .dct _ _, _ => by rw [toPy, PyData.shown]; exact ok_str _
  | .exc _ _ _, _ => by rw [toPy, PyData.shown]; exact ok_str _
  | .dcT _ _, _ => by rw [toPy, PyData.shown]; exact ok_str _
  | .bl b, _ => by rw [toPy, PyData.shown]; cases b <;> exact ok_str _
  | .int i, _ => by rw [toPy, PyData.shown]; exact ok_str _
  | .str x, h => by rw [safeS] at h; rw [toPy, PyData.shown]; exact h
  | .tup ds, h => by
    rw [safeS] at h; rw [toPy, PyData.shown]
    exact ok_app (ok_app (ok_str _) (ok_join (ok_str _) _ (okL_shown h))) (ok_str _)
  | .lst ds, h => by
    rw [safeS] at h; rw [toPy, PyData.shown]
    exact ok_app (ok_from _ _ _ (ok_str _) (okL_shown h)) (ok_str _)
  | .scr ds, h => by
    rw [safeS] at h; rw [toPy, PyData.shown]
    exact ok_app (ok_from _ _ _ (ok_str _) (okL_shown h)) (ok_str _)
theorem okL_shown : ∀ {ds : List D}, safeSL ds = true → ∀ t ∈ PyData.shownAll (toPyL ds), PyData.strOk t = true
  | [], _, t, h => by rw [toPyL, PyData.shownAll] at h; cases h
  | d :: ds, hs, t, h => by
    rw [safeSL, Bool.and_eq_true] at hs
    rw [toPyL, PyData.shownAll] at h
    rcases List.mem_cons.mp h with e | e
    · rw [e]; exact ok_shown hs.1
    · exact okL_shown hs.2 t e
end
/-! ints in a row -/
theorem wid_ints {k : Nat} : ∀ {ns : List Int}, (∀ n ∈ ns, n.natAbs < 2 ^ k) → 0 < k → widL (ns.map .int) ≤ ns.length * (k + 4)
  | [], _, _ => by simp [widL]
  | n :: ns, h, hk => by
    rw [List.map_cons, widL, wid, List.length_cons]
    have a := log2_le (h n List.mem_cons_self) hk
    have b := wid_ints (fun x hx => h x (List.mem_cons_of_mem _ hx)) hk (ns := ns)
    rw [Nat.add_mul]; omega
theorem fine_ints {k : Nat} : ∀ {ns : List Int}, (∀ n ∈ ns, n.natAbs < 2 ^ k) → 0 < k → k ≤ 1920 → fineL (ns.map .int) = true
  | [], _, _, _ => by simp [fineL]
  | n :: ns, h, hk, hk2 => by
    rw [List.map_cons, fineL, fine]
    have a := log2_le (h n List.mem_cons_self) hk
    rw [fine_ints (fun x hx => h x (List.mem_cons_of_mem _ hx)) hk hk2, Bool.and_true, decide_eq_true_eq]; omega
theorem dep_ints : ∀ ns : List Int, depL (ns.map .int) = 0
  | [] => by simp [depL]
  | n :: ns => by rw [List.map_cons, depL, dep, dep_ints ns]; rfl
theorem safeS_ints : ∀ ns : List Int, safeSL (ns.map .int) = true
  | [] => by simp [safeSL]
  | n :: ns => by rw [List.map_cons, safeSL, safeS, safeS_ints ns]; rfl
theorem sh_ints_t {k : Nat} {ns : List Int} (h : ∀ n ∈ ns, n.natAbs < 2 ^ k) (hk : 0 < k) (hk2 : k ≤ 1920) (hl : ns.length ≤ 4000) : shOk (.tup (ns.map .int)) = true := by
  refine sh_of (by rw [fine]; exact fine_ints h hk hk2) (by rw [dep, dep_ints]; decide) ?_
  rw [wid]
  have a := wid_ints h hk
  have b : ns.length * (k + 4) ≤ 4000 * 1924 := Nat.mul_le_mul hl (by omega)
  omega
end Gw

namespace Gw
open PySem L2 RZ RT
variable {ρ : Ent}
section
variable {X : Cx} {tg a b c : Expr} {ta tb tc te : TE} {aa ab ac ae : AE} {pos : Pos} {K : PySem.W.Frag} {i : Nat} {x : Str} {pos' : Pos} {B : Ent} {σ : St} {H G H1 G1 H2 G2 : Hp} {Γ Γ1 Γ2 : Sl} {M M1 M2 : Mem}
/-! ### zip, reversed, enumerate -/
def zipD (xs ys : List D) : List D := List.zipWith (fun x y => D.tup [x, y]) xs ys
def aIzip (ar : AA) (Γ : Sl) (M : Mem) (Q : List D → Sl → Mem → Prop) : Prop := ar Γ M fun ds Γ1 M1 => match ds with
  | [.tup xs, .tup ys] => Q (zipD xs ys) Γ1 M1
  | [.lst xs, .lst ys] => Q (zipD xs ys) Γ1 M1
  | _ => False
theorem zipD_get {xs ys : List D} {i : Nat} {d : D} (h : (zipD xs ys)[i]? = some d) : ∃ x y, xs[i]? = some x ∧ ys[i]? = some y ∧ d = .tup [x, y] := by
  unfold zipD at h
  rw [List.getElem?_zipWith] at h
  cases e1 : xs[i]? with
  | none => rw [e1] at h; simp at h
  | some x =>
    cases e2 : ys[i]? with
    | none => rw [e1, e2] at h; simp at h
    | some y => rw [e1, e2] at h; simp at h; exact ⟨x, y, rfl, rfl, h.symm⟩
theorem walk_zipT {a b : Addr} {xs ys : List V} {n : Nat} (hn : n = min xs.length ys.length) : Walk (ItzT K a b) n (fun H => SqT K H a xs ∧ SqT K H b ys) (YPair (fun i => xs[i]?) (fun i => ys[i]?)) := by
  subst hn
  refine ⟨fun i _ hi q => ?_, fun _ q => ⟨xs, ys, q.1, q.2, by omega⟩, fun i H v H' _ q y => ?_⟩
  · have l1 : i < xs.length := by omega
    have l2 : i < ys.length := by omega
    exact ⟨xs, ys, xs[i], ys[i], q.1, q.2, by simp [l1], by simp [l2]⟩
  · obtain ⟨T, u, z, e1, e2, e3, e4, e5⟩ := y
    exact ⟨T, u, z, e1, e2, e3, e4 xs q.1, e5 ys q.2⟩
theorem yld_pair {xs ys : List D} {us ws : List V} {i : Nat} {H' : Hp} {v : V} {d : D} (r1 : RepL K G xs us) (r2 : RepL K G ys ws) (hd : (zipD xs ys)[i]? = some d) (y : YPair (fun i => us[i]?) (fun i => ws[i]?) i H v H') : Yld K G H H' d v := by
  obtain ⟨d1, d2, e1, e2, rfl⟩ := zipD_get hd
  obtain ⟨T, u, z, ev, hT, eH, f1, f2⟩ := y
  obtain ⟨u', g1, q1⟩ := r1.get e1
  obtain ⟨z', g2, q2⟩ := r2.get e2
  have f1 : us[i]? = some u := f1
  have f2 : ws[i]? = some z := f2
  have eu : u' = u := by rw [g1] at f1; exact Option.some.inj f1
  have ez : z' = z := by rw [g2] at f2; exact Option.some.inj f2
  subst eu; subst ez
  exact .inr ⟨T, [u', z'], [d1, d2], ev, hT, eH, rfl, repL_cons.mpr ⟨_, _, rfl, q1, RepL.one q2⟩⟩
theorem qi_zip {tpos p : Pos} {elts : List Expr} {kk : Nat} {tr : TA} {ar : AA} (hm : X.mg "zip" = none) (ha : QA X ρ [a, b] tr ar) (hg : Gl X "zip" := by rfl) (hs : starEach [a, b] X.env = (false, eval a X.env) :: starEach [b] X.env := by rfl) (hpl : (backTo pos (starEach [b] X.env)).any (·.1) = false := by rfl) (hK : X.K = K := by rfl) :
    QI X ρ (.Tuple elts kk tpos) (.Call (.Name "zip" p) [a, b] [] pos) (iZipA K tr) (aIzip ar) := by
  subst hK
  refine ⟨pi_zipA hg hm ha.pe hs hpl, fun B σ H G Γ M Q R k hh q => ha.rd B σ H G Γ M _ _ k hh fun vs H1 G1 Γ1 M1 ds k1 e1 rl h1 => ?_⟩
  split at h1
  · rename_i xs ys
    obtain ⟨v, r, rfl, rv, rn⟩ := repL_cons.mp rl
    obtain ⟨u, r', rfl, ru, rn'⟩ := repL_cons.mp rn
    have := repL_nil.mp rn'; subst this
    obtain ⟨p1, us, rfl, s1, l1⟩ := rep_tup.mp rv
    obtain ⟨p2, ws, rfl, s2, l2⟩ := rep_tup.mp ru
    refine ⟨p1, p2, us, ws, rfl, .inr ⟨ex_t k1.ex s1, ex_t k1.ex s2, q _ H1 G1 Γ1 M1 _ k1 e1 ⟨_, _, walk_zipT ?_, fun H e => ⟨ex_t e s1, ex_t e s2⟩, fun i H x H' d hd _ y => yld_pair l1 l2 hd y⟩ h1⟩⟩
    unfold zipD; rw [List.length_zipWith, l1.length, l2.length]
  · rename_i xs ys
    obtain ⟨v, r, rfl, rv, rn⟩ := repL_cons.mp rl
    obtain ⟨u, r', rfl, ru, rn'⟩ := repL_cons.mp rn
    have := repL_nil.mp rn'; subst this
    obtain ⟨p1, us, rfl, s1, l1⟩ := rep_lst.mp rv
    obtain ⟨p2, ws, rfl, s2, l2⟩ := rep_lst.mp ru
    refine ⟨p1, p2, us, ws, rfl, .inl ⟨SqL.of (k1.ex _ _ s1), SqL.of (k1.ex _ _ s2), q _ H1 G1 Γ1 M1 _ k1 e1 ⟨_, _, walk_zip ?_, fun H e => ⟨SqL.of (e _ _ s1), SqL.of (e _ _ s2)⟩, fun i H x H' d hd _ y => yld_pair l1 l2 hd y⟩ h1⟩⟩
    unfold zipD; rw [List.length_zipWith, l1.length, l2.length]
  · exact h1.elim
def aIrev (aa : AE) (Γ : Sl) (M : Mem) (Q : List D → Sl → Mem → Prop) : Prop := aa Γ M fun r Γ1 M1 => frz r Γ1 fun d Γ2 => match d with
  | .lst ds => Q ds.reverse Γ2 M1
  | .tup ds => Q ds.reverse Γ2 M1
  | _ => False
theorem walk_revT {p : Addr} {xs : List V} : Walk (ItvT K p xs.length) xs.length (fun H => SqT K H p xs) (fun i H x H' => H' = H ∧ xs[xs.length - 1 - i]? = some x) :=
  ⟨fun i _ hi q => ⟨hi, xs, xs[xs.length - 1 - i]'(by omega), q, by simp [show xs.length - 1 - i < xs.length by omega]⟩, fun _ _ => Nat.le_refl _, fun _ _ _ _ _ q y => ⟨y.1, y.2 xs q⟩⟩
theorem rev_get {ds : List D} {vs : List V} {i : Nat} {d : D} {v : V} (r : RepL K G ds vs) (hd : ds.reverse[i]? = some d) (hv : vs[vs.length - 1 - i]? = some v) : Rep K G d v := by
  have hi : i < ds.length := by simpa using (List.getElem?_eq_some_iff.mp hd).1
  rw [List.getElem?_reverse hi] at hd
  obtain ⟨u, e, q⟩ := r.get hd
  rw [r.length] at hv
  rw [e] at hv; cases hv; exact q
theorem qi_rev {p : Pos} (hm : X.mg "reversed" = none) (h : QE X ρ a ta aa) (hg : Gl X "reversed" := by rfl) (hs : starEach [a] X.env = (false, eval a X.env) :: starEach [] X.env := by rfl) (hK : X.K = K := by rfl) :
    QI X ρ tg (.Call (.Name "reversed" p) [a] [] pos) (iRevA K ta) (aIrev aa) := by
  subst hK
  refine ⟨pi_revA hg hm h.pe hs, fun B σ H G Γ M Q R k hh q => h.rd B σ H G Γ M _ _ k hh fun v H1 G1 Γ1 M1 r k1 e1 rr h1 => ?_⟩
  obtain ⟨G2, Γ2, d, k2, e2, rp, h2⟩ := frz_ok (H0 := H) k1 e1 rr h1
  split at h2
  · rename_i ds
    obtain ⟨p, xs, rfl, hp, rl⟩ := rep_lst.mp rp
    refine ⟨p, xs, rfl, .inl ⟨SqL.of (k2.ex _ _ hp), q _ H1 G2 Γ2 M1 _ k2 e2 ⟨fun H => SqL X.K H p xs, fun i H x H' => H' = H ∧ xs[xs.length - 1 - i]? = some x, ?_, fun H e => SqL.of (e _ _ hp), fun i H x H' d hd _ y => .inl ⟨y.1, rev_get rl hd y.2⟩⟩ h2⟩⟩
    rw [List.length_reverse, ← rl.length]; exact walk_rev
  · rename_i ds
    obtain ⟨p, xs, rfl, hp, rl⟩ := rep_tup.mp rp
    refine ⟨p, xs, rfl, .inr ⟨ex_t k2.ex hp, q _ H1 G2 Γ2 M1 _ k2 e2 ⟨fun H => SqT X.K H p xs, fun i H x H' => H' = H ∧ xs[xs.length - 1 - i]? = some x, ?_, fun H e => ex_t e hp, fun i H x H' d hd _ y => .inl ⟨y.1, rev_get rl hd y.2⟩⟩ h2⟩⟩
    rw [List.length_reverse, ← rl.length]; exact walk_revT
  · exact h2.elim
def enumD (k : Nat) : List D → List D
  | [] => []
  | d :: ds => .tup [.int k, d] :: enumD (k + 1) ds
theorem enumD_get : ∀ {ds : List D} {k i : Nat} {d : D}, (enumD k ds)[i]? = some d → ∃ x, ds[i]? = some x ∧ d = .tup [.int (k + i : Nat), x]
  | [], k, i, d, h => by simp [enumD] at h
  | y :: ds, k, 0, d, h => by simp [enumD] at h; exact ⟨y, rfl, by simpa using h.symm⟩
  | y :: ds, k, i + 1, d, h => by
    rw [enumD, List.getElem?_cons_succ] at h
    obtain ⟨x, e1, e2⟩ := enumD_get h
    exact ⟨x, by simpa using e1, by rw [e2, show k + 1 + i = k + (i + 1) by omega]⟩
theorem enumD_len : ∀ (ds : List D) (k : Nat), (enumD k ds).length = ds.length
  | [], _ => rfl
  | d :: ds, k => by rw [enumD, List.length_cons, enumD_len, List.length_cons]
def aIenum (ar : AA) (Γ : Sl) (M : Mem) (Q : List D → Sl → Mem → Prop) : Prop := ar Γ M fun ds Γ1 M1 => match ds with
  | [.lst xs] => Q (enumD 0 xs) Γ1 M1
  | _ => False
theorem qi_enumL {tpos p : Pos} {elts : List Expr} {kk : Nat} {tr : TA} {ar : AA} (hm : X.mg "enumerate" = none) (ha : QA X ρ [a] tr ar) (hg : Gl X "enumerate" := by rfl) (hs : starEach [a] X.env = [(false, eval a X.env)] := by rfl) (hK : X.K = K := by rfl) :
    QI X ρ (.Tuple elts kk tpos) (.Call (.Name "enumerate" p) [a] [] pos) (iEnum K tr) (aIenum ar) := by
  subst hK
  refine ⟨pi_enum hg hm ha.pe hs, fun B σ H G Γ M Q R k hh q => ha.rd B σ H G Γ M _ _ k hh fun vs H1 G1 Γ1 M1 ds k1 e1 rl h1 => ?_⟩
  split at h1
  · rename_i xs
    obtain ⟨v, r, rfl, rv, rn⟩ := repL_cons.mp rl
    have := repL_nil.mp rn; subst this
    obtain ⟨p1, us, rfl, s1, l1⟩ := rep_lst.mp rv
    refine ⟨p1, us, rfl, SqL.of (k1.ex _ _ s1), q _ H1 G1 Γ1 M1 _ k1 e1 ⟨fun H => SqL X.K H p1 us, YPair (fun i => some (.int (i : Nat))) (fun i => us[i]?), ?_, fun H e => SqL.of (e _ _ s1), fun i H x H' d hd _ y => ?_⟩ h1⟩
    · rw [enumD_len, ← l1.length]; exact walk_enum
    · obtain ⟨z, e3, rfl⟩ := enumD_get hd
      obtain ⟨T, u, w, ev, hT, eH, f1, f2⟩ := y
      obtain ⟨u', g1, q1⟩ := l1.get e3
      have f1 : some (V.int (i : Nat)) = some u := f1
      have f2 : us[i]? = some w := f2
      have ew : u' = w := by rw [g1] at f2; exact Option.some.inj f2
      subst ew
      cases f1
      exact .inr ⟨T, [.int (i : Nat), u'], [.int (0 + i : Nat), z], ev, hT, eH, rfl, repL_cons.mpr ⟨_, _, rfl, by rw [Rep, Nat.zero_add], RepL.one q1⟩⟩
  · exact h1.elim
/-! ### x[i] += e -/
def rGetL (K : PySem.W.Frag) : V → V → Hp → VK → Prop := fun x y H Q => ∃ p xs i v, x = .ref p ∧ y = .int i ∧ SqL K H p xs ∧ 0 ≤ i ∧ xs[i.toNat]? = some v ∧ Q v H
theorem get_list : PGet X (rGetL X.K) := by
  intro pins s σ H o i ov iv Q I ro ri h
  obtain ⟨p, xs, n, v, rfl, rfl, sq, h0, hv, q⟩ := h
  cases ro
  obtain ⟨t, rfl⟩ := ri
  obtain ⟨its, r, pl, hz⟩ := I.list sq
  obtain ⟨u, eu, ru⟩ := r.get hv
  have hl : n.toNat < its.length := (List.getElem?_eq_some_iff.mp eu).1
  have hl2 := r.length
  refine wpAny_getItem_list pl.isList h0 ?_ (by simpa using eu) ⟨v, H, I, ru, q⟩
  have : sizeLine < 2 ^ 63 := by decide
  omega
def aAugX (ao ai ae : AE) (A : AEnds) (Γ : Sl) (M : Mem) : Prop := ao Γ M fun ro Γ1 M1 => ai Γ1 M1 fun ri Γ2 M2 => match ri, lget ro Γ2 M2 with
  | .dat (.int i), some ds => 0 ≤ i ∧ match ds[i.toNat]? with
    | some (.int n) => ae Γ2 M2 fun re Γ3 M3 => match re, lget ro Γ3 M3 with
      | .dat (.int m), some ds' => match ixN ds'.length i with
        | some j => lput ro (ds'.set j (.int (n + m))) Γ3 M3 fun Γ4 M4 => A.nx Γ4 M4
        | none => False
      | _, _ => False
    | _ => False
  | _, _ => False
theorem qs_augX {o i : Expr} {to ti : TE} {ao ai : AE} (ho : QE X ρ o to ao) (hi : QE X ρ i ti ai) (h : QE X ρ a ta aa)
    (has : ∀ ov iv new, augStore i ov iv new = (do holding [new, ov, iv] (setItem ov iv new); release [new, ov, iv] []; pure .next) := by intros; rfl) (hK : X.K = K := by rfl) :
    QS X ρ (.AugAssign (.Subscript o i pos') .Add a pos) (tAugS to ti ta (rGetL K) (ipI fun i j => i + j) rSetL) (aAugX ao ai aa) := by
  subst hK
  refine ⟨ps_augS ho.pe hi.pe get_list h.pe ip_add set_list has, fun B σ H G Γ M A E k hh s => ?_⟩
  refine ho.rd B σ H G Γ M _ _ k hh fun ov H1 G1 Γ1 M1 ro k1 e1 rro h1 => ?_
  refine hi.rd B σ H1 G1 Γ1 M1 _ _ k1 h1 fun iv H2 G2 Γ2 M2 ri k2 e2 rri h2 => ?_
  split at h2
  · rename_i n ds hd
    obtain ⟨h0, h2⟩ := h2
    have rro2 := rro.es e2
    obtain ⟨l, xs, rfl, hl, hx⟩ := lget_ok k2 rro2 hd
    have ei : iv = .int n := by have := rri; simp only [RepR, Rep] at this; exact this
    split at h2
    · rename_i old hold
      obtain ⟨v, hv, rv⟩ := hx.get hold
      rw [Rep] at rv
      refine ⟨l, xs, n, v, rfl, ei, SqL.of hl, h0, hv, h.rd B σ H2 G2 Γ2 M2 _ _ k2 h2 fun u H3 G3 Γ3 M3 re k3 e3 rre h3 => ?_⟩
      split at h3
      · rename_i m ds' hd'
        have eu : u = .int m := by have := rre; simp only [RepR, Rep] at this; exact this
        have rro3 := rro2.es e3
        obtain ⟨l', xs', e', hl', hx'⟩ := lget_ok k3 rro3 hd'
        cases e'
        split at h3
        · rename_i j hj
          obtain ⟨Γ5, M5, k5, e5, hq⟩ := lput_ok k3 rro3 hd' (hx'.set j (show Rep X.K G3 (.int (old + m)) (.int (old + m)) by rw [Rep])) h3
          exact ⟨old, m, rv, eu, l, xs', n, j, rfl, ei, hl', by rw [hx'.length]; exact hj, s.nx σ _ G3 Γ5 M5 k5 hq⟩
        · exact h3.elim
      · exact h3.elim
    · exact h2.elim
  · exact h2.elim
end
end Gw
namespace Gw
open PySem L2
/-- a, b = e, [..] where a name is held by a comprehension too: by a tuple -/
theorem qs_parOc {X : Cx} {a b : Expr} {ta tb : TE} {aa ab : AE} {K : PySem.W.Frag} {x y : Str} {px py pt spos : Pos} {kt k2 pt2} (i j : Nat) (hN : X.N.Nodup) (ha : QE X ρ a ta aa) (hb : QE X ρ b tb ab) (na : starEach [a, b] X.env = (false, eval a X.env) :: starEach [b] X.env := by rfl) (nb : starEach [b] X.env = (false, eval b X.env) :: starEach [] X.env := by rfl)
    (hi : X.N[i]? = some x := by rfl) (hj : X.N[j]? = some y := by rfl) (hx : Loc X.env.scope x := by first | exact Or.inl rfl | exact Or.inr rfl) (hy : Loc X.env.scope y := by first | exact Or.inl rfl | exact Or.inr rfl)
    (hfx : X.fn x = true ∨ X.env.scope.names.lookup x = some .local := by first | exact .inl rfl | exact .inr rfl) (hfy : X.fn y = true ∨ X.env.scope.names.lookup y = some .local := by first | exact .inl rfl | exact .inr rfl)
    (hs : swapsWithSole [.Tuple [.Name x px, .Name y py] kt pt] (.Tuple [a, b] k2 pt2) spos.line X.env = pure false := by rfl) (hw : swappedStores [.Tuple [.Name x px, .Name y py] kt pt] (.Tuple [a, b] k2 pt2) X.env = pure none := by rfl) (hc : X.calm = true := by rfl) (hK : X.K = K := by rfl) :
    QS X ρ (.Assign [.Tuple [.Name x px, .Name y py] kt pt] (.Tuple [a, b] k2 pt2) spos) (tAsg (tTup (tCons ta (tCons tb tNil))) (gTup K 2 (gCons (gName i) (gCons (gName j) gNil)))) (aParO aa ab i j) := by
  subst hK
  refine ⟨ps_asg (pe_tup (pa_cons ha.pe (pa_cons hb.pe pa_nil nb) na)) (pg_tup hc (pgs_cons (pg_name hN hi hx hfx) (pgs_cons (pg_name hN hj hy hfy) pgs_nil))) hs hw, fun B σ H G Γ M A E k h s => ?_⟩
  refine ha.rd B σ H G Γ M _ _ k h fun v H1 G1 Γ1 M1 r k1 e1 rr h1 => ?_
  obtain ⟨G2, Γ2, d, k2, e2, rp, h2⟩ := frz_ok (H0 := H) k1 e1 rr h1
  refine hb.rd B σ H1 G2 Γ2 M1 _ _ k2 h2 fun u H3 G3 Γ3 M3 r3 k3 e3 rr3 h3 => ?_
  split at h3
  · rename_i c
    refine ⟨by show 2 ≤ sizeLine; decide, fun p hp => ?_⟩
    obtain ⟨k4, e4, _⟩ := k3.tmp (o := .tup [v, u]) hp
    obtain ⟨q, rfl, h0, hb', hc', hm, hn⟩ := rr3.es e4
    refine ⟨p, [v, .ref q], rfl, SqT.of upd_same, rfl, v, [.ref q], rfl, .ref q, [], rfl, rfl, ?_⟩
    exact s.nx _ _ G3 _ M3 ((k4.setD (rp.mono e3.g)).setO hb' hc' hm fun z => hn (owned_set (fun c e => by cases e) z)) h3
  · exact h3.elim
end Gw

namespace Gw
open PySem L2
variable {ρ : Ent}
/-! ### dicts: locked for good when they become data -/
section
variable {X : Cx} {a b c e : Expr} {ta tb tc te : TE} {aa ab ac ae : AE} {pos : Pos} {K : PySem.W.Frag} {B : Ent} {σ : St} {H G H1 G1 H2 G2 H0 : Hp} {Γ Γ1 Γ2 : Sl} {M M1 M2 : Mem}
/-- a thing that nobody holds is written anew and frozen -/
theorem Ok.lockAt {p : Addr} {o u : HO} (k : Ok K ρ B σ H G Γ M) (hp : H p = some o) (hb : B.H p = none) (hm : p ∉ dom M) (hn : ¬ owned σ Γ p) (hg : G p = none) :
    Ok K ρ B σ (upd H p u) (upd G p u) Γ M ∧ Ex G (upd G p u) := by
  have eG : Ex G (upd G p u) := Ex.new hg
  have cel : ∀ a c, a ≠ p → Cel K H G a c → Cel K (upd H p u) (upd G p u) a c := fun a c ne ⟨h1, w, h2, h3⟩ => ⟨by rw [upd_ne ne]; exact h1, w, by rw [upd_ne ne]; exact h2, h3.mono eG⟩
  refine ⟨⟨⟨k.st.g.trans eG, fun a w h n => ?_, fun a w h => ?_, k.st.mn, fun a h => ?_⟩, fun a w h => ?_, k.nd, fun a c h => cel a c (fun e => hm (e ▸ List.mem_map.mpr ⟨_, h, rfl⟩)) (k.ms a c h), fun i d h => ?_, fun i c h => ?_, k.dis, k.len, k.pb⟩, eG⟩
  · have ne : a ≠ p := ne_of_none h hb
    rw [upd_ne ne]; exact k.st.fr a w h n
  · by_cases e : a = p
    · subst e; exact .inr hb
    · rw [upd_ne e] at h; exact k.st.gn a w h
  · by_cases e : a = p
    · subst e; exact hb
    · rw [upd_ne e] at h; exact k.st.nn a h
  · by_cases e : a = p
    · subst e; rw [upd_same] at h ⊢; exact h
    · rw [upd_ne e] at h ⊢; exact k.ex a w h
  · obtain ⟨v, h1, h2⟩ := k.dat i d h
    exact ⟨v, h1, h2.mono eG⟩
  · obtain ⟨q, h1, h2, h3, h4⟩ := k.own i c h
    exact ⟨q, h1, h2, h3, cel q c (fun e => hn ⟨i, c, h, e ▸ h1⟩) h4⟩
def tLk (t : TE) : TE := fun σ H Q => t σ H fun v H1 => (∃ d u, v = .ref d ∧ H1 d = some u ∧ Mut (some u) ∧ ∀ od, Q v (upd H1 d (.frz od u))) ∨ Q v H1
theorem pe_lk (he : PE X e te) : PE X e (tLk te) := ⟨fun pins s σ H Q I h => thn (he.run pins s σ H _ I h) fun u s1 ⟨x, H1, I1, rx, q⟩ => by
  rcases q with ⟨d, w, ex, hd, mu, q⟩ | q
  · obtain ⟨od, I2⟩ := I1.lock hd mu
    exact ⟨x, _, I2, rx, q od⟩
  · exact ⟨x, _, I1, rx, q⟩⟩
def aLk (aa : AE) (Γ : Sl) (M : Mem) (Q : Ret → Sl → Mem → Prop) : Prop := aa Γ M fun r Γ1 M1 => match r with
  | .tmp (.dct ks ds) => Q (.dat (.dct ks ds)) Γ1 M1
  | .tmp (.dcT ks ds) => Q (.dat (.dcT ks ds)) Γ1 M1
  | .var i => match Γ1[i]? with
    | some (.own (.dct ks ds)) => Q (.dat (.dct ks ds)) (Γ1.set i (.dat (.dct ks ds))) M1
    | some (.own (.dcT ks ds)) => Q (.dat (.dcT ks ds)) (Γ1.set i (.dat (.dcT ks ds))) M1
    | _ => False
  | .dat d => Q (.dat d) Γ1 M1
  | _ => False
theorem Ok.lockSlot {i : Nat} {c : Cell} {d : D} {p : Addr} {od : Obj} {u : HO} (k : Ok K ρ B σ H G Γ M) (hi : Γ[i]? = some (.own c)) (s1 : σ[i]? = some (some (.ref p))) (hb : B.H p = none) (hm : p ∉ dom M) (hg : G p = none) (hu : H p = some u) (hr : Ex G (upd G p (.frz od u)) → Rep K (upd G p (.frz od u)) d (.ref p)) :
    Ok K ρ B σ (upd H p (.frz od u)) (upd G p (.frz od u)) (Γ.set i (.dat d)) M ∧ Es σ H G Γ M (upd H p (.frz od u)) (upd G p (.frz od u)) (Γ.set i (.dat d)) M ∧ Rep K (upd G p (.frz od u)) d (.ref p) := by
  have no : ¬ owned σ (Γ.set i .non) p := fun ⟨j, c, h1, h2⟩ => by
    rcases getElem?_setS h1 with ⟨_, e⟩ | ⟨ne, e⟩
    · cases e
    · exact ne (k.dis j i _ _ p e hi h2 s1)
  have k0 : Ok K ρ B σ H G (Γ.set i .non) M := ⟨k.st, k.ex, k.nd, k.ms, fun j d h => by
      rcases getElem?_setS h with ⟨_, e⟩ | ⟨_, e⟩
      · cases e
      · exact k.dat j d e, fun j c h => by
      rcases getElem?_setS h with ⟨_, e⟩ | ⟨_, e⟩
      · cases e
      · exact k.own j c e, fun j l c c' q h h' a b => by
      rcases getElem?_setS h with ⟨_, e⟩ | ⟨_, e⟩
      · cases e
      rcases getElem?_setS h' with ⟨_, e'⟩ | ⟨_, e'⟩
      · cases e'
      exact k.dis j l c c' q e e' a b, by rw [List.length_set]; exact k.len, k.pb⟩
  obtain ⟨k1, eG⟩ := k0.lockAt (u := .frz od u) hu hb hm no hg
  have rp := hr eG
  refine ⟨⟨k1.st, k1.ex, k1.nd, k1.ms, fun j d h => ?_, fun j c h => ?_, fun j l c c' q h h' a b => ?_, by rw [List.length_set]; exact k.len, k.pb⟩, ⟨eG, fun a u h g m n => ?_, fun a h => ?_⟩, rp⟩
  · rcases getElem?_setS h with ⟨e1, e⟩ | ⟨ne, e⟩
    · cases e; subst e1; exact ⟨_, s1, rp⟩
    · exact k1.dat j d (by rw [List.getElem?_set_ne (fun q => ne q.symm)]; exact e)
  · rcases getElem?_setS h with ⟨_, e⟩ | ⟨ne, e⟩
    · cases e
    · exact k1.own j c (by rw [List.getElem?_set_ne (fun q => ne q.symm)]; exact e)
  · rcases getElem?_setS h with ⟨_, e⟩ | ⟨_, e⟩
    · cases e
    rcases getElem?_setS h' with ⟨_, e'⟩ | ⟨_, e'⟩
    · cases e'
    exact k.dis j l c c' q e e' a b
  · have ne : a ≠ p := fun e => n ⟨i, _, hi, e ▸ s1⟩
    refine ⟨by rw [upd_ne ne]; exact h, by rw [upd_ne ne]; exact g, m, fun ⟨j, c, h1, h2⟩ => n ?_⟩
    rcases getElem?_setS h1 with ⟨_, e⟩ | ⟨_, e⟩
    · cases e
    · exact ⟨j, c, e, h2⟩
  · by_cases e : a = p
    · subst e; rw [upd_same] at h; cases h
    · rw [upd_ne e] at h; exact h
theorem rd_lk (h : RdE K ρ te ae) : RdE K ρ (tLk te) (aLk ae) := by
  intro B σ H G Γ M Q R k h0 q
  refine h B σ H G Γ M _ _ k h0 fun v H1 G1 Γ1 M1 r k1 e1 rr hq => ?_
  -- a thing nobody holds
  have tmp : ∀ (p : Addr) (u : HO) (d : D), H p = none → B.H p = none → G1 p = none → H1 p = some u → Mut (some u) → p ∉ dom M1 → ¬ owned σ Γ1 p → (∀ od, Ex G1 (upd G1 p (.frz od u)) → Rep K (upd G1 p (.frz od u)) d (.ref p)) → Q (.dat d) Γ1 M1 →
      (∃ d u, V.ref p = .ref d ∧ H1 d = some u ∧ Mut (some u) ∧ ∀ od, R (.ref p) (upd H1 d (.frz od u))) ∨ R (.ref p) H1 := fun p u d hh hb hg hu mu hm hn hr hq => by
    refine .inl ⟨p, u, rfl, hu, mu, fun od => ?_⟩
    obtain ⟨k2, eG⟩ := k1.lockAt (u := .frz od u) hu hb hm hn hg
    refine q _ _ _ Γ1 M1 (.dat d) k2 ⟨e1.g.trans eG, fun a w h g m n => ?_, fun a h => ?_⟩ (hr od eG) hq
    · obtain ⟨a1, a2, a3, a4⟩ := e1.tmp a w h g m n
      have ne : a ≠ p := ne_of_none h hh
      exact ⟨by rw [upd_ne ne]; exact a1, by rw [upd_ne ne]; exact a2, a3, a4⟩
    · by_cases e : a = p
      · subst e; exact hh
      · rw [upd_ne e] at h; exact e1.nn a h
  cases r with
  | dat d => exact .inr (q v H1 G1 Γ1 M1 (.dat d) k1 e1 rr hq)
  | tmp c =>
    cases c with
    | lst ds => exact hq.elim
    | dct ks ds =>
      obtain ⟨p, rfl, hh, hb, ⟨hg, u, hu, vs, rfl, hl, hr⟩, hm, hn⟩ := rr
      exact tmp p _ _ hh hb hg hu trivial hm hn (fun od eG => rep_dct.mpr ⟨p, od, vs, rfl, upd_same, hl, hr.mono eG⟩) hq
    | dcT ks ds =>
      obtain ⟨p, rfl, hh, hb, ⟨hg, u, hu, L, rfl, hl, hk, hr⟩, hm, hn⟩ := rr
      exact tmp p _ _ hh hb hg hu trivial hm hn (fun od eG => rep_dcT.mpr ⟨p, od, L, rfl, upd_same, hl, hk.mono eG, hr.mono eG⟩) hq
  | var i =>
    dsimp only at hq
    split at hq
    · rename_i ks ds e2
      obtain ⟨p, s1, hb, hm, hg, u, hu, vs, rfl, hl, hr⟩ := k1.own i _ e2
      have ev : v = .ref p := by have := (show σ[i]? = some (some v) from rr); rw [s1] at this; cases this; rfl
      subst ev
      refine .inl ⟨p, _, rfl, hu, trivial, fun od => ?_⟩
      obtain ⟨k2, e3, rp⟩ := k1.lockSlot (d := .dct ks ds) (od := od) e2 s1 hb hm hg hu fun eG => rep_dct.mpr ⟨p, od, vs, rfl, upd_same, hl, hr.mono eG⟩
      exact q _ _ _ _ M1 (.dat (.dct ks ds)) k2 (e1.trans e3) rp hq
    · rename_i ks ds e2
      obtain ⟨p, s1, hb, hm, hg, u, hu, L, rfl, hl, hk, hr⟩ := k1.own i _ e2
      have ev : v = .ref p := by have := (show σ[i]? = some (some v) from rr); rw [s1] at this; cases this; rfl
      subst ev
      refine .inl ⟨p, _, rfl, hu, trivial, fun od => ?_⟩
      obtain ⟨k2, e3, rp⟩ := k1.lockSlot (d := .dcT ks ds) (od := od) e2 s1 hb hm hg hu fun eG => rep_dcT.mpr ⟨p, od, L, rfl, upd_same, hl, hk.mono eG, hr.mono eG⟩
      exact q _ _ _ _ M1 (.dat (.dcT ks ds)) k2 (e1.trans e3) rp hq
    · exact hq.elim
theorem q_lk (h : QE X ρ e te ae) : QE X ρ e (tLk te) (aLk ae) := ⟨pe_lk h.pe, rd_lk h.rd⟩
end
end Gw

namespace Gw
open PySem L2
variable {ρ : Ent}
/-! ### dicts: tables of data -/
def getA (ks : List L2.Key) (ds : List D) (k : L2.Key) : Option D := ((ks.zip ds).find? fun p => decide (p.1 = k)).map (·.2)
def putA (t : List L2.Key × List D) (k : L2.Key) (d : D) : List L2.Key × List D :=
  if (t.1.any fun j => decide (j = k)) = true then (t.1, (t.1.zip t.2).map fun p => if p.1 = k then d else p.2) else (t.1 ++ [k], t.2 ++ [d])
def mergeA (t : List L2.Key × List D) (kds : List (L2.Key × D)) : List L2.Key × List D := kds.foldl (fun a p => putA a p.1 p.2) t
def keyD : D → Option L2.Key
  | .int i => some (.inl i)
  | .str x => some (.inr x)
  | _ => none
def kD : L2.Key → D
  | .inl i => .int i
  | .inr x => .str x
def itemsD (ks : List L2.Key) (ds : List D) : List D := (ks.zip ds).map fun p => .tup [kD p.1, p.2]
section
variable {K : PySem.W.Frag} {G G' H : Hp}
theorem rep_key {d : D} {v : V} {k : L2.Key} (h : Rep K G d v) (e : keyD d = some k) : v = kV k := by
  cases d <;> simp [keyD] at e <;> subst e <;> rw [Rep] at h <;> exact h
theorem rep_kD (k : L2.Key) : Rep K G (kD k) (kV k) := by
  cases k <;> simp [kD, kV, Rep]
theorem getA_cons {k0 : L2.Key} {ks : List L2.Key} {d0 : D} {ds : List D} {k : L2.Key} : getA (k0 :: ks) (d0 :: ds) k = if k0 = k then some d0 else getA ks ds k := by
  unfold getA
  rw [List.zip_cons_cons, List.find?_cons]
  by_cases e : k0 = k
  · simp [e]
  · simp [e]
theorem getA_ok {k : L2.Key} : ∀ {ks : List L2.Key} {ds : List D} {xs : List V}, ks.length = ds.length → RepL K G ds xs → (∀ d, getA ks ds k = some d → ∃ v, valV (ks.zip xs) k = some v ∧ Rep K G d v) ∧ (getA ks ds k = none → valV (ks.zip xs) k = none)
  | [], [], xs, _, h => ⟨fun d e => by simp [getA] at e, fun _ => rfl⟩
  | k0 :: ks, d0 :: ds, xs, hl, h => by
    obtain ⟨x, r, rfl, h1, h2⟩ := repL_cons.mp h
    have ih := getA_ok (k := k) (ks := ks) (by simpa using hl) h2
    rw [getA_cons, List.zip_cons_cons]
    by_cases e : k0 = k
    · rw [if_pos e, valV_pos (p := (k0, x)) e]
      exact ⟨fun d q => by cases q; exact ⟨x, rfl, h1⟩, fun q => by cases q⟩
    · rw [if_neg e, valV_neg (p := (k0, x)) e]
      exact ih
theorem any_zip {k : L2.Key} : ∀ {ks : List L2.Key} {xs : List V}, ks.length = xs.length → ((ks.zip xs).any fun kv => decide (kv.1 = k)) = ks.any fun j => decide (j = k)
  | [], [], _ => rfl
  | k0 :: ks, x :: xs, h => by
    rw [List.zip_cons_cons, List.any_cons, List.any_cons, any_zip (by simpa using h)]
theorem map_zip {k : L2.Key} {v : V} : ∀ {ks : List L2.Key} {xs : List V}, ks.length = xs.length → (ks.zip xs).map (fun kv => if kv.1 = k then (kv.1, v) else kv) = ks.zip ((ks.zip xs).map fun p => if p.1 = k then v else p.2)
  | [], [], _ => rfl
  | k0 :: ks, x :: xs, h => by
    rw [List.zip_cons_cons, List.map_cons, List.map_cons, List.zip_cons_cons, map_zip (by simpa using h)]
    congr 1
    show (if k0 = k then (k0, v) else (k0, x)) = (k0, if k0 = k then v else x)
    split <;> rfl
theorem repL_upd {k : L2.Key} {d : D} {v : V} (r : Rep K G d v) : ∀ {ks : List L2.Key} {ds : List D} {xs : List V}, ks.length = ds.length → RepL K G ds xs → RepL K G ((ks.zip ds).map fun p => if p.1 = k then d else p.2) ((ks.zip xs).map fun p => if p.1 = k then v else p.2)
  | [], [], xs, _, h => by rw [repL_nil.mp h]; exact repL_nil.mpr rfl
  | k0 :: ks, d0 :: ds, xs, hl, h => by
    obtain ⟨x, t, rfl, h1, h2⟩ := repL_cons.mp h
    rw [List.zip_cons_cons, List.zip_cons_cons, List.map_cons, List.map_cons]
    refine repL_cons.mpr ⟨_, _, rfl, ?_, repL_upd r (by simpa using hl) h2⟩
    show Rep K G (if k0 = k then d else d0) (if k0 = k then v else x)
    split
    · exact r
    · exact h1
theorem putA_len {t : List L2.Key × List D} {k : L2.Key} {d : D} (h : t.1.length = t.2.length) : (putA t k d).1.length = (putA t k d).2.length := by
  unfold putA
  split
  · simp [h]
  · simp [h]
theorem putA_ok {t : List L2.Key × List D} {xs : List V} {k : L2.Key} {d : D} {v : V} (hl : t.1.length = t.2.length) (h : RepL K G t.2 xs) (r : Rep K G d v) :
    ∃ xs', putK (t.1.zip xs) k v = (putA t k d).1.zip xs' ∧ RepL K G (putA t k d).2 xs' := by
  obtain ⟨ks, ds⟩ := t
  have hx : ks.length = xs.length := by rw [h.length]; exact hl
  unfold putK putA
  rw [any_zip hx]
  by_cases e : (ks.any fun j => decide (j = k)) = true
  · rw [if_pos e, if_pos e]
    exact ⟨_, map_zip hx, repL_upd r hl h⟩
  · rw [if_neg e, if_neg e]
    exact ⟨xs ++ [v], by rw [List.zip_append hx]; rfl, h.append (RepL.one r)⟩
def RepKs (K : PySem.W.Frag) (G : Hp) : List (L2.Key × D) → List (L2.Key × V) → Prop
  | [], kvs => kvs = []
  | p :: r, kvs => ∃ v t, kvs = (p.1, v) :: t ∧ Rep K G p.2 v ∧ RepKs K G r t
theorem RepKs.mono (e : Ex G G') : ∀ {kds : List (L2.Key × D)} {kvs : List (L2.Key × V)}, RepKs K G kds kvs → RepKs K G' kds kvs
  | [], _, h => h
  | p :: r, _, ⟨v, t, e1, h1, h2⟩ => ⟨v, t, e1, h1.mono e, RepKs.mono e h2⟩
theorem RepKs.len : ∀ {kds : List (L2.Key × D)} {kvs : List (L2.Key × V)}, RepKs K G kds kvs → kvs.length = kds.length
  | [], _, h => by rw [show _ = [] from h]; rfl
  | p :: r, _, ⟨v, t, e1, h1, h2⟩ => by rw [e1, List.length_cons, List.length_cons, RepKs.len h2]
theorem mergeA_ok : ∀ {kds : List (L2.Key × D)} {kvs : List (L2.Key × V)} {t : List L2.Key × List D} {xs : List V}, t.1.length = t.2.length → RepL K G t.2 xs → RepKs K G kds kvs →
    ∃ xs', mergeK (t.1.zip xs) kvs = (mergeA t kds).1.zip xs' ∧ RepL K G (mergeA t kds).2 xs' ∧ (mergeA t kds).1.length = (mergeA t kds).2.length
  | [], _, t, xs, hl, h, hk => by rw [show _ = [] from hk]; exact ⟨xs, rfl, h, hl⟩
  | p :: r, _, t, xs, hl, h, ⟨v, kt, e1, h1, h2⟩ => by
    subst e1
    obtain ⟨xs1, e2, h3⟩ := putA_ok (k := p.1) hl h h1
    obtain ⟨xs2, e3, h4, h5⟩ := mergeA_ok (putA_len hl) h3 h2
    refine ⟨xs2, ?_, h4, h5⟩
    show mergeK (putK (t.1.zip xs) p.1 v) kt = _
    rw [e2]; exact e3
end
section
variable {X : Cx} {a b c e : Expr} {ta tb tc te : TE} {aa ab ac ae : AE} {pos : Pos} {K : PySem.W.Frag} {B : Ent} {σ : St} {H G H1 G1 H2 G2 H0 : Hp} {Γ Γ1 Γ2 : Sl} {M M1 M2 : Mem}
/-! ### cells that are read and written -/
def dctOf (r : Ret) (Γ : Sl) (M : Mem) : Option (List L2.Key × List D) := match r with
  | .dat (.dct ks ds) => some (ks, ds)
  | .dat (.ref a) => match M.lookup a with
    | some (.dct ks ds) => some (ks, ds)
    | _ => none
  | .tmp (.dct ks ds) => some (ks, ds)
  | .var i => match Γ[i]? with
    | some (.own (.dct ks ds)) => some (ks, ds)
    | some (.dat (.dct ks ds)) => some (ks, ds)
    | _ => none
  | _ => none
theorem rep_dct_rd {ks : List L2.Key} {ds : List D} {v : V} (o : Ok K ρ B σ H G Γ M) (h : Rep K G (.dct ks ds) v) : ∃ a xs, v = .ref a ∧ Rd H a (.dK (ks.zip xs)) ∧ ks.length = ds.length ∧ RepL K G ds xs := by
  obtain ⟨a, od, xs, e, h1, h2, h3⟩ := rep_dct.mp h
  exact ⟨a, xs, e, .inr ⟨od, o.ex _ _ h1⟩, h2, h3⟩
theorem dctOf_ok {r : Ret} {v : V} {ks : List L2.Key} {ds : List D} (o : Ok K ρ B σ H G Γ M) (rr : RepR K B σ H0 H G Γ M r v) (h : dctOf r Γ M = some (ks, ds)) : ∃ a xs, v = .ref a ∧ Rd H a (.dK (ks.zip xs)) ∧ ks.length = ds.length ∧ RepL K G ds xs := by
  cases r with
  | dat d =>
    cases d with
    | dct ks' ds' => cases h; exact rep_dct_rd o rr
    | ref a =>
      simp only [dctOf] at h
      split at h
      · rename_i ks' ds' e1
        cases h
        obtain ⟨hg, u, ho, vs, rfl, hl, hr⟩ := o.ms a _ (lookup_mem e1)
        exact ⟨a, vs, by have := rr; simp only [RepR, Rep] at this; exact this, .inl ho, hl, hr⟩
      · cases h
    | _ => cases h
  | tmp c =>
    cases c with
    | lst ds => cases h
    | dcT ks ds => cases h
    | dct ks' ds' =>
      cases h
      obtain ⟨p, rfl, h0, hb, ⟨hg, u, hu, vs, rfl, hl, hr⟩, hm, hn⟩ := rr
      exact ⟨p, vs, rfl, .inl hu, hl, hr⟩
  | var i =>
    simp only [dctOf] at h
    split at h
    · rename_i ks' ds' e1
      cases h
      obtain ⟨p, s1, hb, hm, hg, u, ho, vs, rfl, hl, hr⟩ := o.own i _ e1
      have : v = .ref p := by have := (show σ[i]? = some (some v) from rr); rw [s1] at this; cases this; rfl
      exact ⟨p, vs, this, .inl ho, hl, hr⟩
    · rename_i ks' ds' e1
      cases h
      obtain ⟨v', h1, h2⟩ := o.dat i _ e1
      have : v' = v := by have := (show σ[i]? = some (some v) from rr); rw [h1] at this; cases this; rfl
      subst this
      exact rep_dct_rd o h2
    · cases h
def cget (r : Ret) (Γ : Sl) (M : Mem) : Option Cell := match r with
  | .var i => match Γ[i]? with
    | some (.own c) => some c
    | _ => none
  | .dat (.ref a) => M.lookup a
  | _ => none
def cput (r : Ret) (c : Cell) (Γ : Sl) (M : Mem) (k : Sl → Mem → Prop) : Prop := match r with
  | .var i => k (Γ.set i (.own c)) M
  | .dat (.ref a) => k Γ (mput M a c)
  | _ => False
theorem cget_ok {r : Ret} {v : V} {c : Cell} (k : Ok K ρ B σ H G Γ M) (rr : RepR K B σ H0 H G Γ M r v) (h : cget r Γ M = some c) : ∃ l o, v = .ref l ∧ H l = some o ∧ CellOk K G l c o := by
  cases r with
  | var i =>
    simp only [cget] at h
    split at h
    · rename_i c' e1
      cases h
      obtain ⟨p, s1, hb, hm, hg, u, ho, hc⟩ := k.own i _ e1
      have : v = .ref p := by have := (show σ[i]? = some (some v) from rr); rw [s1] at this; cases this; rfl
      exact ⟨p, u, this, ho, hc⟩
    · cases h
  | dat d =>
    cases d with
    | ref a =>
      simp only [cget] at h
      obtain ⟨hg, u, ho, hc⟩ := k.ms a _ (lookup_mem h)
      exact ⟨a, u, by have := rr; simp only [RepR, Rep] at this; exact this, ho, hc⟩
    | _ => cases h
  | tmp c => cases h
theorem cput_ok {r : Ret} {l : Addr} {c c' : Cell} {o' : HO} {kk : Sl → Mem → Prop} (k : Ok K ρ B σ H G Γ M) (rr : RepR K B σ H0 H G Γ M r (.ref l)) (h : cget r Γ M = some c) (rl : CellOk K G l c' o') (hp : cput r c' Γ M kk) :
    ∃ Γ' M', Ok K ρ B σ (upd H l o') G Γ' M' ∧ Es σ H G Γ M (upd H l o') G Γ' M' ∧ kk Γ' M' := by
  have updN : ∀ x, upd H l o' x = none → H x = none := fun x e => by
    by_cases z : x = l
    · subst z; rw [upd_same] at e; cases e
    · rw [upd_ne z] at e; exact e
  cases r with
  | tmp c => cases h
  | var i =>
    simp only [cget] at h
    split at h
    · rename_i dd e1
      cases h
      obtain ⟨p, s1, hb, hm, hg, u, ho, hc⟩ := k.own i _ e1
      have e : p = l := by have := (show σ[i]? = some (some (.ref l)) from rr); rw [s1] at this; cases this; rfl
      subst e
      have exG : Ex G (upd H p o') := fun x o z => by
        have ne : x ≠ p := fun e => by subst e; rw [hg] at z; cases z
        rw [upd_ne ne]; exact k.ex x o z
      have cel : ∀ x c, x ≠ p → Cel K H G x c → Cel K (upd H p o') G x c := fun x c ne ⟨z1, o, z2, z3⟩ => ⟨z1, o, by rw [upd_ne ne]; exact z2, z3⟩
      refine ⟨_, _, ⟨⟨k.st.g, fun x o z n => ?_, k.st.gn, k.st.mn, fun x z => k.st.nn x (updN x z)⟩, exG, k.nd, fun x c z => cel x c (fun e => hm (e ▸ List.mem_map.mpr ⟨_, z, rfl⟩)) (k.ms x c z), fun j d z => ?_, fun j c z => ?_, fun j m cj cm q z z' a b => ?_, by rw [List.length_set]; exact k.len, k.pb⟩, ⟨Ex.refl G, fun x o z g m n => ?_, updN⟩, hp⟩
      · have ne : x ≠ p := fun e => by subst e; rw [hb] at z; cases z
        rw [upd_ne ne]; exact k.st.fr x o z n
      · rcases set_get z with ⟨_, e⟩ | ⟨_, e⟩
        · cases e
        · exact k.dat j d e
      · rcases set_get z with ⟨e, e2⟩ | ⟨ne, e⟩
        · cases e2; subst e
          exact ⟨p, s1, hb, hm, hg, _, upd_same, rl⟩
        · obtain ⟨q, y1, y2, y3, y4⟩ := k.own j c e
          exact ⟨q, y1, y2, y3, cel q c (fun eq => ne (k.dis j i _ _ p e e1 (eq ▸ y1) s1)) y4⟩
      · have own' : ∀ (j : Nat) (c : Cell), (Γ.set i (Slot.own c'))[j]? = some (Slot.own c) → ∃ c', Γ[j]? = some (Slot.own c') := fun j c z => by
          rcases set_get z with ⟨e, _⟩ | ⟨_, e⟩
          · subst e; exact ⟨_, e1⟩
          · exact ⟨_, e⟩
        obtain ⟨c1, z1⟩ := own' j cj z
        obtain ⟨c2, z2⟩ := own' m cm z'
        exact k.dis j m c1 c2 q z1 z2 a b
      · have ne : x ≠ p := fun e => n ⟨i, _, e1, e ▸ s1⟩
        refine ⟨by rw [upd_ne ne]; exact z, g, m, fun ⟨j, c, y1, y2⟩ => n ?_⟩
        rcases set_get y1 with ⟨e, _⟩ | ⟨_, e⟩
        · subst e; exact ⟨_, _, e1, y2⟩
        · exact ⟨j, c, e, y2⟩
    · cases h
  | dat d =>
    cases d with
    | ref a =>
      simp only [cget] at h
      obtain ⟨hg, u, ho, hc⟩ := k.ms a _ (lookup_mem h)
      have e : l = a := by have := rr; simp only [RepR, Rep] at this; cases this; rfl
      subst e
      have exG : Ex G (upd H l o') := fun x o z => by
        have ne : x ≠ l := fun e => by subst e; rw [hg] at z; cases z
        rw [upd_ne ne]; exact k.ex x o z
      have cel : ∀ x c, x ≠ l → Cel K H G x c → Cel K (upd H l o') G x c := fun x c ne ⟨z1, o, z2, z3⟩ => ⟨z1, o, by rw [upd_ne ne]; exact z2, z3⟩
      have inM : l ∈ dom M := List.mem_map.mpr ⟨_, lookup_mem h, rfl⟩
      refine ⟨_, _, ⟨⟨k.st.g, fun x o z n => ?_, k.st.gn, ?_, fun x z => k.st.nn x (updN x z)⟩, exG, by rw [dom_mput]; exact k.nd, fun x c z => ?_, k.dat, fun j c z => ?_, k.dis, k.len, k.pb⟩, ⟨Ex.refl G, fun x o z g m n => ?_, updN⟩, hp⟩
      · have ne : x ≠ l := fun e => by
          subst e
          rcases k.st.mn x inM with z' | z'
          · exact n z'
          · rw [z] at z'; cases z'
        rw [upd_ne ne]; exact k.st.fr x o z n
      · rw [dom_mput]; exact k.st.mn
      · unfold mput at z
        obtain ⟨y, hy, e⟩ := List.mem_map.mp z
        split at e
        · cases e; exact ⟨hg, _, upd_same, rl⟩
        · rename_i ne
          obtain ⟨y1, y2⟩ := y
          cases e
          exact cel x c ne (k.ms x c hy)
      · obtain ⟨q, y1, y2, y3, y4⟩ := k.own j c z
        exact ⟨q, y1, y2, by rw [dom_mput]; exact y3, cel q c (fun e => y3 (e ▸ inM)) y4⟩
      · have ne : x ≠ l := fun e => m (e ▸ inM)
        exact ⟨by rw [upd_ne ne]; exact z, g, by rw [dom_mput]; exact m, n⟩
    | _ => cases h
/-- a thing that nobody holds is written anew -/
theorem Ok.updTmp' {p : Addr} {o u : HO} (k : Ok K ρ B σ H G Γ M) (hp : H p = some o) (hb : B.H p = none) (hg : G p = none) (hm : p ∉ dom M) (hn : ¬ owned σ Γ p) : Ok K ρ B σ (upd H p u) G Γ M := by
  have cel : ∀ x c, x ≠ p → Cel K H G x c → Cel K (upd H p u) G x c := fun x c ne ⟨z1, o, z2, z3⟩ => ⟨z1, o, by rw [upd_ne ne]; exact z2, z3⟩
  refine ⟨⟨k.st.g, fun x o z n => ?_, k.st.gn, k.st.mn, fun x z => k.st.nn x ?_⟩, fun x o z => ?_, k.nd, fun x c z => cel x c (fun e => hm (e ▸ List.mem_map.mpr ⟨_, z, rfl⟩)) (k.ms x c z), k.dat, fun i c z => ?_, k.dis, k.len, k.pb⟩
  · rw [upd_ne (ne_of_none z hb)]; exact k.st.fr x o z n
  · by_cases e : x = p
    · subst e; rw [upd_same] at z; cases z
    · rw [upd_ne e] at z; exact z
  · have ne : x ≠ p := fun e => by subst e; rw [hg] at z; cases z
    rw [upd_ne ne]; exact k.ex x o z
  · obtain ⟨q, y1, y2, y3, y4⟩ := k.own i c z
    exact ⟨q, y1, y2, y3, cel q c (fun e => hn ⟨i, c, z, e ▸ y1⟩) y4⟩
/-- new things: those of T are frozen, others are not held -/
theorem Ok.grow {H' : Hp} {T : List Addr} (k : Ok K ρ B σ H G Γ M) (hh : Ex H H') (hT : ∀ t ∈ T, H t = none) : Ok K ρ B σ H' (fun b => if b ∈ T then H' b else G b) Γ M ∧ Es σ H G Γ M H' (fun b => if b ∈ T then H' b else G b) Γ M := by
  have eG : Ex G (fun b => if b ∈ T then H' b else G b) := fun x o z => by
    show (if x ∈ T then H' x else G x) = some o
    rw [if_neg (fun hx => by have := k.ex x o z; rw [hT x hx] at this; cases this)]; exact z
  have cel : ∀ x c, Cel K H G x c → Cel K H' (fun b => if b ∈ T then H' b else G b) x c := fun x c ⟨z1, o, z2, z3⟩ => ⟨by
    show (if x ∈ T then H' x else G x) = none
    rw [if_neg (fun hx => by rw [hT x hx] at z2; cases z2)]; exact z1, o, hh _ _ z2, z3.mono eG⟩
  refine ⟨⟨⟨k.st.g.trans eG, fun x o z n => hh _ _ (k.st.fr x o z n), fun x o z => ?_, k.st.mn, fun x z => k.st.nn x (hh.none z)⟩, fun x o z => ?_, k.nd, fun x c z => cel x c (k.ms x c z), fun i d z => ?_, fun i c z => ?_, k.dis, k.len, k.pb⟩, eG, fun x o z g m n => ⟨hh _ _ z, ?_, m, n⟩, fun x z => hh.none z⟩
  · change (if x ∈ T then H' x else G x) = some o at z
    by_cases hx : x ∈ T
    · exact .inr (k.st.nn x (hT x hx))
    · rw [if_neg hx] at z; exact k.st.gn x o z
  · change (if x ∈ T then H' x else G x) = some o at z
    by_cases hx : x ∈ T
    · rw [if_pos hx] at z; exact z
    · rw [if_neg hx] at z; exact hh _ _ (k.ex x o z)
  · obtain ⟨v, h1, h2⟩ := k.dat i d z
    exact ⟨v, h1, h2.mono eG⟩
  · obtain ⟨q, y1, y2, y3, y4⟩ := k.own i c z
    exact ⟨q, y1, y2, y3, cel q c y4⟩
  · show (if x ∈ T then H' x else G x) = none
    rw [if_neg (fun hx => by rw [hT x hx] at z; cases z)]; exact g
theorem Ok.fresh {p : Addr} (k : Ok K ρ B σ H G Γ M) (hp : H p = none) : p ∉ dom M ∧ ¬ owned σ Γ p ∧ B.H p = none ∧ G p = none := by
  refine ⟨fun hm => ?_, fun ⟨i, c, h1, h2⟩ => ?_, k.st.nn _ hp, k.ex.none hp⟩
  · obtain ⟨⟨a, c⟩, h1, h2⟩ := List.mem_map.mp hm
    obtain ⟨_, u, h3, _⟩ := k.ms a c h1
    simp at h2; subst h2; rw [hp] at h3; cases h3
  · obtain ⟨q, h3, _, _, _, u, h4, _⟩ := k.own i c h1
    rw [h2] at h3; cases h3; rw [hp] at h4; cases h4
/-! ### {} and {k: v, ..} -/
def aDNew (Γ : Sl) (M : Mem) (Q : Ret → Sl → Mem → Prop) : Prop := Q (.tmp (.dct [] [])) Γ M
theorem q_dnew : QE X ρ (.Dict [] [] pos) tDNewK aDNew := ⟨pe_dnewK, fun B σ H G Γ M Q R k h q p hp => by
  obtain ⟨k2, e2, hm, hn, hb, hg⟩ := k.tmp (o := .dK []) hp
  exact q _ _ _ Γ M (.tmp (.dct [] [])) k2 e2 ⟨p, rfl, hp, hb, ⟨hg, _, upd_same, [], rfl, rfl, repL_nil.mpr rfl⟩, hm, hn⟩ h⟩
abbrev AP := Sl → Mem → (List (L2.Key × D) → Sl → Mem → Prop) → Prop
def RdP (K : PySem.W.Frag) (ρ : Ent) (trs : List (TE × TE)) (ap : AP) : Prop := ∀ B σ H G Γ M (Q : List (L2.Key × D) → Sl → Mem → Prop) (R : List (V × V) → Hp → Prop), Ok K ρ B σ H G Γ M → ap Γ M Q →
  (∀ kvs H' G' Γ' M' kds, Ok K ρ B σ H' G' Γ' M' → Es σ H G Γ M H' G' Γ' M' → RepKs K G' kds kvs → Q kds Γ' M' → R (kvs.map fun kv => (kV kv.1, kv.2)) H') → tPairs trs σ H R
structure QP (X : Cx) (ρ : Ent) (pos : Pos) (keys : List (Option Expr)) (values : List Expr) (trs : List (TE × TE)) (ap : AP) : Prop where
  pe : PPs X pos keys values trs
  rd : RdP X.K ρ trs ap
def apNil (Γ : Sl) (M : Mem) (Q : List (L2.Key × D) → Sl → Mem → Prop) : Prop := Q [] Γ M
def apCons (ak av : AE) (ar : AP) (Γ : Sl) (M : Mem) (Q : List (L2.Key × D) → Sl → Mem → Prop) : Prop := ak Γ M fun rk Γ1 M1 => match rk with
  | .dat y => match keyD y with
    | some k => av Γ1 M1 fun rv Γ2 M2 => frz rv Γ2 fun d Γ3 => ar Γ3 M2 fun kds Γ4 M4 => Q ((k, d) :: kds) Γ4 M4
    | none => False
  | _ => False
theorem qp_nil : QP X ρ pos [] [] [] apNil := ⟨pps_nil, fun B σ H G Γ M Q R k h q => q [] H G Γ M [] k .refl rfl h⟩
theorem qp_cons {ks : List (Option Expr)} {vs : List Expr} {trs : List (TE × TE)} {ar : AP} (ha : QE X ρ a ta aa) (hb : QE X ρ b tb ab) (hr : QP X ρ pos ks vs trs ar) : QP X ρ pos (some a :: ks) (b :: vs) ((ta, tb) :: trs) (apCons aa ab ar) := ⟨pps_cons ha.pe hb.pe hr.pe, by
  intro B σ H G Γ M Q R k h q
  refine ha.rd B σ H G Γ M _ _ k h fun v H1 G1 Γ1 M1 r1 k1 e1 rr1 h1 => ?_
  split at h1
  · rename_i y
    split at h1
    · rename_i key hy
      have ev := rep_key (show Rep X.K G1 y v from rr1) hy
      subst ev
      refine hb.rd B σ H1 G1 Γ1 M1 _ _ k1 h1 fun u H2 G2 Γ2 M2 r2 k2 e2 rr2 h2 => ?_
      obtain ⟨G3, Γ3, d, k3, e3, rp, h3⟩ := frz_ok (H0 := H1) k2 e2 rr2 h2
      refine hr.rd B σ H2 G3 Γ3 M2 _ _ k3 h3 fun kvs H4 G4 Γ4 M4 kds k4 e4 rk h4 => ?_
      exact q ((key, u) :: kvs) H4 G4 Γ4 M4 ((key, d) :: kds) k4 ((e1.trans e3).trans e4) ⟨u, kvs, rfl, rp.mono e4.g, rk⟩ h4
    · exact h1.elim
  · exact h1.elim⟩
def aDisp (ap : AP) (Γ : Sl) (M : Mem) (Q : Ret → Sl → Mem → Prop) : Prop := ap Γ M fun kds Γ1 M1 => kds.length ≤ 15 ∧ Q (.tmp (.dct (mergeA ([], []) kds).1 (mergeA ([], []) kds).2)) Γ1 M1
theorem q_disp {keys : List (Option Expr)} {values : List Expr} {trs : List (TE × TE)} {ap : AP} (h : QP X ρ pos keys values trs ap) (hall : keys.all (·.isSome) = true := by rfl) (hl : keys.length = values.length := by rfl) (h0 : keys ≠ [] := by simp)
    (h15 : keys.length ≤ 15 := by decide) : QE X ρ (.Dict keys values pos) (tDisp trs) (aDisp ap) := ⟨pe_disp h.pe hall hl h0 h15, by
  intro B σ H G Γ M Q R k hh q p hp
  obtain ⟨k1, e1, hm, hn, hb, hg⟩ := k.tmp (o := .dK []) hp
  refine h.rd B σ _ G Γ M _ _ k1 hh fun kvs H2 G2 Γ2 M2 kds k2 e2 rk h2 => ?_
  obtain ⟨p2, g2, m2, n2⟩ := e2.tmp p _ upd_same hg hm hn
  obtain ⟨xs', e3, h3, h4⟩ := mergeA_ok (t := ([], [])) rfl (repL_nil.mpr rfl) rk
  refine ⟨p2, kvs, rfl, by rw [rk.len]; exact h2.1, ?_⟩
  have e3' : mergeK [] kvs = (mergeA ([], []) kds).1.zip xs' := e3
  rw [e3']
  refine q _ _ G2 Γ2 M2 (.tmp (.dct _ _)) (k2.updTmp' p2 hb g2 m2 n2) ⟨e2.g, fun a o z g m n => ?_, fun a z => ?_⟩ ⟨p, rfl, hp, hb, ⟨g2, _, upd_same, xs', rfl, h4, h3⟩, m2, n2⟩ h2.2
  · have ne : a ≠ p := ne_of_none z hp
    obtain ⟨a1, a2, a3, a4⟩ := e2.tmp a o (by rw [upd_ne ne]; exact z) g m n
    exact ⟨by rw [upd_ne ne]; exact a1, a2, a3, a4⟩
  · by_cases e : a = p
    · subst e; exact hp
    · rw [upd_ne e] at z
      have := e2.nn a z
      rw [upd_ne e] at this; exact this⟩
/-! ### d[k], d.get(k, x), k in d -/
def aDGet (ad ay : AE) (Γ : Sl) (M : Mem) (Q : Ret → Sl → Mem → Prop) : Prop := ad Γ M fun r Γ1 M1 => ay Γ1 M1 fun ry Γ2 M2 => match ry with
  | .dat y => match keyD y with
    | some k => match dctOf r Γ2 M2 with
      | some t => match getA t.1 t.2 k with
        | some d => Q (.dat d) Γ2 M2
        | none => False
      | none => False
    | none => False
  | _ => False
theorem rd_dget (ha : RdE K ρ ta aa) (hb : RdE K ρ tb ab) : RdE K ρ (tDGet ta tb) (aDGet aa ab) := by
  intro B σ H G Γ M Q R k h q
  refine ha B σ H G Γ M _ _ k h fun v H1 G1 Γ1 M1 r1 k1 e1 rr1 h1 => ?_
  refine hb B σ H1 G1 Γ1 M1 _ _ k1 h1 fun u H2 G2 Γ2 M2 r2 k2 e2 rr2 h2 => ?_
  split at h2
  · rename_i y
    split at h2
    · rename_i key hy
      have eu := rep_key (show Rep K G2 y u from rr2) hy
      subst eu
      split at h2
      · rename_i t ht
        obtain ⟨l, xs, rfl, hd, hl, hx⟩ := dctOf_ok k2 (rr1.es e2) ht
        split at h2
        · rename_i d hd2
          obtain ⟨w, hw, rw'⟩ := (getA_ok (k := key) hl hx).1 d hd2
          exact ⟨l, w, rfl, .inl ⟨_, key, hd, rfl, hw.symm⟩, q w H2 G2 Γ2 M2 (.dat d) k2 (e1.trans e2) rw' h2⟩
        · exact h2.elim
      · exact h2.elim
    · exact h2.elim
  · exact h2.elim
theorem q_dget (hu : X.A.units + 64 < cLine) (ha : QE X ρ a ta aa) (hb : QE X ρ b tb ab) (hs : NoSl b := by exact fun _ _ => rfl) : QE X ρ (.Subscript a b pos) (tDGet ta tb) (aDGet aa ab) := ⟨pe_dget (by omega) ha.pe hb.pe hs, rd_dget ha.rd hb.rd⟩
def aDGet2 (ad ay az : AE) (Γ : Sl) (M : Mem) (Q : Ret → Sl → Mem → Prop) : Prop := ad Γ M fun r Γ1 M1 => (dctOf r Γ1 M1).isSome = true ∧ ay Γ1 M1 fun ry Γ2 M2 => az Γ2 M2 fun rz Γ3 M3 => match ry with
  | .dat y => match rz with
    | .dat z => match keyD y with
      | some k => match dctOf r Γ3 M3 with
        | some t => Q (.dat ((getA t.1 t.2 k).getD z)) Γ3 M3
        | none => False
      | none => False
    | _ => False
  | _ => False
theorem rd_dget2 (ha : RdE K ρ ta aa) (hb : RdE K ρ tb ab) (hc : RdE K ρ tc ac) : RdE K ρ (tDGet2 ta tb tc) (aDGet2 aa ab ac) := by
  intro B σ H G Γ M Q R k h q
  refine ha B σ H G Γ M _ _ k h fun v H1 G1 Γ1 M1 r1 k1 e1 rr1 h1 => ?_
  obtain ⟨hs, h1⟩ := h1
  obtain ⟨t1, ht1⟩ := Option.isSome_iff_exists.mp hs
  obtain ⟨l1, xs1, rfl, hd1, _, _⟩ := dctOf_ok k1 rr1 ht1
  refine ⟨l1, rfl, .inl ⟨_, hd1⟩, ?_⟩
  refine hb B σ H1 G1 Γ1 M1 _ _ k1 h1 fun u H2 G2 Γ2 M2 r2 k2 e2 rr2 h2 => ?_
  refine hc B σ H2 G2 Γ2 M2 _ _ k2 h2 fun w H3 G3 Γ3 M3 r3 k3 e3 rr3 h3 => ?_
  split at h3
  · rename_i y
    split at h3
    · rename_i z
      split at h3
      · rename_i key hy
        have eu := rep_key (show Rep K G2 y u from rr2) hy
        subst eu
        split at h3
        · rename_i t ht
          obtain ⟨l, xs, el, hd, hl, hx⟩ := dctOf_ok k3 ((rr1.es e2).es e3) ht
          cases el
          have ok := getA_ok (k := key) hl hx
          have rz : Rep K G3 z w := rr3
          cases hg : getA t.1 t.2 key with
          | some d =>
            obtain ⟨x, hw, rx⟩ := ok.1 d hg
            rw [hg] at h3
            exact ⟨some x, .inl ⟨_, key, hd, rfl, hw.symm⟩, q x H3 G3 Γ3 M3 (.dat d) k3 ((e1.trans e2).trans e3) rx h3⟩
          | none =>
            rw [hg] at h3
            exact ⟨none, .inl ⟨_, key, hd, rfl, (ok.2 hg).symm⟩, q w H3 G3 Γ3 M3 (.dat z) k3 ((e1.trans e2).trans e3) rz h3⟩
        · exact h3.elim
      · exact h3.elim
    · exact h3.elim
  · exact h3.elim
theorem q_dget2 {apos cpos : Pos} (hu : X.A.units + 64 < cLine) (ha : QE X ρ a ta aa) (hb : QE X ρ b tb ab) (hc : QE X ρ c tc ac) (m : L2.M2 X a "get" apos b c cpos := by exact ⟨rfl, rfl, rfl, rfl⟩) : QE X ρ (.Call (.Attribute a "get" apos) [b, c] [] cpos) (tDGet2 ta tb tc) (aDGet2 aa ab ac) :=
  ⟨pe_dget2 (by omega) ha.pe hb.pe hc.pe m, rd_dget2 ha.rd hb.rd hc.rd⟩
def aDIn (f : Bool → Bool) (ay ad : AE) (Γ : Sl) (M : Mem) (Q : Ret → Sl → Mem → Prop) : Prop := ay Γ M fun ry Γ1 M1 => ad Γ1 M1 fun r Γ2 M2 => match ry with
  | .dat y => match keyD y with
    | some k => match dctOf r Γ2 M2 with
      | some t => Q (.dat (.bl (f (getA t.1 t.2 k).isSome))) Γ2 M2
      | none => False
    | none => False
  | _ => False
theorem getA_isSome {ks : List L2.Key} {ds : List D} {xs : List V} {k : L2.Key} (hl : ks.length = ds.length) (h : RepL K G ds xs) : (valV (ks.zip xs) k).isSome = (getA ks ds k).isSome := by
  have ok := getA_ok (k := k) hl h
  cases hg : getA ks ds k with
  | some d => obtain ⟨v, e, _⟩ := ok.1 d hg; rw [e]; rfl
  | none => rw [ok.2 hg]; rfl
theorem rd_din (ha : RdE K ρ ta aa) (hb : RdE K ρ tb ab) : RdE K ρ (tDIn ta tb) (aDIn id aa ab) := by
  intro B σ H G Γ M Q R k h q
  refine ha B σ H G Γ M _ _ k h fun v H1 G1 Γ1 M1 r1 k1 e1 rr1 h1 => ?_
  refine hb B σ H1 G1 Γ1 M1 _ _ k1 h1 fun u H2 G2 Γ2 M2 r2 k2 e2 rr2 h2 => ?_
  split at h2
  · rename_i y
    split at h2
    · rename_i key hy
      have eu := rep_key (show Rep K G1 y v from rr1) hy
      subst eu
      split at h2
      · rename_i t ht
        obtain ⟨l, xs, rfl, hd, hl, hx⟩ := dctOf_ok k2 rr2 ht
        exact ⟨l, _, rfl, .inl ⟨_, key, hd, rfl, rfl⟩, q _ H2 G2 Γ2 M2 (.dat (.bl _)) k2 (e1.trans e2) (by rw [getA_isSome hl hx]; simp only [RepR, Rep]; rfl) h2⟩
      · exact h2.elim
    · exact h2.elim
  · exact h2.elim
theorem rd_dnotin (ha : RdE K ρ ta aa) (hb : RdE K ρ tb ab) : RdE K ρ (tDNotIn ta tb) (aDIn not aa ab) := by
  intro B σ H G Γ M Q R k h q
  refine ha B σ H G Γ M _ _ k h fun v H1 G1 Γ1 M1 r1 k1 e1 rr1 h1 => ?_
  refine hb B σ H1 G1 Γ1 M1 _ _ k1 h1 fun u H2 G2 Γ2 M2 r2 k2 e2 rr2 h2 => ?_
  split at h2
  · rename_i y
    split at h2
    · rename_i key hy
      have eu := rep_key (show Rep K G1 y v from rr1) hy
      subst eu
      split at h2
      · rename_i t ht
        obtain ⟨l, xs, rfl, hd, hl, hx⟩ := dctOf_ok k2 rr2 ht
        exact ⟨l, _, rfl, .inl ⟨_, key, hd, rfl, rfl⟩, q _ H2 G2 Γ2 M2 (.dat (.bl _)) k2 (e1.trans e2) (by rw [getA_isSome hl hx]; simp only [RepR, Rep]) h2⟩
      · exact h2.elim
    · exact h2.elim
  · exact h2.elim
theorem q_din (hu : X.A.units + 64 < cLine) (ha : QE X ρ a ta aa) (hb : QE X ρ b tb ab) (hm : behindInMarks .In b = false := by rfl) : QE X ρ (.Compare a [.In] [b] pos) (tDIn ta tb) (aDIn id aa ab) := ⟨pe_cmp (pc_din (by omega) ha.pe hb.pe) hm, rd_din ha.rd hb.rd⟩
theorem q_dnotin (hu : X.A.units + 64 < cLine) (ha : QE X ρ a ta aa) (hb : QE X ρ b tb ab) (hm : behindInMarks .NotIn b = false := by rfl) : QE X ρ (.Compare a [.NotIn] [b] pos) (tDNotIn ta tb) (aDIn not aa ab) := ⟨pe_cmp (pc_dnotin (by omega) ha.pe hb.pe) hm, rd_dnotin ha.rd hb.rd⟩
theorem qt_din (hu : X.A.units + 64 < cLine) (ha : QE X ρ a ta aa) (hb : QE X ρ b tb ab) (hm : behindInMarks .In b = false := by rfl) : QT X ρ (.Compare a [.In] [b] pos) (tB (tDIn ta tb)) (aTst (aDIn id aa ab)) := ⟨pt_cmp (pc_din (by omega) ha.pe hb.pe) hm, rd_tst (rd_din ha.rd hb.rd)⟩
theorem qt_dnotin (hu : X.A.units + 64 < cLine) (ha : QE X ρ a ta aa) (hb : QE X ρ b tb ab) (hm : behindInMarks .NotIn b = false := by rfl) : QT X ρ (.Compare a [.NotIn] [b] pos) (tB (tDNotIn ta tb)) (aTst (aDIn not aa ab)) := ⟨pt_cmp (pc_dnotin (by omega) ha.pe hb.pe) hm, rd_tst (rd_dnotin ha.rd hb.rd)⟩
/-! ### d[k] = v -/
def aDPut (ae ao ai : AE) (A : AEnds) (Γ : Sl) (M : Mem) : Prop := ae Γ M fun r Γ0 M0 => frz r Γ0 fun d Γ1 => ao Γ1 M0 fun ro Γ2 M2 => ai Γ2 M2 fun ri Γ3 M3 => match ri with
  | .dat y => match keyD y with
    | some k => match cget ro Γ3 M3 with
      | some (.dct ks ds) => ks.length < sizeLine ∧ cput ro (.dct (putA (ks, ds) k d).1 (putA (ks, ds) k d).2) Γ3 M3 fun Γ4 M4 => A.nx Γ4 M4
      | _ => False
    | none => False
  | _ => False
theorem qs_dput {o i : Expr} {to ti : TE} {ao ai : AE} {pos' : Pos} (hu : X.A.units + 64 < cLine) (h : QE X ρ a ta aa) (ho : QE X ρ o to ao) (hi : QE X ρ i ti ai) (hs : swapsWith a (some (.Subscript o i pos')) pos.line X.env = pure false := by rfl) :
    QS X ρ (.Assign [.Subscript o i pos'] a pos) (sDPut to ti ta) (aDPut aa ao ai) := ⟨ps_dput (by omega) ho.pe hi.pe h.pe hs, fun B σ H G Γ M A E k hh s => h.rd B σ H G Γ M _ _ k hh fun v H1 G1 Γ1 M1 r k1 e1 rr h1 => by
    obtain ⟨G2, Γ2, d, k2, e2, rp, h2⟩ := frz_ok (H0 := H) k1 e1 rr h1
    refine ho.rd B σ H1 G2 Γ2 M1 _ _ k2 h2 fun ov H3 G3 Γ3 M3 ro k3 e3 rro h3 => ?_
    refine hi.rd B σ H3 G3 Γ3 M3 _ _ k3 h3 fun iv H4 G4 Γ4 M4 ri k4 e4 rri h4 => ?_
    split at h4
    · rename_i y
      split at h4
      · rename_i key hy
        have eu := rep_key (show Rep X.K G4 y iv from rri) hy
        subst eu
        split at h4
        · rename_i ks ds hd
          have rro' := rro.es e4
          obtain ⟨l, o', rfl, hl, xs, rfl, hlen, hx⟩ := cget_ok k4 rro' hd
          have rp4 : Rep X.K G4 d v := (rp.mono e3.g).mono e4.g
          obtain ⟨xs', e5, hx'⟩ := putA_ok (t := (ks, ds)) (k := key) hlen hx rp4
          obtain ⟨Γ5, M5, k5, e6, hq⟩ := cput_ok (c' := .dct _ _) (o' := .dK ((putA (ks, ds) key d).1.zip xs')) k4 rro' hd ⟨xs', rfl, putA_len (t := (ks, ds)) hlen, hx'⟩ h4.2
          have e5' : putK (ks.zip xs) key v = (putA (ks, ds) key d).1.zip xs' := e5
          rw [← e5'] at k5
          exact ⟨l, _, rfl, .inl ⟨_, key, hl, rfl, by simp only [List.length_zip, hx.length]; omega, rfl⟩, s.nx σ _ G4 Γ5 M5 k5 hq⟩
        · exact h4.elim
      · exact h4.elim
    · exact h4.elim⟩
/-! ### for k, v in d.items() -/
def aIItems (aa : AE) (Γ : Sl) (M : Mem) (Q : List D → Sl → Mem → Prop) : Prop := aa Γ M fun r Γ1 M1 => match r with
  | .dat (.dct ks ds) => Q (itemsD ks ds) Γ1 M1
  | _ => False
theorem walkD_items {p : Addr} {o : Obj} {ks : List L2.Key} {xs : List V} {ds : List D} (h : G p = some (.frz o (.dK (ks.zip xs)))) (hl : ks.length = ds.length) (r : RepL K G ds xs) : WalkD K (Iti p o (ks.zip xs)) G (itemsD ks ds) := by
  have hn : (itemsD ks ds).length = (ks.zip xs).length := by simp [itemsD, hl, r.length]
  refine ⟨fun H => H p = some (.frz o (.dK (ks.zip xs))), _, hn ▸ walk_items, fun H e => e _ _ h, fun i H x H' d hd e y => .inr ?_⟩
  obtain ⟨T, x1, y1, rfl, hT, rfl, h3, h4⟩ := y
  have hi : i < (ks.zip xs).length := by rw [← hn]; exact (List.getElem?_eq_some_iff.mp hd).1
  have hk : i < ks.length := by simp at hi; omega
  have hi2 : i < ds.length := by omega
  have hx : i < xs.length := by rw [r.length]; exact hi2
  dsimp only at h3 h4
  rw [List.getElem?_eq_getElem hi] at h3 h4
  simp only [Option.map_some, Option.some.injEq, List.getElem_zip] at h3 h4
  subst h3; subst h4
  have hd2 : (itemsD ks ds)[i]? = some (.tup [kD ks[i], ds[i]]) := by
    unfold itemsD
    rw [List.getElem?_map, List.getElem?_eq_getElem (by simp; omega)]
    simp
  rw [hd2] at hd
  cases hd
  obtain ⟨v, hv, rv⟩ := r.get (List.getElem?_eq_getElem hi2)
  rw [List.getElem?_eq_getElem hx] at hv
  cases hv
  exact ⟨T, _, _, rfl, hT, rfl, rfl, repL_cons.mpr ⟨_, _, rfl, rep_kD _, RepL.one rv⟩⟩
theorem qi_items {elts : List Expr} {kk : Nat} {tpos apos cpos : Pos} (h : QE X ρ a ta aa) (hbase : attributeBase a "items" X.env (eval a X.env) = eval a X.env := by rfl) (hline : (apos.endLine == cpos.line) = true := by rfl) :
    QI X ρ (.Tuple elts kk tpos) (.Call (.Attribute a "items" apos) [] [] cpos) (iItems ta) (aIItems aa) := ⟨pi_items h.pe hbase hline, fun B σ H G Γ M Q R k hh q => h.rd B σ H G Γ M _ _ k hh fun v H1 G1 Γ1 M1 r k1 e1 rr h1 => by
  split at h1
  · rename_i ks ds
    obtain ⟨p, o, xs, rfl, hp, hl, rl⟩ := rep_dct.mp (show Rep X.K G1 (.dct ks ds) v from rr)
    exact ⟨p, o, _, rfl, k1.ex _ _ hp, q _ H1 G1 Γ1 M1 _ k1 e1 (walkD_items hp hl rl) h1⟩
  · exact h1.elim⟩
/-! ### list(d.items()), dict(pairs) -/
def tLItems (te : TE) : TE := fun σ H Q => te σ H fun x H => ∃ (d : Addr) (kvs : List (L2.Key × V)), x = .ref d ∧ Rd H d (.dK kvs) ∧
  ∀ (H' : Hp) (p : Addr) (ts : List Addr), (∀ b o, H b = some o → H' b = some o) → H p = none → (∀ t ∈ ts, H t = none) → p ∉ ts → H' p = some (.lst (ts.map V.ref)) → Paired (fun (t : Addr) (q : L2.Key × V) => H' t = some (.tup [kV q.1, q.2])) ts kvs → Q (.ref p) H'
theorem pe_lItems {p apos cpos : Pos} (hc : X.calm = true) (he : PE X e te) (hg : Gl X "list") (hm : X.mg "list" = none) (hv : bootBuiltins "list" = some (.type "list")) (hbase : attributeBase e "items" X.env (eval e X.env) = eval e X.env := by rfl) (hline : (apos.endLine == cpos.line) = true := by rfl)
    (hs : starEach [.Call (.Attribute e "items" apos) [] [] cpos] X.env = (false, eval (.Call (.Attribute e "items" apos) [] [] cpos) X.env) :: starEach [] X.env := by rfl) :
    PE X (.Call (.Name "list" p) [.Call (.Attribute e "items" apos) [] [] cpos] [] pos) (tLItems te) := by
  refine ⟨fun pins s σ H Q I hq => ?_⟩
  refine wpAny_Call_Name_kw (ld_blt I hg hm hv ?_)
  refine PyProof.Rows.callWith_type1 ?_ hs rfl
  rw [hs]
  show wpAny _ _ (spliced ((false, eval (.Call (.Attribute e "items" apos) [] [] cpos) X.env) :: backTo pos (starEach [] X.env))) _ _ s
  refine Calls.spliced_cons ?_
  refine wpAny_Call_method (T := "dict") (id := "dict.items") hbase rfl hline F.plainAttrs_dict F.slot_dict_items F.type_dict_items (thn (he.run pins s σ H _ I hq) fun u s1 ⟨x, H1, I1, rx, d, kvs, ex, hd, q⟩ => ?_)
  subst ex
  obtain rfl : u = Value.ref d := rx
  obtain ⟨hz, hs0, vs, kv, hdo⟩ := dk_rd I1.hok hd
  obtain ⟨ep, hat⟩ := hdo.dictAt
  have lk : kvs.length = vs.length := Paired.length kv
  have I2 : Inv X pins σ H1 { s1 with heap := s1.heap.push { cls := .type "dict_items", data := .fields #[.ref d] } } := I1.kept (t' := s1.toks) fun b ob q => Heap.get?_push_of_some _ q
  refine ⟨hdo.typeIs, hdo.mapOf.noDict, ?_⟩
  show wpAny _ _ (callWith cpos (.builtin "dict.items") [.ref d] [] []) _ X.xe s1
  refine method_meetsIn F.slot_dict_items F.entry_dict_items rfl (PySem.evalArgs_none ⟨rfl, hdo.typeIs, F.args_dict_items_1 _, _, meets_dict_items (mixKind X.prog X.w) d hs0, ⟨vs, hdo⟩, ?_⟩)
  refine Calls.spliced_nil ?_
  refine PySem.W.kdx_call (knd := mixKind X.prog X.w) (kvs := vs) (ep := ep) (I1.ok.hd hc) ⟨_, Heap.get?_push_size _ rfl, rfl, rfl⟩ (hat.push _) (by omega) fun h' tk acc c as hk hS hl hG hacc => ?_
  obtain ⟨H', k1, k2, k3, k4, k5, k6, J⟩ := LiI.items_laid (tk := tk) I2 hz kv hk hS hl hG hacc
  exact ⟨.ref _, H', J, rfl, q H' _ as k1 k2 k3 k4 k5 k6⟩
def aLItems (aa : AE) (Γ : Sl) (M : Mem) (Q : Ret → Sl → Mem → Prop) : Prop := aa Γ M fun r Γ1 M1 => match dctOf r Γ1 M1 with
  | some t => Q (.tmp (.lst (itemsD t.1 t.2))) Γ1 M1
  | none => False
theorem paired_items : ∀ {ks : List L2.Key} {ds : List D} {xs : List V} {ts : List Addr} {H' G' : Hp}, ks.length = ds.length → RepL K G' ds xs → Paired (fun (t : Addr) (q : L2.Key × V) => H' t = some (.tup [kV q.1, q.2])) ts (ks.zip xs) → (∀ t ∈ ts, G' t = H' t) → RepL K G' (itemsD ks ds) (ts.map V.ref)
  | [], [], xs, ts, H', G', _, h, hp, _ => by
    rw [repL_nil.mp h, List.zip_nil_right] at hp
    cases hp
    exact repL_nil.mpr rfl
  | k :: ks, d :: ds, xs, ts, H', G', hl, h, hp, hG => by
    obtain ⟨x, r, rfl, h1, h2⟩ := repL_cons.mp h
    rw [List.zip_cons_cons] at hp
    cases hp with
    | @cons t _ ts _ ht hr =>
      refine repL_cons.mpr ⟨_, _, rfl, ?_, paired_items (by simpa using hl) h2 hr fun t' z => hG t' (List.mem_cons_of_mem _ z)⟩
      refine rep_tup.mpr ⟨t, _, rfl, SqT.of (by rw [hG t List.mem_cons_self]; exact ht), repL_cons.mpr ⟨_, _, rfl, rep_kD _, RepL.one h1⟩⟩
theorem q_lItems {p apos cpos : Pos} (hm : X.mg "list" = none) (h : QE X ρ e te ae) (hc : X.calm = true := by rfl) (hg : Gl X "list" := by rfl) (hv : bootBuiltins "list" = some (.type "list") := by decide +kernel) (hbase : attributeBase e "items" X.env (eval e X.env) = eval e X.env := by rfl) (hline : (apos.endLine == cpos.line) = true := by rfl)
    (hs : starEach [.Call (.Attribute e "items" apos) [] [] cpos] X.env = (false, eval (.Call (.Attribute e "items" apos) [] [] cpos) X.env) :: starEach [] X.env := by rfl) :
    QE X ρ (.Call (.Name "list" p) [.Call (.Attribute e "items" apos) [] [] cpos] [] pos) (tLItems te) (aLItems ae) := ⟨pe_lItems hc h.pe hg hm hv hbase hline hs, by
  intro B σ H G Γ M Q R k hh q
  refine h.rd B σ H G Γ M _ _ k hh fun v H1 G1 Γ1 M1 r k1 e1 rr h1 => ?_
  split at h1
  · rename_i t ht
    obtain ⟨l, xs, rfl, hd, hl, hx⟩ := dctOf_ok k1 rr ht
    refine ⟨l, _, rfl, hd, fun H' p ts hh' hp hts hpt hp' hpa => ?_⟩
    obtain ⟨k2, e2⟩ := k1.grow (T := ts) hh' hts
    obtain ⟨m1, n1, b1, g1⟩ := k1.fresh hp
    refine q _ H' _ Γ1 M1 (.tmp (.lst (itemsD t.1 t.2))) k2 (e1.trans e2) ⟨p, rfl, e1.nn p hp, b1, ⟨by show (if p ∈ ts then H' p else G1 p) = none; rw [if_neg hpt]; exact g1, _, hp', _, rfl, ?_⟩, m1, n1⟩ h1
    exact paired_items hl (hx.mono e2.g) hpa fun t ht => by show (if t ∈ ts then H' t else G1 t) = H' t; rw [if_pos ht]
  · exact h1.elim⟩
def pairsOf : List D → Option (List (L2.Key × D))
  | [] => some []
  | .tup [y, d] :: ds => match keyD y with
    | some k => (pairsOf ds).map ((k, d) :: ·)
    | none => none
  | _ :: _ => none
theorem pairsOf_ok : ∀ {ds : List D} {kds : List (L2.Key × D)} {xs : List V}, pairsOf ds = some kds → RepL K G ds xs → ∃ (ps : List Addr) (kvs : List (L2.Key × V)), xs = ps.map V.ref ∧ Paired (fun p kv => SqT K G p [kV kv.1, kv.2]) ps kvs ∧ RepKs K G kds kvs := by
  intro ds
  induction ds with
  | nil => intro kds xs e h; cases e; exact ⟨[], [], repL_nil.mp h, .nil, rfl⟩
  | cons d0 ds ih =>
    intro kds xs e h
    unfold pairsOf at e
    split at e
    · rename_i z; cases z
    · rename_i y d ds' z
      cases z
      split at e
      · rename_i key hy
        obtain ⟨kds', e1, rfl⟩ := Option.map_eq_some_iff.mp e
        obtain ⟨x, r, rfl, h1, h2⟩ := repL_cons.mp h
        obtain ⟨p, ys, rfl, hp, hys⟩ := rep_tup.mp h1
        obtain ⟨yv, r1, rfl, hyv, h3⟩ := repL_cons.mp hys
        obtain ⟨dv, r2, rfl, hdv, h4⟩ := repL_cons.mp h3
        have := repL_nil.mp h4; subst this
        have := rep_key hyv hy; subst this
        obtain ⟨ps, kvs, rfl, hq, hr⟩ := ih e1 h2
        exact ⟨p :: ps, (key, dv) :: kvs, rfl, .cons hp hq, dv, kvs, rfl, hdv, hr⟩
      · cases e
    · cases e
def aDictP (r : Ret) (Γ : Sl) (M : Mem) (Q : Ret → Sl → Mem → Prop) : Prop := match sqOf r Γ M with
  | some (.lst ds) => match pairsOf ds with
    | some kds => Q (.tmp (.dct (mergeA ([], []) kds).1 (mergeA ([], []) kds).2)) Γ M
    | none => False
  | _ => False
theorem paired_mono {α β : Type} {F F' : α → β → Prop} (h : ∀ a b, F a b → F' a b) : ∀ {xs : List α} {ys : List β}, Paired F xs ys → Paired F' xs ys
  | _, _, .nil => .nil
  | _, _, .cons r t => .cons (h _ _ r) (paired_mono h t)
theorem rd_dictP : RdU K ρ (fun xs H Q => ∃ (a : Addr) (ps : List Addr) (kvs : List (L2.Key × V)), xs = [.ref a] ∧ SqL K H a (ps.map V.ref) ∧ Paired (fun p kv => SqT K H p [kV kv.1, kv.2]) ps kvs ∧
    ∀ p, H p = none → Q (.ref p) (upd H p (.dK (mergeK [] kvs)))) aDictP := by
  intro B σ H H1 G Γ M rx x Q R k r1 h q
  unfold aDictP at h
  split at h
  · rename_i ds hs
    split at h
    · rename_i kds hk
      obtain ⟨a, xs, rfl, ha, hx⟩ := sqOf_ok k r1 hs
      obtain ⟨ps, kvs, rfl, hq, hr⟩ := pairsOf_ok hk hx
      refine ⟨a, ps, kvs, rfl, SqL.of ha, paired_mono (fun p kv z => ex_t k.ex z) hq, fun p hp => ?_⟩
      obtain ⟨xs', e3, h3, h4⟩ := mergeA_ok (t := ([], [])) rfl (repL_nil.mpr rfl) hr
      have e3' : mergeK [] kvs = (mergeA ([], []) kds).1.zip xs' := e3
      rw [e3']
      obtain ⟨k2, e2, hm, hn, hb, hg⟩ := k.tmp (o := .dK ((mergeA ([], []) kds).1.zip xs')) hp
      exact q _ _ _ Γ M (.tmp (.dct _ _)) k2 e2 ⟨p, rfl, hp, hb, ⟨hg, _, upd_same, xs', rfl, h4, h3⟩, hm, hn⟩ h
    · exact h.elim
  · exact h.elim
theorem q_dictP {p : Pos} (hm : X.mg "dict" = none) (ha : QE X ρ a ta aa) (hc : X.calm = true := by rfl) (hg : Gl X "dict" := by rfl) (na : starEach [a] X.env = (false, eval a X.env) :: starEach [] X.env := by rfl) (hK : X.K = K := by rfl) :
    QE X ρ (.Call (.Name "dict" p) [a] [] pos) (tCB (fun xs H Q => ∃ (a : Addr) (ps : List Addr) (kvs : List (L2.Key × V)), xs = [.ref a] ∧ SqL K H a (ps.map V.ref) ∧ Paired (fun p kv => SqT K H p [kV kv.1, kv.2]) ps kvs ∧
    ∀ p, H p = none → Q (.ref p) (upd H p (.dK (mergeK [] kvs)))) (tCons ta tNil)) (aCall1 aDictP aa) := by subst hK; exact q_callT1 (call_dictP hc) rd_dictP hm ha hg (na := na)
end
end Gw

namespace Gw
open PySem L2
variable {ρ : Ent}
open PyProof.Rows hiding St
/-! ### chains of comparisons, of any length -/
abbrev TL := V → TE
abbrev AL := Ret → AE
def tLast (r : R2) (tb : TE) : TL := fun x σ H Q => tb σ H fun y H1 => r x y H1 Q
def tLink (r : R2) (tb : TE) (t : TL) : TL := fun x σ H Q => tb σ H fun y H1 => r x y H1 fun z H2 => ∃ k, z = .bl k ∧ (if k = true then t y σ H2 Q else Q (.bl false) H2)
def tChainN (ta : TE) (t : TL) : TE := fun σ H Q => ta σ H fun x H1 => t x σ H1 Q
def aLast (ao : AOp) (ab : AE) (x : Ret) (Γ : Sl) (M : Mem) (Q : Ret → Sl → Mem → Prop) : Prop := ab Γ M fun y Γ1 M1 => ao x y Γ1 M1 Q
def aLink (ao : AOp) (ab : AE) (al : AL) (x : Ret) (Γ : Sl) (M : Mem) (Q : Ret → Sl → Mem → Prop) : Prop := ab Γ M fun y Γ1 M1 => ao x y Γ1 M1 fun z Γ2 M2 => match z with
  | .dat (.bl k) => if k = true then al y Γ2 M2 Q else Q (.dat (.bl false)) Γ2 M2
  | _ => False
def aChainN (aa : AE) (al : AL) (Γ : Sl) (M : Mem) (Q : Ret → Sl → Mem → Prop) : Prop := aa Γ M fun x Γ1 M1 => al x Γ1 M1 Q
structure QL (X : Cx) (ρ : Ent) (ops : List CmpOp) (rs : List Expr) (t : TL) (al : AL) : Prop where
  run : ∀ (pos : Pos) (pins : List (Addr × Obj)) (s : Shared) (σ : L2.St) (H : Hp) (Q : VK) (x : V) (v : Value), Inv X pins σ H s → RelV x v → t x σ H Q → wpAny (model X.prog X.w) X.A (compareChain pos v ops (evalEach rs X.env)) (EP X pins σ Q) X.xe s
  tst : ∀ (pos : Pos) (pins : List (Addr × Obj)) (s : Shared) (σ : L2.St) (H : Hp) (Q : Bool → Hp → Prop) (x : V) (v : Value), Inv X pins σ H s → RelV x v → t x σ H (fun z H' => ∃ k, z = .bl k ∧ Q k H') →
    wpAny (model X.prog X.w) X.A (testChain pos v ops (evalEach rs X.env)) (fun b s' => ∃ H', Inv X pins σ H' s' ∧ Q b H') X.xe s
  rd : ∀ B σ H H0 G Γ M rx x Q R, Ok X.K ρ B σ H G Γ M → RepR X.K B σ H0 H G Γ M rx x → al rx Γ M Q → Kont X.K ρ B σ H G Γ M Q R → t x σ H R
section
variable {X : Cx} {a b c e : Expr} {ta tb tc te : TE} {aa ab ac ae : AE} {pos : Pos} {K : PySem.W.Frag} {B : Ent} {σ : L2.St} {H G H1 G1 H2 G2 H0 : Hp} {Γ Γ1 Γ2 : Sl} {M M1 M2 : Mem}
theorem ql_last {op : CmpOp} {r : R2} {ao : AOp} (c : CmpR X ρ op r ao) (hb : QE X ρ b tb ab) : QL X ρ [op] [b] (tLast r tb) (aLast ao ab) := ⟨
  fun pos pins s σ H Q x v I rx h => chain_last (thn (hb.pe.run pins s σ H _ I h) fun u s1 ⟨y, H1, I1, r1, q1⟩ => c.ho pins s1 σ H1 x y v u Q I1 rx r1 q1),
  fun pos pins s σ H Q x v I rx h => test_last (thn (hb.pe.run pins s σ H _ I h) fun u s1 ⟨y, H1, I1, r1, q1⟩ => thn (c.ho pins s1 σ H1 x y v u _ I1 rx r1 q1) fun d s2 ⟨z, H2, I2, r2, k, e, q⟩ => by
    subst e; cases r2
    exact wpAny_truthy_bool ⟨H2, I2, q⟩),
  fun B σ H H0 G Γ M rx x Q R k rr h q => hb.rd B σ H G Γ M _ _ k h fun u H1 G1 Γ1 M1 r1 k1 e1 rr1 h1 => c.rd B σ H1 _ _ G1 Γ1 M1 rx r1 x u Q R k1 (rr.es e1) rr1 h1 (q.es e1)⟩
theorem ql_link {op op' : CmpOp} {ops : List CmpOp} {b' : Expr} {rs : List Expr} {r : R2} {ao : AOp} {t : TL} {al : AL} (c : CmpR X ρ op r ao) (hb : QE X ρ b tb ab) (hl : QL X ρ (op' :: ops) (b' :: rs) t al) : QL X ρ (op :: op' :: ops) (b :: b' :: rs) (tLink r tb t) (aLink ao ab al) := ⟨
  fun pos pins s σ H Q x v I rx h => chain_link (thn (hb.pe.run pins s σ H _ I h) fun u s1 ⟨y, H1, I1, r1, q1⟩ => thn (c.ho pins s1 σ H1 x y v u _ I1 rx r1 q1) fun d s2 ⟨z, H2, I2, r2, k, e, q⟩ => by
    subst e; cases r2
    refine wpAny_truthy_bool ?_
    cases k with
    | false => exact ite_ff ⟨.bl false, H2, I2, rfl, by simpa using q⟩
    | true => exact ite_tt (hl.run pos pins s2 σ H2 Q y u I2 r1 (by simpa using q))),
  fun pos pins s σ H Q x v I rx h => test_link (thn (hb.pe.run pins s σ H _ I h) fun u s1 ⟨y, H1, I1, r1, q1⟩ => thn (c.ho pins s1 σ H1 x y v u _ I1 rx r1 q1) fun d s2 ⟨z, H2, I2, r2, k, e, q⟩ => by
    subst e; cases r2
    refine wpAny_truthy_bool ?_
    cases k with
    | false =>
      have q' : ∃ k, V.bl false = .bl k ∧ Q k H2 := by simpa using q
      obtain ⟨k', e', q'⟩ := q'
      cases e'
      exact ite_ff ⟨H2, I2, q'⟩
    | true => exact ite_tt (hl.tst pos pins s2 σ H2 Q y u I2 r1 (by simpa using q))),
  fun B σ H H0 G Γ M rx x Q R k rr h q => hb.rd B σ H G Γ M _ _ k h fun u H1 G1 Γ1 M1 r1 k1 e1 rr1 h1 => c.rd B σ H1 _ _ G1 Γ1 M1 rx r1 x u _ _ k1 (rr.es e1) rr1 h1 fun z H2 G2 Γ2 M2 r2 k2 e2 rr2 h2 => by
    split at h2
    · rename_i kb
      have e : z = .bl kb := by have := rr2; simp only [RepR, Rep] at this; exact this
      refine ⟨kb, e, ?_⟩
      cases kb with
      | true => exact hl.rd B σ H2 _ G2 Γ2 M2 r1 u Q R k2 (rr1.es e2) (by simpa using h2) (q.es (e1.trans e2))
      | false => exact q _ H2 G2 Γ2 M2 (.dat (.bl false)) k2 (e1.trans e2) (by simp only [RepR, Rep]) (by simpa using h2)
    · exact h2.elim⟩
theorem rd_chainN {ops : List CmpOp} {rs : List Expr} {t : TL} {al : AL} (ha : RdE X.K ρ ta aa) (hl : QL X ρ ops rs t al) : RdE X.K ρ (tChainN ta t) (aChainN aa al) := fun B σ H G Γ M Q R k h q =>
  ha B σ H G Γ M _ _ k h fun v H1 G1 Γ1 M1 r1 k1 e1 rr1 h1 => hl.rd B σ H1 _ G1 Γ1 M1 r1 v Q R k1 rr1 h1 (q.es e1)
theorem q_chainN {op op' : CmpOp} {ops : List CmpOp} {b' : Expr} {rs : List Expr} {t : TL} {al : AL} (ha : QE X ρ a ta aa) (hl : QL X ρ (op :: op' :: ops) (b :: b' :: rs) t al) (hm : lastMarks (op :: op' :: ops) (b :: b' :: rs) = false := by with_unfolding_all rfl) :
    QE X ρ (.Compare a (op :: op' :: ops) (b :: b' :: rs) pos) (tChainN ta t) (aChainN aa al) :=
  ⟨⟨fun pins s σ H Q I h => Compare_chain (thn (ha.pe.run pins s σ H _ I h) fun v s1 ⟨x, H1, I1, r1, q1⟩ => hl.run pos pins s1 σ H1 Q x v I1 r1 q1) hm⟩, rd_chainN ha.rd hl⟩
theorem qt_chainN {op op' : CmpOp} {ops : List CmpOp} {b' : Expr} {rs : List Expr} {t : TL} {al : AL} (ha : QE X ρ a ta aa) (hl : QL X ρ (op :: op' :: ops) (b :: b' :: rs) t al) (hm : lastMarks (op :: op' :: ops) (b :: b' :: rs) = false := by with_unfolding_all rfl) :
    QT X ρ (.Compare a (op :: op' :: ops) (b :: b' :: rs) pos) (tTest (tChainN ta t)) (aTst (aChainN aa al)) :=
  ⟨⟨fun pins s σ H Q I h => isTrue_chain (thn (ha.pe.run pins s σ H _ I h) fun v s1 ⟨x, H1, I1, r1, q1⟩ => hl.tst pos pins s1 σ H1 Q x v I1 r1 q1) hm⟩, rd_tst' (rd_chainN ha.rd hl)⟩
/-! ### a, b, .. = a list -/
def agTL (n : Nat) (u : AGs) (d : D) (Γ : Sl) (Q : Sl → Prop) : Prop := match d with
  | .lst ds => ds.length = n ∧ u ds Γ Q
  | _ => False
theorem rd_gTL {n : Nat} {u : TGs} {ag : AGs} {is : List Nat} (h2 : RdGs K ρ u ag is) : RdG K ρ (gUnl K n u) (agTL n ag) is := fun B σ H G Γ M d v Q R k r h q => by
  unfold agTL at h
  split at h
  · rename_i ds
    obtain ⟨a, xs, e, hq, rl⟩ := rep_lst.mp r
    exact ⟨a, xs, e, SqL.of (k.ex _ _ hq), by rw [rl.length]; exact h.1, h2 B σ H G Γ M ds xs Q R k rl h.2 q⟩
  · exact h.elim
theorem qg_tupL {es : List Expr} {kk n : Nat} {u : TGs} {ag : AGs} {is : List Nat} (h : QGs X ρ es u ag is) (hc : X.calm = true := by rfl) (hn : (assignEach es X.env).length = n := by rfl) (hst : (assignEach es X.env).findIdx? (·.1) = none := by rfl) (hK : X.K = K := by rfl) : QG X ρ (.Tuple es kk pos) (gUnl K n u) (agTL n ag) is := by
  subst hK; exact ⟨pg_unl hc h.pe hn hst, rd_gTL h.rd⟩
/-! ### dict(enumerate(xs)) -/
def enumK {α : Type} : Nat → List α → List (L2.Key × α)
  | _, [] => []
  | i, x :: xs => (.inl (i : Int), x) :: enumK (i + 1) xs
theorem enumK_get {α : Type} : ∀ (xs : List α) (n i : Nat) (x : α), xs[i]? = some x → (enumK n xs)[i]? = some (.inl ((n + i : Nat) : Int), x)
  | [], _, i, x, h => by simp at h
  | y :: xs, n, 0, x, h => by simp at h; subst h; rfl
  | y :: xs, n, i + 1, x, h => by
    have := enumK_get xs (n + 1) i x (by simpa using h)
    rw [enumK, List.getElem?_cons_succ, this, show n + 1 + i = n + (i + 1) by omega]
theorem enumK_len {α : Type} : ∀ (xs : List α) (n : Nat), (enumK n xs).length = xs.length
  | [], _ => rfl
  | y :: xs, n => by rw [enumK, List.length_cons, List.length_cons, enumK_len xs]
theorem enumK_vals : ∀ {xs : List V} {us : List Value} {n : Nat}, Vals xs us → KV (enumK n xs) (enumK n us)
  | [], _, n, r => by cases r; exact .nil
  | x :: xs, _, n, r => by
    cases r with
    | cons h t => exact .cons ⟨rfl, h⟩ (enumK_vals t)
theorem enumK_rep : ∀ {ds : List D} {xs : List V} {n : Nat}, RepL K G ds xs → RepKs K G (enumK n ds) (enumK n xs)
  | [], _, n, h => by rw [repL_nil.mp h]; rfl
  | d :: ds, _, n, h => by
    obtain ⟨x, r, rfl, h1, h2⟩ := repL_cons.mp h
    exact ⟨x, _, rfl, h1, enumK_rep h2⟩
def tDictEnum (K : PySem.W.Frag) (te : TE) : TE := fun σ H Q => te σ H fun x H1 => ∃ a xs, x = .ref a ∧ SqL K H1 a xs ∧ ∀ p, H1 p = none → Q (.ref p) (upd H1 p (.dK (mergeK [] (enumK 0 xs))))
theorem pe_dictEnum {p p2 cpos : Pos} (hc : X.calm = true) (he : PE X e te) (hg : Gl X "dict") (hm : X.mg "dict" = none) (hv : bootBuiltins "dict" = some (.type "dict")) (hg2 : Gl X "enumerate") (hm2 : X.mg "enumerate" = none)
    (hs : starEach [.Call (.Name "enumerate" p2) [e] [] cpos] X.env = (false, eval (.Call (.Name "enumerate" p2) [e] [] cpos) X.env) :: starEach [] X.env := by rfl) (hs2 : starEach [e] X.env = (false, eval e X.env) :: starEach [] X.env := by rfl) :
    PE X (.Call (.Name "dict" p) [.Call (.Name "enumerate" p2) [e] [] cpos] [] pos) (tDictEnum X.K te) := by
  refine ⟨fun pins s σ H Q I hq => ?_⟩
  refine wpAny_Call_Name_kw (ld_blt I hg hm hv ?_)
  refine PyProof.Rows.callWith_type1 ?_ hs rfl
  rw [hs]
  show wpAny _ _ (spliced ((false, eval (.Call (.Name "enumerate" p2) [e] [] cpos) X.env) :: backTo pos (starEach [] X.env))) _ _ s
  refine Calls.spliced_cons ?_
  refine wpAny_Call_Name_kw (ld_blt I hg2 hm2 boot_enumerate ?_)
  refine PyProof.Rows.callWith_type1 ?_ hs2 rfl
  rw [hs2]
  show wpAny _ _ (spliced ((false, eval e X.env) :: backTo cpos (starEach [] X.env))) _ _ s
  refine Calls.spliced_cons (thn (he.run pins s σ H _ I hq) fun u s1 ⟨x, H1, I1, rx, d, xs, ex, hd, q⟩ => Calls.spliced_nil ?_)
  subst ex
  obtain rfl : u = Value.ref d := rx
  obtain ⟨its, rv, p', hz⟩ := I1.list hd
  refine call_enumerate_list p'.isList fun h' he hit hsz hk => ?_
  refine Calls.spliced_nil ?_
  have hl : s1.heap.objs.size ≠ d := by
    obtain ⟨o, n, ho, _⟩ := p'
    exact Nat.ne_of_gt (Heap.lt_size ho)
  have hl2 : s1.heap.objs.size + 1 ≠ d := by
    obtain ⟨o, n, ho, _⟩ := p'
    exact Nat.ne_of_gt (Nat.lt_succ_of_lt (Heap.lt_size ho))
  refine PySem.call_dict_pairs (knd := mixKind X.prog X.w) (kvs := enumK 0 its) (PairArg.enumerate (s1.heap.objs.size + 1) s1.heap.objs.size d (Nat.succ_ne_self _) (Ne.symm hl2) (Ne.symm hl) its.toArray) (I1.ok.hd hc) ⟨⟨_, he⟩, hit, (p'.isList).at fun o x => hk _ o x⟩ ⟨by rw [enumK_len]; simp, fun i key v hr => ?_⟩ (by rw [show its.toArray.size = its.length by simp, ← rv.length]; exact hz) fun h'' tk hd' hk' => ?_
  · obtain ⟨⟨t, rfl⟩, hi⟩ := hr
    have := enumK_get its 0 i v (by simpa using hi)
    rw [Nat.zero_add] at this
    exact ⟨_, this, kV_is (k := .inl (i : Int)) ⟨t, rfl⟩⟩
  · have hm' : (h'.objs.size == sysModules) = false := beq_eq_false_iff_ne.mpr (by rw [hsz]; exact Nat.ne_of_gt (Nat.lt_of_lt_of_le I1.big (Nat.le_add_right _ 2)))
    have hlen : (mergeK [] (enumK 0 xs)).length ≤ sizeLine := by
      refine Nat.le_trans (length_mergeK _ []) ?_
      rw [List.length_nil, Nat.zero_add, enumK_len]; exact hz
    have keep : ∀ b o, s1.heap.get? b = some o → h''.get? b = some o := fun b o eb => hk' b o (fun hb => by
      have := Heap.lt_size eb
      simp at hb
      rcases hb with z | z
      · rw [z] at this; exact absurd this (Nat.not_lt.mpr (Nat.le_add_right _ 1))
      · rw [z] at this; exact Nat.lt_irrefl _ this) (hk b o eb)
    exact ⟨.ref h'.objs.size, upd H1 h'.objs.size (.dK (mergeK [] (enumK 0 xs))), I1.laid (t' := tk) keep (by rw [hsz]; omega) (show ObjOk X.prog X.w _ _ _ (.dK (mergeK [] (enumK 0 xs))) from ⟨hlen, hm', merged [] (enumK 0 its), KV.merge (enumK_vals rv) .nil, hd'⟩), rfl, q _ (I1.hok.fresh (by rw [hsz]; omega))⟩
def aDictEnum (aa : AE) (Γ : Sl) (M : Mem) (Q : Ret → Sl → Mem → Prop) : Prop := aa Γ M fun r Γ1 M1 => match sqOf r Γ1 M1 with
  | some (.lst ds) => Q (.tmp (.dct (mergeA ([], []) (enumK 0 ds)).1 (mergeA ([], []) (enumK 0 ds)).2)) Γ1 M1
  | _ => False
theorem q_dictEnum {p p2 cpos : Pos} (hm : X.mg "dict" = none) (hm2 : X.mg "enumerate" = none) (h : QE X ρ e te ae) (hc : X.calm = true := by rfl) (hg : Gl X "dict" := by rfl) (hv : bootBuiltins "dict" = some (.type "dict") := by decide +kernel) (hg2 : Gl X "enumerate" := by rfl)
    (hs : starEach [.Call (.Name "enumerate" p2) [e] [] cpos] X.env = (false, eval (.Call (.Name "enumerate" p2) [e] [] cpos) X.env) :: starEach [] X.env := by rfl) (hs2 : starEach [e] X.env = (false, eval e X.env) :: starEach [] X.env := by rfl) (hK : X.K = K := by rfl) :
    QE X ρ (.Call (.Name "dict" p) [.Call (.Name "enumerate" p2) [e] [] cpos] [] pos) (tDictEnum K te) (aDictEnum ae) := by
  subst hK
  refine ⟨pe_dictEnum hc h.pe hg hm hv hg2 hm2 hs hs2, ?_⟩
  intro B σ H G Γ M Q R k hh q
  refine h.rd B σ H G Γ M _ _ k hh fun v H1 G1 Γ1 M1 r k1 e1 rr h1 => ?_
  split at h1
  · rename_i ds hs
    obtain ⟨a, xs, rfl, ha, hx⟩ := sqOf_ok k1 rr hs
    refine ⟨a, xs, rfl, SqL.of ha, fun p hp => ?_⟩
    obtain ⟨xs', e3, h3, h4⟩ := mergeA_ok (t := ([], [])) rfl (repL_nil.mpr rfl) (enumK_rep (n := 0) hx)
    have e3' : mergeK [] (enumK 0 xs) = (mergeA ([], []) (enumK 0 ds)).1.zip xs' := e3
    rw [e3']
    obtain ⟨k2, e2, hm, hn, hb, hg⟩ := k1.tmp (o := .dK ((mergeA ([], []) (enumK 0 ds)).1.zip xs')) hp
    exact q _ _ _ Γ1 M1 (.tmp (.dct _ _)) k2 (e1.trans e2) ⟨p, rfl, e1.nn p hp, hb, ⟨hg, _, upd_same, xs', rfl, h4, h3⟩, hm, hn⟩ h1
  · exact h1.elim
end
end Gw

namespace Gw
open PySem L2
variable {ρ : Ent}
section
variable {X : Cx} {a b c e : Expr} {ta tb tc te : TE} {aa ab ac ae : AE} {pos : Pos} {K : PySem.W.Frag} {B : Ent} {σ : St} {H G H1 G1 H2 G2 H0 : Hp} {Γ Γ1 Γ2 : Sl} {M M1 M2 : Mem}
/-! ### isinstance of the kinds of data -/
inductive Knd where
  | int | bool | str | tuple | list | dict
def Knd.nm : Knd → String
  | .int => "int" | .bool => "bool" | .str => "str" | .tuple => "tuple" | .list => "list" | .dict => "dict"
def isD : Knd → D → Bool
  | .int, .int _ => true
  | .int, .bl _ => true
  | .bool, .bl _ => true
  | .str, .str _ => true
  | .tuple, .tup _ => true
  | .list, .lst _ => true
  | .list, .scr _ => true
  | .dict, .dct _ _ => true
  | _, _ => false
def tyN : D → String
  | .non => "NoneType" | .bl _ => "bool" | .int _ => "int" | .str _ => "str" | .tup _ => "tuple" | .lst _ => "list" | .scr _ => "list" | .dct _ _ => "dict" | .dcT _ _ => "object" | .ref _ => "object" | .exc _ _ _ => "object"
def NoRef : D → Prop
  | .ref _ => False
  | .exc _ _ _ => False
  | .dcT _ _ => False
  | _ => True
theorem kit_isD (T : Knd) (d : D) (h : NoRef d) : kitB (tyN d) T.nm = some (isD T d) := by
  cases d with
  | ref a => exact h.elim
  | exc _ _ _ => exact h.elim
  | dcT _ _ => exact h.elim
  | _ => cases T <;> (simp only [tyN, Knd.nm, isD]; decide +kernel)
/-- what stands there, as a kind of data -/
def kdOf (r : Ret) (Γ : Sl) (M : Mem) : Option D := match r with
  | .dat d => match d with
    | .ref a => match M.lookup a with
      | some (.lst ds) => some (.lst ds)
      | some (.dct ks ds) => some (.dct ks ds)
      | _ => none
    | .exc _ _ _ => none
    | .dcT _ _ => none
    | d => some d
  | .tmp (.lst ds) => some (.lst ds)
  | .tmp (.dct ks ds) => some (.dct ks ds)
  | .tmp (.dcT _ _) => none
  | .var i => match Γ[i]? with
    | some (.own (.lst ds)) => some (.lst ds)
    | some (.own (.dct ks ds)) => some (.dct ks ds)
    | _ => none
theorem ty_tup {p : Addr} {xs : List V} (h : SqT K H p xs) : TyX K H (.ref p) (.type "tuple") := by
  rcases h with (h | ⟨o, h⟩) | ⟨o, its, n, h1, h2, _⟩
  · exact .base (.tup h)
  · exact .fTuple h
  · exact .kTuple h1 h2
theorem ty_lst {p : Addr} {xs : List V} (h : SqL K H p xs) : TyX K H (.ref p) (.type "list") := by
  rcases h with (h | ⟨o, h⟩) | ⟨o, its, n, h1, h2, _⟩
  · exact .base (.lst h)
  · exact .base (.frz h)
  · exact .kList h1 h2
theorem rep_ty {d : D} {v : V} (o : Ex G H) (h : Rep K G d v) (n : NoRef d) : TyX K H v (.type (tyN d)) := by
  cases d with
  | non => rw [Rep] at h; subst h; exact .base .non
  | bl b => rw [Rep] at h; subst h; exact .base (.bl b)
  | int b => rw [Rep] at h; subst h; exact .base (.int b)
  | str b => rw [Rep] at h; subst h; exact .base (.str b)
  | ref a => exact n.elim
  | exc _ _ _ => exact n.elim
  | dcT _ _ => exact n.elim
  | tup ds => obtain ⟨p, xs, rfl, h1, _⟩ := rep_tup.mp h; exact ty_tup (ex_t o h1)
  | lst ds => obtain ⟨p, xs, rfl, h1, _⟩ := rep_lst.mp h; exact .base (.lst (o _ _ h1))
  | scr ds => obtain ⟨p, xs, rfl, h1, _⟩ := rep_scr.mp h; exact ty_lst (ex_l o h1)
  | dct ks ds => obtain ⟨p, u, xs, rfl, h1, _⟩ := rep_dct.mp h; exact .fDict (o _ _ h1)
theorem cel_tyL {p : Addr} {ds : List D} (h : Cel K H G p (.lst ds)) : TyX K H (.ref p) (.type "list") := by
  obtain ⟨_, o, ho, vs, rfl, _⟩ := h
  exact .base (.lst ho)
theorem cel_tyD {p : Addr} {ks : List L2.Key} {ds : List D} (h : Cel K H G p (.dct ks ds)) : TyX K H (.ref p) (.type "dict") := by
  obtain ⟨_, o, ho, vs, rfl, _⟩ := h
  exact .base (.dK ho)
theorem kdOf_ok {r : Ret} {v : V} {d : D} {H0 : Hp} (k : Ok K ρ B σ H G Γ M) (rr : RepR K B σ H0 H G Γ M r v) (h : kdOf r Γ M = some d) : TyX K H v (.type (tyN d)) ∧ NoRef d := by
  cases r with
  | dat d' =>
    cases d' with
    | ref p =>
      simp only [kdOf] at h
      have rv : v = .ref p := by have := rr; simp only [RepR, Rep] at this; exact this
      subst rv
      split at h
      · rename_i ds e; cases h; exact ⟨cel_tyL (k.ms p _ (lookup_mem e)), trivial⟩
      · rename_i ks ds e; cases h; exact ⟨cel_tyD (k.ms p _ (lookup_mem e)), trivial⟩
      · cases h
    | exc _ _ _ => cases h
    | dcT _ _ => cases h
    | _ => cases h; exact ⟨rep_ty k.ex rr trivial, trivial⟩
  | tmp c =>
    obtain ⟨p, rfl, _, _, hc, _⟩ := rr
    cases c with
    | lst ds => cases h; exact ⟨cel_tyL hc, trivial⟩
    | dct ks ds => cases h; exact ⟨cel_tyD hc, trivial⟩
    | dcT ks ds => cases h
  | var i =>
    simp only [kdOf] at h
    split at h
    · rename_i ds e
      cases h
      obtain ⟨p, s1, _, _, hc⟩ := k.own i _ e
      have : v = .ref p := by have := (show σ[i]? = some (some v) from rr); rw [s1] at this; cases this; rfl
      subst this
      exact ⟨cel_tyL hc, trivial⟩
    · rename_i ks ds e
      cases h
      obtain ⟨p, s1, _, _, hc⟩ := k.own i _ e
      have : v = .ref p := by have := (show σ[i]? = some (some v) from rr); rw [s1] at this; cases this; rfl
      subst this
      exact ⟨cel_tyD hc, trivial⟩
    · cases h
def aIsi (T : Knd) (r : Ret) (Γ : Sl) (M : Mem) (Q : Ret → Sl → Mem → Prop) : Prop := match kdOf r Γ M with
  | some d => Q (.dat (.bl (isD T d))) Γ M
  | none => False
def tIsi (K : PySem.W.Frag) (T : Knd) (te : TE) : TE := tCB (rIsi K) (tCons te (tCons (tC (.ty T.nm)) tNil))
theorem q_isi (T : Knd) {p p2 : Pos} {tn : Str} (hm : X.mg "isinstance" = none) (hm2 : X.mg tn = none) (ha : QE X ρ a ta aa) (hg : Gl X "isinstance" := by rfl) (hg2 : Gl X tn := by rfl) (hv : bootBuiltins tn = some (.type T.nm) := by decide +kernel) (hn : tn ≠ "__name__" := by decide) (hdb : (tn == ("__debug__" : Str)) = false := by decide)
    (na : starEach [a, .Name tn p2] X.env = (false, eval a X.env) :: starEach [.Name tn p2] X.env := by rfl) (hpl : (backTo pos (starEach [.Name tn p2] X.env)).any (·.1) = false := by rfl) (hK : X.K = K := by rfl) :
    QE X ρ (.Call (.Name "isinstance" p) [a, .Name tn p2] [] pos) (tIsi K T ta) (aUn (aIsi T) aa) := by
  subst hK
  refine ⟨pe_callB call_isi hg hm (by decide +kernel) (pa_cons ha.pe (pa_cons (pe_bltn hg2 hm2 hv rfl hn hdb) pa_nil rfl) na) (by decide) (by decide) na hpl, ?_⟩
  intro B σ H G Γ M Q R k h q
  refine ha.rd B σ H G Γ M _ _ k h fun v H1 G1 Γ1 M1 r k1 e1 rr h1 => ?_
  unfold aIsi at h1
  split at h1
  · rename_i d hd
    obtain ⟨ty, nr⟩ := kdOf_ok k1 rr hd
    refine ⟨v, .ty T.nm, .type (tyN d), .type T.nm, isD T d, rfl, .ty _, ty, kit_ty (kit_isD T d nr), q _ H1 G1 Γ1 M1 (.dat (.bl _)) k1 e1 (by simp only [RepR, Rep]) h1⟩
  · exact h1.elim
theorem room_inD {A : Around} {d : PyData} {k : Nat} (sd : SeqAt.shaped d = true) (hu : A.units + 65 < cLine) : A.units + 1 + min k d.depth < cLine := by
  have h : d.depth ≤ 64 := by unfold SeqAt.shaped at sd; simp only [Bool.and_eq_true, decide_eq_true_eq] at sd; exact sd.2
  have := Nat.min_le_right k d.depth
  omega
/-! ### membership of data in tuples and lists of data -/
def rInT (K : PySem.W.Frag) (neg : Bool) : R2 := fun x y H Q => ∃ d ds, Dp K H x d ∧ (Dp K H y (.tuple ds) ∨ Dp K H y (.list ds)) ∧ SeqAt.shaped d = true ∧ SeqAt.shaped (.list ds) = true ∧ Q (.bl (if neg then !(ds.any fun z => PyData.eqv z d) else ds.any fun z => PyData.eqv z d)) H
theorem op_inT (hu : X.A.units + 65 < cLine) : OpR X (compareOp .In) (rInT X.K false) := by
  intro pins s σ H x y v u Q I rx ry h
  obtain ⟨d, ds, hd, he, sd, se, q⟩ := h
  obtain ⟨as, r1⟩ := Dp.reads I d x v hd rx
  rcases he with he | he
  · obtain ⟨bs, r2⟩ := Dp.reads I (.tuple ds) y u he ry
    exact SeqAt.in_tuple_reads r2 r1 (SeqAt.canLay_of_shaped se) (SeqAt.canLay_of_shaped sd) (room_inD sd hu) ⟨.bl _, H, I, rfl, q⟩
  · obtain ⟨bs, r2⟩ := Dp.reads I (.list ds) y u he ry
    exact SeqAt.in_list_reads r2 r1 (SeqAt.canLay_of_shaped se) (SeqAt.canLay_of_shaped sd) (room_inD sd hu) ⟨.bl _, H, I, rfl, q⟩
theorem op_notInT (hu : X.A.units + 65 < cLine) : OpR X (compareOp .NotIn) (rInT X.K true) := by
  intro pins s σ H x y v u Q I rx ry h
  obtain ⟨d, ds, hd, he, sd, se, q⟩ := h
  obtain ⟨as, r1⟩ := Dp.reads I d x v hd rx
  rcases he with he | he
  · obtain ⟨bs, r2⟩ := Dp.reads I (.tuple ds) y u he ry
    exact SeqAt.notIn_tuple_reads r2 r1 (SeqAt.canLay_of_shaped se) (SeqAt.canLay_of_shaped sd) (room_inD sd hu) ⟨.bl _, H, I, rfl, q⟩
  · obtain ⟨bs, r2⟩ := Dp.reads I (.list ds) y u he ry
    exact SeqAt.notIn_list_reads r2 r1 (SeqAt.canLay_of_shaped se) (SeqAt.canLay_of_shaped sd) (room_inD sd hu) ⟨.bl _, H, I, rfl, q⟩
theorem any_toPyL {d : D} : ∀ ds : List D, ((toPyL ds).any fun z => PyData.eqv z (toPy d)) = inD d ds
  | [] => by rw [toPyL]; rfl
  | e :: ds => by rw [toPyL, List.any_cons, any_toPyL ds]; rfl
def aInT (f : Bool → Bool) (x : Ret) (y : Ret) (Γ : Sl) (M : Mem) (Q : Ret → Sl → Mem → Prop) : Prop := match dOf x Γ M, dOf y Γ M with
  | some d, some e => match e with
    | .tup ds => cmpOk d = true ∧ cmpOk (.lst ds) = true ∧ Q (.dat (.bl (f (inD d ds)))) Γ M
    | .lst ds => cmpOk d = true ∧ cmpOk (.lst ds) = true ∧ Q (.dat (.bl (f (inD d ds)))) Γ M
    | _ => False
  | _, _ => False
theorem rd_inT {neg : Bool} {f : Bool → Bool} (hf : f = if neg then not else id) : RdO K ρ (rInT K neg) (aInT f) := by
  intro B σ H H1 H2 G Γ M rx ry x y Q R k r1 r2 h q
  unfold aInT at h
  have fin : ∀ (d : D) (ds : List D), RepR K B σ H H G Γ M (.dat (.bl (f (inD d ds)))) (.bl (if neg then !((toPyL ds).any fun z => PyData.eqv z (toPy d)) else (toPyL ds).any fun z => PyData.eqv z (toPy d))) := by
    intro d ds
    subst hf
    rw [any_toPyL]
    cases neg <;> simp [RepR, Rep]
  split at h
  · rename_i d e hd he
    split at h
    · rename_i ds
      obtain ⟨c1, c2, h⟩ := h
      have c1' := c1
      have c2' := c2
      simp only [cmpOk, Bool.and_eq_true] at c1' c2'
      have p2 : Gw.plain (.tup ds) = true := by have := c2'.1; simpa only [Gw.plain] using this
      have e2 := (dOf_ok k r2 he).dp p2
      rw [toPy] at e2
      have s2 := c2'.2
      rw [toPy] at s2
      exact ⟨toPy d, toPyL ds, (dOf_ok k r1 hd).dp c1'.1, .inl e2, c1'.2, s2, q _ H G Γ M (.dat (.bl _)) k .refl (fin d ds) h⟩
    · rename_i ds
      obtain ⟨c1, c2, h⟩ := h
      have c1' := c1
      have c2' := c2
      simp only [cmpOk, Bool.and_eq_true] at c1' c2'
      have e2 := (dOf_ok k r2 he).dp c2'.1
      rw [toPy] at e2
      have s2 := c2'.2
      rw [toPy] at s2
      exact ⟨toPy d, toPyL ds, (dOf_ok k r1 hd).dp c1'.1, .inr e2, c1'.2, s2, q _ H G Γ M (.dat (.bl _)) k .refl (fin d ds) h⟩
    · exact h.elim
  · exact h.elim
theorem c_inT (hu : X.A.units + 100 < cLine) (hK : X.K = K := by rfl) : CmpR X ρ .In (rInT K false) (aInT id) := by subst hK; exact ⟨op_inT (by omega), rd_inT rfl⟩
theorem c_notInT (hu : X.A.units + 100 < cLine) (hK : X.K = K := by rfl) : CmpR X ρ .NotIn (rInT K true) (aInT not) := by subst hK; exact ⟨op_notInT (by omega), rd_inT rfl⟩
/-! ### xs[::-1] of a list, max of whole numbers -/
def aRevL (r : Ret) (Γ : Sl) (M : Mem) (Q : Ret → Sl → Mem → Prop) : Prop := match sqOf r Γ M with
  | some (.lst ds) => Q (.tmp (.lst ds.reverse)) Γ M
  | some (.scr ds) => Q (.tmp (.lst ds.reverse)) Γ M
  | _ => False
theorem q_revL {k : Nat} {p1 p2 p3 : Pos} (ha : QE X ρ a ta aa) (hK : X.K = K := by rfl) : QE X ρ (.Subscript a (.Slice none none (some (.UnaryOp .USub (.Constant (.int 1) k p1) p2)) p3) pos) (tRevL K ta) (aUn aRevL aa) := by
  subst hK
  refine ⟨pe_revL ha.pe, fun B σ H G Γ M Q R k h q => ha.rd B σ H G Γ M _ _ k h fun v H1 G1 Γ1 M1 r k1 e1 rr h1 => ?_⟩
  unfold aRevL at h1
  split at h1
  · rename_i ds hs
    obtain ⟨p, xs, e, hx, rl⟩ := sqOf_ok k1 rr hs
    exact ⟨p, xs, e, SqL.of hx, (q.es e1).newL k1 rl.reverse h1⟩
  · rename_i ds hs
    obtain ⟨p, xs, e, hx, rl⟩ := sqOf_ok k1 rr hs
    exact ⟨p, xs, e, hx, (q.es e1).newL k1 rl.reverse h1⟩
  · exact h1.elim
def aMaxI (lt : Int → Int → Prop) (r : Ret) (Γ : Sl) (M : Mem) (Q : Ret → Sl → Mem → Prop) : Prop := match sqOf r Γ M with
  | some (.lst ds) => match intsOf ds with
    | some ns => 0 < ns.length ∧ ∀ m, m ∈ ns → (∀ y, y ∈ ns → lt y m) → Q (.dat (.int m)) Γ M
    | none => False
  | _ => False
theorem rd_max1 : RdU K ρ (rMax K) (aMaxI fun y m => y ≤ m) := by
  intro B σ H H1 G Γ M rx x Q R k r1 h q
  unfold aMaxI at h
  split at h
  · rename_i ds hs
    split at h
    · rename_i ns hi
      obtain ⟨p, xs, e, hx, rl⟩ := sqOf_ok k r1 hs
      rw [intsOf_ok hi] at rl
      rw [repL_map_int.mp rl] at hx
      exact ⟨p, ns, by rw [e], SqL.of hx, h.1, fun m m1 m2 => q _ H G Γ M (.dat (.int m)) k .refl (by simp only [RepR, Rep]) (h.2 m m1 m2)⟩
    · exact h.elim
  · exact h.elim
theorem rd_min1 : RdU K ρ (rMin K) (aMaxI fun y m => m ≤ y) := by
  intro B σ H H1 G Γ M rx x Q R k r1 h q
  unfold aMaxI at h
  split at h
  · rename_i ds hs
    split at h
    · rename_i ns hi
      obtain ⟨p, xs, e, hx, rl⟩ := sqOf_ok k r1 hs
      rw [intsOf_ok hi] at rl
      rw [repL_map_int.mp rl] at hx
      exact ⟨p, ns, by rw [e], SqL.of hx, h.1, fun m m1 m2 => q _ H G Γ M (.dat (.int m)) k .refl (by simp only [RepR, Rep]) (h.2 m m1 m2)⟩
    · exact h.elim
  · exact h.elim
theorem q_max1 {p : Pos} (hm : X.mg "max" = none) (ha : QE X ρ a ta aa) (hc : X.calm = true := by rfl) (hg : Gl X "max" := by rfl) (na : starEach [a] X.env = (false, eval a X.env) :: starEach [] X.env := by rfl) (hK : X.K = K := by rfl) :
    QE X ρ (.Call (.Name "max" p) [a] [] pos) (tCB (rMax K) (tCons ta tNil)) (aCall1 (aMaxI fun y m => y ≤ m) aa) := by subst hK; exact q_callB1 (cr_max hc) rd_max1 hm ha hg (na := na)
theorem q_min1 {p : Pos} (hm : X.mg "min" = none) (ha : QE X ρ a ta aa) (hc : X.calm = true := by rfl) (hg : Gl X "min" := by rfl) (na : starEach [a] X.env = (false, eval a X.env) :: starEach [] X.env := by rfl) (hK : X.K = K := by rfl) :
    QE X ρ (.Call (.Name "min" p) [a] [] pos) (tCB (rMin K) (tCons ta tNil)) (aCall1 (aMaxI fun y m => m ≤ y) aa) := by subst hK; exact q_callB1 (cr_min hc) rd_min1 hm ha hg (na := na)
/-! ### a, *b = .. and *a, b = .. -/
theorem unp_starT {prog : Program} {w : World} {A : Around} {E : Value → Shared → Prop} {s : Shared} {l : Addr} {items : Array Value} {n i : Nat} {Q : List Value → Shared → Prop} (hl : PyProof.Rows.IsTup s.heap l items) (hh : A.handled = none) (hi : i < n) (hn : n ≤ items.size + 1) (hz : items.size ≤ 16384)
    (h : ∀ h' tk, (∀ b o, s.heap.get? b = some o → h'.get? b = some o) → wpAny (model prog w) A (newList ((items.toList.drop i).take (items.size + 1 - n)) >>= fun d => pure (items.toList.take i ++ [d] ++ (items.toList.drop i).drop (items.size + 1 - n))) Q E { s with heap := h', toks := tk }) : wpAny (model prog w) A (unpackItems (.ref l) n (some i)) Q E s := by
  have hlt : l ≠ s.heap.objs.size := by obtain ⟨o, ho, _⟩ := hl; exact Nat.ne_of_lt (Heap.lt_size ho)
  unfold unpackItems
  refine wpAny_bind ?_
  unfold notIterableAtAll
  refine wpAny_bind (wpAny_specialOf hl.typeIs PyProof.Rows.slot_tuple_iter.lookup ?_)
  refine wpAny_pure ?_
  simp only [Bool.false_eq_true, if_false]
  refine wpAny_bind (wpAny_holding (PyProof.Rows.iter_tuple hl ?_))
  refine wpAny_bind (wpAny_holding (PyProof.Rows.draw_tuple hlt i 0 _ _ ⟨_, Heap.get?_push_size _ rfl, rfl, rfl⟩ (hl.push _) (by omega) fun h₁ hit₁ hs₁ => ?_))
  have hl₁ : PyProof.Rows.IsTup h₁ l items := (hl.push _).extBut hs₁.extBut hlt
  rw [Nat.zero_add] at hit₁
  have hit₁' := hit₁
  obtain ⟨oi, hoi, _⟩ := hit₁'
  have hl₁' := hl₁
  obtain ⟨ol, hol, _⟩ := hl₁'
  rw [List.drop_zero]
  have hfl : (items.toList.take i).length = i := by rw [List.length_take, Array.length_toList]; omega
  rw [if_neg (show ¬ ((items.toList.take i).length < i) by rw [hfl]; omega)]
  refine wpAny_bind (wpAny_holding (PySem.W.kun_collect (s := { s with heap := h₁ }) (T := "tuple_iterator") (.inr (.inr (.inr rfl))) (Walks.tuple (A := A.in1) hh s.heap.objs.size l hlt items) (fun j u st => st.1.typeIs) (k := i) (by omega) ⟨hit₁, hl₁⟩ (Heap.lt_size hoi) (Heap.lt_size hol) (fun h₂ tk hk => ?_) (by rw [sizeLine_eq]; omega)))
  have hrl : (items.toList.drop i).length = items.size - i := by rw [List.length_drop, Array.length_toList]
  have hmid : (items.toList.drop i).length - (n - 1 - i) = items.size + 1 - n := by rw [hrl]; omega
  show wpAny _ _ (if (items.toList.drop i).length < n - 1 - i then _ else _) _ _ _
  rw [if_neg (by rw [hrl]; omega)]
  show wpAny _ _ (newList ((items.toList.drop i).take ((items.toList.drop i).length - (n - 1 - i))) >>= fun d => pure (items.toList.take i ++ [d] ++ (items.toList.drop i).drop ((items.toList.drop i).length - (n - 1 - i)))) _ _ _
  rw [hmid]
  exact h h₂ tk fun b o e => hk b o (Nat.ne_of_lt (Heap.lt_size e)) (hs₁.extBut b o (Nat.ne_of_lt (Heap.lt_size e)) (Heap.get?_push_of_some _ e))
def gStar (K : PySem.W.Frag) (n i : Nat) (t : TGs) : TG := fun v σ H Q => ∃ a xs, v = .ref a ∧ SqT K H a xs ∧ n ≤ xs.length + 1 ∧ xs.length ≤ 16384 ∧
  ∀ p, H p = none → t (xs.take i ++ [.ref p] ++ (xs.drop i).drop (xs.length + 1 - n)) σ (upd H p (.lst ((xs.drop i).take (xs.length + 1 - n)))) Q
theorem vals_take {vs : List V} {us : List Value} (n : Nat) (h : Vals vs us) : Vals (vs.take n) (us.take n) := by
  induction h generalizing n with
  | nil => simp; exact .nil
  | cons r _ ih => cases n with
    | zero => exact .nil
    | succ n => exact .cons r (ih n)
theorem vals_drop {vs : List V} {us : List Value} (n : Nat) (h : Vals vs us) : Vals (vs.drop n) (us.drop n) := by
  induction h generalizing n with
  | nil => simp; exact .nil
  | cons r t ih => cases n with
    | zero => exact .cons r t
    | succ n => exact ih n
theorem vals_app {vs ws : List V} {us xs : List Value} (h : Vals vs us) (h' : Vals ws xs) : Vals (vs ++ ws) (us ++ xs) := by
  induction h with
  | nil => exact h'
  | cons r _ ih => exact .cons r ih
theorem pg_star {es : List Expr} {k n i : Nat} {t : TGs} (hc : X.calm = true) (h : PGs X es t) (hi : i < n) (hn : (assignEach es X.env).length = n) (hst : (assignEach es X.env).findIdx? (·.1) = some i) : PG X (.Tuple es k pos) (gStar X.K n i t) := by
  refine ⟨fun pins s σ H v u Q I r hw => ?_⟩
  obtain ⟨a, xs, e1, hq, hl, hz', hw⟩ := hw
  subst e1
  cases r
  obtain ⟨its, rv, ht, hz⟩ := I.tuple hq
  have hlen : its.toArray.size = xs.length := by simp [rv.length]
  rw [PyProof.Rows.assign_Tuple]
  refine wpAny_bind (wpAny_standAt ?_)
  unfold unpack
  rw [hn, hst]
  refine wpAny_bind (wpAny_holding (unp_starT ht (I.ok.hd hc) hi (by omega) (by omega) fun h' tk hk => ?_))
  have I1 : Inv X pins σ H { s with heap := h', toks := tk } := I.kept (t' := tk) hk
  unfold newList
  refine wpAny_bind (wpAny_newObj_type (wpAny_pure ?_) (by show (List.take _ _).toArray.size ≤ sizeLine; rw [List.size_toArray, List.length_take, List.length_drop, sizeLine_eq]; simp only [List.length_drop] at *; omega))
  have hf : H h'.objs.size = none := I1.hok.fresh (Nat.le_refl _)
  have I2 := I1.laid (a := h'.objs.size) (o := .lst ((xs.drop i).take (xs.length + 1 - n))) (t' := tk) (h' := h'.push { cls := .type "list", data := .seq ((its.toArray.toList.drop i).take (its.toArray.size + 1 - n)).toArray }) (fun b u e => Heap.get?_push_of_some _ e) (Nat.le_refl _)
    ⟨by rw [List.length_take, List.length_drop, sizeLine_eq]; omega, _, 0, by rw [hlen]; simpa using vals_take _ (vals_drop i rv), Heap.get?_push_size _ rfl⟩
  refine h.run pins _ σ _ _ _ Q I2 ?_ (hw _ hf)
  rw [hlen]
  exact vals_app (vals_app (by simpa using vals_take i rv) (.cons rfl .nil)) (by simpa using vals_drop _ (vals_drop i rv))
theorem pgs_starred {es : List Expr} {t : TG} {u : TGs} {sp : Pos} (h1 : PG X e t) (h2 : PGs X es u)
    (hs : (assignEach (.Starred e sp :: es) X.env).map (·.2) = assign e X.env :: (assignEach es X.env).map (·.2) := by rfl) : PGs X (.Starred e sp :: es) (gCons t u) := by
  refine ⟨fun pins s σ H vs us Q I r h => ?_⟩
  obtain ⟨v, vr, e1, h⟩ := h
  subst e1
  cases r with
  | cons r rr =>
    rw [hs]
    refine PyProof.Rows.assignInOrder_cons (thn (h1.run pins s σ H _ _ _ I r h) fun _ s1 ⟨σ1, H1, I1, q1⟩ => ?_)
    exact h2.run pins s1 σ1 H1 _ _ Q I1 rr q1
theorem qgs_starred {es : List Expr} {t : TG} {u : TGs} {g : AG} {ag : AGs} {is js : List Nat} {sp : Pos} (h1 : QG X ρ e t g is) (h2 : QGs X ρ es u ag js)
    (hs : (assignEach (.Starred e sp :: es) X.env).map (·.2) = assign e X.env :: (assignEach es X.env).map (·.2) := by rfl) : QGs X ρ (.Starred e sp :: es) (gCons t u) (agCons g ag) (is ++ js) := ⟨pgs_starred h1.pe h2.pe hs, rd_gCons h1.rd h2.rd⟩
/-- n targets, the one at i starred -/
def aUnpS (n i : Nat) (aa : AE) (u : AGs) (A : AEnds) (Γ : Sl) (M : Mem) : Prop := aa Γ M fun r Γ1 M1 => frz r Γ1 fun d Γ2 => match d with
  | .tup ds => n ≤ ds.length + 1 ∧ ds.length ≤ 16384 ∧ u (ds.take i ++ [.lst ((ds.drop i).take (ds.length + 1 - n))] ++ (ds.drop i).drop (ds.length + 1 - n)) Γ2 fun Γ3 => A.nx Γ3 M1
  | _ => False
theorem qs_unpS (n i : Nat) {es : List Expr} {kk : Nat} {tpos : Pos} {t : TGs} {u : AGs} {is : List Nat} (h : QE X ρ a ta aa) (hg : QGs X ρ es t u is) (hc : X.calm = true := by rfl) (hi : i < n := by decide) (hn : (assignEach es X.env).length = n := by rfl) (hst : (assignEach es X.env).findIdx? (·.1) = some i := by rfl)
    (hs : swapsWithSole [.Tuple es kk tpos] a pos.line X.env = pure false := by rfl) (hw : swappedStores [.Tuple es kk tpos] a X.env = pure none := by rfl) (h1 : (assignEach [.Tuple es kk tpos] X.env).map (·.2) = [assign (.Tuple es kk tpos) X.env] := by rfl) (hK : X.K = K := by rfl) :
    QS X ρ (.Assign [.Tuple es kk tpos] a pos) (tAsg ta (gStar K n i t)) (aUnpS n i aa u) := by
  subst hK
  refine ⟨ps_asg h.pe (pg_star hc hg.pe hi hn hst) hs hw h1, fun B σ H G Γ M A E k hh s => h.rd B σ H G Γ M _ _ k hh fun v H1 G1 Γ1 M1 r k1 e1 rr h1 => ?_⟩
  obtain ⟨G2, Γ2, d, k2, e2, rp, h2⟩ := frz_ok (H0 := H) k1 e1 rr h1
  split at h2
  · rename_i ds
    obtain ⟨n1, n2, h2⟩ := h2
    obtain ⟨p, xs, rfl, hx, rl⟩ := rep_tup.mp rp
    have hl := rl.length
    rw [← hl] at h2 n1 n2
    refine ⟨p, xs, rfl, ex_t k2.ex hx, by omega, by omega, fun q hq => ?_⟩
    obtain ⟨k3, e3⟩ := k2.new (o := .lst ((xs.drop i).take (xs.length + 1 - n))) hq
    have rl3 := rl.mono e3.g
    refine hg.rd B σ _ _ Γ2 M1 _ _ _ _ k3 ?_ h2 fun σ' Γ' k4 _ _ z => s.nx σ' _ _ Γ' M1 k4 z
    exact RepL.append (RepL.append (rl3.take i) (RepL.one (rep_lst.mpr ⟨q, _, rfl, upd_same, (rl3.drop i).take _⟩))) ((rl3.drop i).drop _)
  · exact h2.elim
end
end Gw

namespace Gw
open PySem L2
variable {ρ : Ent}
/-! ### comprehensions that only look -/
theorem lcMap {g : AG} {ae : AE} {vs : List Nat} {k : List D → Sl → Mem → Prop} (f : D → D) {Γ : Sl} {M : Mem} : ∀ (ds acc : List D), acc.length + ds.length ≤ 16777216 →
    (∀ d ∈ ds, ∀ P : D → Sl → Mem → Prop, P (f d) Γ M → g d Γ fun Γ1 => ae Γ1 M fun r Γ3 M3 => frz r Γ3 fun y Γ4 => P y (wipeS Γ4 vs) M3) → k (acc ++ ds.map f) Γ M → aLcL g aYes ae vs k ds acc Γ M
  | [], acc, _, _, h => by simpa [aLcL] using h
  | d :: ds, acc, hl, hs, h => by
    unfold aLcL
    simp only [aYes, if_true]
    refine hs d List.mem_cons_self (fun y Γ' M' => acc.length < sizeLine ∧ aLcL g aYes ae vs k ds (acc ++ [y]) Γ' M') ⟨by rw [size_val]; simp at hl; omega, ?_⟩
    refine lcMap f ds (acc ++ [f d]) (by simp at hl ⊢; omega) (fun e he => hs e (List.mem_cons_of_mem _ he)) ?_
    simpa using h
theorem lcFilt {g : AG} {tt : AT} {ae : AE} {vs : List Nat} {k : List D → Sl → Mem → Prop} (p : D → Bool) (f : D → D) {Γ : Sl} {M : Mem} : ∀ (ds acc : List D), acc.length + ds.length ≤ 16777216 →
    (∀ d ∈ ds, ∀ (P : D → Sl → Mem → Prop) (N : Sl → Mem → Prop), (p d = true → P (f d) Γ M) → (p d = false → N Γ M) → g d Γ fun Γ1 => tt Γ1 M fun b Γ2 M2 => if b = true then ae Γ2 M2 fun r Γ3 M3 => frz r Γ3 fun y Γ4 => P y (wipeS Γ4 vs) M3 else N (wipeS Γ2 vs) M2) →
    k (acc ++ (ds.filter p).map f) Γ M → aLcL g tt ae vs k ds acc Γ M
  | [], acc, _, _, h => by simpa [aLcL] using h
  | d :: ds, acc, hl, hs, h => by
    unfold aLcL
    refine hs d List.mem_cons_self (fun y Γ' M' => acc.length < sizeLine ∧ aLcL g tt ae vs k ds (acc ++ [y]) Γ' M') (fun Γ' M' => aLcL g tt ae vs k ds acc Γ' M') (fun e => ⟨by rw [size_val]; simp at hl; omega, ?_⟩) (fun e => ?_)
    · refine lcFilt p f ds (acc ++ [f d]) (by simp at hl ⊢; omega) (fun e he => hs e (List.mem_cons_of_mem _ he)) ?_
      rw [List.filter_cons, if_pos e] at h
      simpa using h
    · refine lcFilt p f ds acc (by simp at hl ⊢; omega) (fun e he => hs e (List.mem_cons_of_mem _ he)) ?_
      rw [List.filter_cons, if_neg (by rw [e]; decide)] at h
      exact h
theorem blsOf_fun {f : D → Bool} (ds : List D) : blsOf (ds.map fun d => .bl (f d)) = some (ds.map f) := by
  rw [show (ds.map fun d => D.bl (f d)) = (ds.map f).map D.bl by rw [List.map_map]; rfl, blsOf_map]
/-- all, any of a comprehension of truths -/
theorem all_fun {f : D → Bool} {ds : List D} {Γ : Sl} {M : Mem} {Q : Ret → Sl → Mem → Prop} (h : Q (.dat (.bl (ds.all f))) Γ M) : aAllB (·.all id) (.tmp (.lst (ds.map fun d => .bl (f d)))) Γ M Q := by
  unfold aAllB
  simp only [sqOf, blsOf_fun, List.all_map]
  exact h
theorem any_fun {f : D → Bool} {ds : List D} {Γ : Sl} {M : Mem} {Q : Ret → Sl → Mem → Prop} (h : Q (.dat (.bl (ds.any f))) Γ M) : aAllB (·.any id) (.tmp (.lst (ds.map fun d => .bl (f d)))) Γ M Q := by
  unfold aAllB
  simp only [sqOf, blsOf_fun, List.any_map]
  exact h
/-! ### comparing whole numbers, showing data -/
theorem aEq_ii {f : Bool → Bool} {i j : Int} {Γ : Sl} {M : Mem} {Q : Ret → Sl → Mem → Prop} : aEq f (.dat (.int i)) (.dat (.int j)) Γ M Q = Q (.dat (.bl (f (decide (i = j))))) Γ M := by
  unfold aEq
  simp only [dOf, cmp_int, eqD_int, true_and]
/-- kept from the simplifier -/
structure WitR (Q : Ret → Sl → Mem → Prop) : Type where
def hold (F : (Ret → Sl → Mem → Prop) → Prop) (Q : Ret → Sl → Mem → Prop) (_ : WitR Q) : Prop := F Q
theorem aEq_w {f : Bool → Bool} {x y : Ret} {Γ : Sl} {M : Mem} {Q : Ret → Sl → Mem → Prop} : aEq f x y Γ M Q = hold (aEq f x y Γ M) Q ⟨⟩ := by simp only [hold]
theorem aInT_w {f : Bool → Bool} {x y : Ret} {Γ : Sl} {M : Mem} {Q : Ret → Sl → Mem → Prop} : aInT f x y Γ M Q = hold (aInT f x y Γ M) Q ⟨⟩ := by simp only [hold]
theorem aRepr_w {x : Ret} {Γ : Sl} {M : Mem} {Q : Ret → Sl → Mem → Prop} : aRepr x Γ M Q = hold (aRepr x Γ M) Q ⟨⟩ := by simp only [hold]
theorem aIsi_w {T : Knd} {x : Ret} {Γ : Sl} {M : Mem} {Q : Ret → Sl → Mem → Prop} : aIsi T x Γ M Q = hold (aIsi T x Γ M) Q ⟨⟩ := by simp only [hold]
theorem hold_ii {f : Bool → Bool} {i j : Int} {Γ : Sl} {M : Mem} {Q : Ret → Sl → Mem → Prop} : hold (aEq f (.dat (.int i)) (.dat (.int j)) Γ M) Q ⟨⟩ = Q (.dat (.bl (f (decide (i = j))))) Γ M := by simp only [hold, aEq_ii]
theorem hold_bb {f : Bool → Bool} {i j : Bool} {Γ : Sl} {M : Mem} {Q : Ret → Sl → Mem → Prop} : hold (aEq f (.dat (.bl i)) (.dat (.bl j)) Γ M) Q ⟨⟩ = Q (.dat (.bl (f (decide (i = j))))) Γ M := by
  show aEq f (.dat (.bl i)) (.dat (.bl j)) Γ M Q = _
  unfold aEq
  have c : ∀ b : Bool, cmpOk (.bl b) = true := fun b => cmp_of (by simp [safe]) (by simp [dep])
  simp only [dOf, c, true_and]
  cases i <;> cases j <;> rfl
theorem aEq_of {f : Bool → Bool} {d e : D} {b : Bool} {Γ : Sl} {M : Mem} {Q : Ret → Sl → Mem → Prop} (h1 : cmpOk d = true) (h2 : cmpOk e = true) (h3 : eqD d e = b) (q : Q (.dat (.bl (f b))) Γ M) : aEq f (.dat d) (.dat e) Γ M Q := by
  have nrf : ∀ x : D, cmpOk x = true → dOf (.dat x) Γ M = some x := fun x hx => by
    cases x with
    | ref a => simp [cmpOk, Gw.plain] at hx
    | _ => rfl
  unfold aEq
  rw [nrf d h1, nrf e h2]
  subst h3
  exact ⟨h1, h2, q⟩
theorem aRepr_of {d : D} {Γ : Sl} {M : Mem} {Q : Ret → Sl → Mem → Prop} (h : shOk d = true) (q : Q (.dat (.str (shD d))) Γ M) : aRepr (.dat d) Γ M Q := by
  have nrf : dOf (.dat d) Γ M = some d := by
    cases d with
    | ref a => simp [shOk, Gw.plain] at h
    | _ => rfl
  unfold aRepr
  rw [nrf]
  exact ⟨h, q⟩
theorem aIsi_of {T : Knd} {d : D} {Γ : Sl} {M : Mem} {Q : Ret → Sl → Mem → Prop} (h : NoRef d) (q : Q (.dat (.bl (isD T d))) Γ M) : aIsi T (.dat d) Γ M Q := by
  have nrf : kdOf (.dat d) Γ M = some d := by
    cases d with
    | ref a => exact h.elim
    | exc _ _ _ => exact h.elim
    | dcT _ _ => exact h.elim
    | _ => rfl
  unfold aIsi
  rw [nrf]
  exact q
end Gw

namespace Gw
open PySem L2
variable {ρ : Ent}
/-! ### what each transformer says, as equations by name (the simplifier then writes its steps down) -/
def e_aAbs := @aAbs.eq_def
def e_aAllB := @aAllB.eq_def
def e_aAnd := @aAnd.eq_def
def e_aAndV := @aAndV.eq_def
def e_aAsg := @aAsg.eq_def
def e_aAsgF := @aAsgF.eq_def
def e_aAugC := @aAugC.eq_def
def e_aAugI := @aAugI.eq_def
def e_aAugL := @aAugL.eq_def
def e_aAugX := @aAugX.eq_def
def e_aBrk := @aBrk.eq_def
def e_aC := @aC.eq_def
def e_aCall := @aCall.eq_def
def e_aCall1 := @aCall1.eq_def
def e_aCall2 := @aCall2.eq_def
def e_aCallP := @aCallP.eq_def
def e_aCat := @aCat.eq_def
def e_aCatT := @aCatT.eq_def
def e_aChain := @aChain.eq_def
def e_aChainN := @aChainN.eq_def
def e_aCnt := @aCnt.eq_def
def e_aCons := @aCons.eq_def
def e_aDGet := @aDGet.eq_def
def e_aDGet2 := @aDGet2.eq_def
def e_aDIn := @aDIn.eq_def
def e_aDNew := @aDNew.eq_def
def e_aDPut := @aDPut.eq_def
def e_aDictEnum := @aDictEnum.eq_def
def e_aDictP := @aDictP.eq_def
def e_aDisp := @aDisp.eq_def
def e_aDrop := @aDrop.eq_def
def e_aEq := @aEq.eq_def
def e_aEqS := @aEqS.eq_def
def e_aFor := @aFor.eq_def
def e_aI0 := @aI0.eq_def
def e_aI3 := @aI3.eq_def
def e_aIC := @aIC.eq_def
def e_aIItems := @aIItems.eq_def
def e_aISeq := @aISeq.eq_def
def e_aITup := @aITup.eq_def
def e_aIenum := @aIenum.eq_def
def e_aIfE := @aIfE.eq_def
def e_aIfS := @aIfS.eq_def
def e_aIn := @aIn.eq_def
def e_aInT := @aInT.eq_def
def e_aInt := @aInt.eq_def
def e_aIrev := @aIrev.eq_def
def e_aIsN := @aIsN.eq_def
def e_aIsi := @aIsi.eq_def
def e_aIx := @aIx.eq_def
def e_aIzip := @aIzip.eq_def
def e_aLItems := @aLItems.eq_def
def e_aLast := @aLast.eq_def
def e_aLc := @aLc.eq_def
def e_aLen := @aLen.eq_def
def e_aLink := @aLink.eq_def
def e_aList := @aList.eq_def
def e_aLk := @aLk.eq_def
def e_aLst := @aLst.eq_def
def e_aMaxI := @aMaxI.eq_def
def e_aMeth := @aMeth.eq_def
def e_aMeth0 := @aMeth0.eq_def
def e_aNeg := @aNeg.eq_def
def e_aNext := @aNext.eq_def
def e_aNil := @aNil.eq_def
def e_aNot := @aNot.eq_def
def e_aNotV := @aNotV.eq_def
def e_aON := @aON.eq_def
def e_aOS := @aOS.eq_def
def e_aOp := @aOp.eq_def
def e_aOr := @aOr.eq_def
def e_aOrV := @aOrV.eq_def
def e_aPar := @aPar.eq_def
def e_aPar3 := @aPar3.eq_def
def e_aParO := @aParO.eq_def
def e_aRep := @aRep.eq_def
def e_aRepr := @aRepr.eq_def
def e_aRet := @aRet.eq_def
def e_aRevL := @aRevL.eq_def
def e_aRng1 := @aRng1.eq_def
def e_aRng2 := @aRng2.eq_def
def e_aSeq := @aSeq.eq_def
def e_aSetI := @aSetI.eq_def
def e_aSh := @aSh.eq_def
def e_aShV := @aShV.eq_def
def e_aSl := @aSl.eq_def
def e_aSortI := @aSortI.eq_def
def e_aTst := @aTst.eq_def
def e_aTup := @aTup.eq_def
def e_aTuple := @aTuple.eq_def
def e_aUn := @aUn.eq_def
def e_aUnp := @aUnp.eq_def
def e_aUnpS := @aUnpS.eq_def
def e_aVar := @aVar.eq_def
def e_aYes := @aYes.eq_def
def e_agCons := @agCons.eq_def
def e_agN := @agN.eq_def
def e_agNil := @agNil.eq_def
def e_agT := @agT.eq_def
def e_agTL := @agTL.eq_def
def e_amApp := @amApp.eq_def
def e_amExt := @amExt.eq_def
def e_amIns := @amIns.eq_def
def e_amPop := @amPop.eq_def
def e_amPopAt := @amPopAt.eq_def
def e_apCons := @apCons.eq_def
def e_apNil := @apNil.eq_def
def e_cget := @cget.eq_def
def e_cput := @cput.eq_def
def e_dOf := @dOf.eq_def
def e_dctOf := @dctOf.eq_def
def e_frz := @frz.eq_def
def e_kdOf := @kdOf.eq_def
def e_lget := @lget.eq_def
def e_lput := @lput.eq_def
def e_sqOf := @sqOf.eq_def
end Gw

namespace Gw
open PySem L2
variable {ρ : Ent}
section
variable {X : Cx} {a b c e : Expr} {ta tb tc te : TE} {aa ab ac ae : AE} {pos : Pos} {K : PySem.W.Frag} {B : Ent} {σ : St} {H G H1 G1 H2 G2 H0 : Hp} {Γ Γ1 Γ2 : Sl} {M M1 M2 : Mem}
/-! ### repr, where the thing may be an empty dict -/
def rReprX (K : PySem.W.Frag) : List V → Hp → VK → Prop := fun xs H Q => rReprD K xs H Q ∨ ∃ (p : Addr) (o : Obj), xs = [.ref p] ∧ H p = some (.frz o (.dK [])) ∧ Q (.str "{}") H
theorem call_reprX (gd : X.A.guards = some []) (hu : X.A.units + 100 < cLine) : CallR X (.builtin "repr") (rReprX X.K) := by
  intro pins s σ H xs us Q I rv h
  rcases h with h | ⟨p, ob, rfl, hp, q⟩
  · exact call_reprD gd hu pins s σ H xs us Q I rv h
  · rw [Vals.ref1 rv]
    obtain ⟨_, _, hsys, vs, hv, o, es, ep, h1, h2, h3, _, h4, _⟩ := (show ObjOk X.prog X.w H s.heap p (.frz ob (.dK [])) from I.hok p _ hp)
    cases hv
    have he : es.toList = [] := List.length_eq_zero_iff.mp h4.length
    have r : Reads s.heap (.ref p) (.dict []) [p] := .dict (as := []) (bs := []) h1 h2.1 h3 (by rw [he]; exact .nil) (by rw [he]; exact .nil)
    refine repr_of_reads' r (by decide) (fun _ => ?_) gd (by simp [PyData.depth, PyData.depthKv]; omega) (fun _ _ e => e) (fun h' u tk hk => ⟨.str _, H, I.kept hk, ⟨_, rfl⟩, ?_⟩) (by decide)
    · intro z
      have e := List.mem_singleton.mp z
      rw [← e] at hsys
      simp at hsys
    · exact q
def aReprX (r : Ret) (Γ : Sl) (M : Mem) (Q : Ret → Sl → Mem → Prop) : Prop := match r with
  | .dat (.dct [] []) => Q (.dat (.str "{}")) Γ M
  | r => aRepr r Γ M Q
theorem rd_reprX : RdU K ρ (rReprX K) aReprX := by
  intro B σ H H1 G Γ M rx x Q R k r1 h q
  unfold aReprX at h
  split at h
  · obtain ⟨p, o, xs, rfl, hp, _, hr⟩ := rep_dct.mp (show Rep K G (.dct [] []) x from r1)
    rw [repL_nil.mp hr] at hp
    exact .inr ⟨p, o, rfl, k.ex _ _ hp, q _ H G Γ M (.dat (.str "{}")) k .refl (by simp only [RepR, Rep]) h⟩
  · exact .inl (rd_repr B σ H H1 G Γ M _ x Q R k r1 h q)
theorem q_reprX {p : Pos} (gd : X.A.guards = some []) (hu : X.A.units + 100 < cLine) (hm : X.mg "repr" = none) (ha : QE X ρ a ta aa) (hg : Gl X "repr" := by rfl) (na : starEach [a] X.env = (false, eval a X.env) :: starEach [] X.env := by rfl) (hK : X.K = K := by rfl) :
    QE X ρ (.Call (.Name "repr" p) [a] [] pos) (tCB (rReprX K) (tCons ta tNil)) (aCall1 aReprX aa) := by subst hK; exact q_callB1 (call_reprX gd hu) rd_reprX hm ha hg (na := na)
theorem aReprX_w {x : Ret} {Γ : Sl} {M : Mem} {Q : Ret → Sl → Mem → Prop} : aReprX x Γ M Q = hold (aReprX x Γ M) Q ⟨⟩ := by simp only [hold]
/-- how a thing is shown, an empty dict too -/
def shX (d : D) : Str := match d with
  | .dct [] [] => "{}"
  | d => shD d
def shOkX (d : D) : Bool := match d with
  | .dct [] [] => true
  | d => shOk d
theorem aReprX_of {d : D} {Γ : Sl} {M : Mem} {Q : Ret → Sl → Mem → Prop} (h : shOkX d = true) (q : Q (.dat (.str (shX d))) Γ M) : aReprX (.dat d) Γ M Q := by
  by_cases e : d = .dct [] []
  · subst e; exact q
  · have e1 : shX d = shD d := by
      unfold shX; split
      · exact absurd rfl e
      · rfl
    have e2 : shOkX d = shOk d := by
      unfold shOkX; split
      · exact absurd rfl e
      · rfl
    have e3 : aReprX (.dat d) Γ M Q = aRepr (.dat d) Γ M Q := by
      unfold aReprX; split
      · rename_i z; cases z; exact absurd rfl e
      · rfl
    rw [e3]
    rw [e1] at q
    rw [e2] at h
    exact aRepr_of h q
end
end Gw

namespace Gw
open PySem L2
variable {ρ : Ent}
open PySem.W (EachIs AllAlike Sortable dataLe dataLt alike alikeAll)
section
variable {X : Cx} {a b c e : Expr} {ta tb tc te : TE} {aa ab ac ae : AE} {pos : Pos} {K : PySem.W.Frag} {B : Ent} {σ : St} {H G H1 G1 H2 G2 H0 : Hp} {Γ Γ1 Γ2 : Sl} {M M1 M2 : Mem}
/-! ### sorted of data that can be compared -/
def leD (d e : D) : Bool := !dataLt (toPy e) (toPy d)
def sortD (ds : List D) : List D := ds.mergeSort leD
def rSortD (K : PySem.W.Frag) : List V → Hp → VK → Prop := fun vs H Q => ∃ (p : Addr) (xs : List V) (ds : List D), vs = [.ref p] ∧ SqL K H p xs ∧ xs.length = ds.length ∧ (∀ q ∈ xs.zip ds, Dp K H q.1 (toPy q.2)) ∧
  AllAlike (ds.map toPy) ∧ Sortable (ds.map toPy) ∧ (∀ d ∈ ds, (toPy d).depth ≤ 64) ∧
  ∀ (ps : List (V × D)) (l : Addr), ps.Perm (xs.zip ds) → ps.map (·.2) = sortD ds → H l = none → Q (.ref l) (upd H l (.lst (ps.map (·.1))))
theorem each_zip {R : Value → V × D → Prop} : ∀ {xs : List V} {us : List Value} {ds : List D}, Vals xs us → xs.length = ds.length → (∀ q ∈ xs.zip ds, ∀ u, RelV q.1 u → R u q) → EachIs R us (xs.zip ds)
  | [], _, [], .nil, _, _ => .nil
  | x :: xs, _ :: us, d :: ds, .cons r t, hl, h => .cons (h (x, d) (by simp) _ r) (each_zip t (by simpa using hl) fun q hq u hu => h q (by rw [List.zip_cons_cons]; exact List.mem_cons_of_mem _ hq) u hu)
  | [], _, _ :: _, .nil, hl, _ => by simp at hl
  | _ :: _, _, [], _, hl, _ => by simp at hl
theorem vals_each : ∀ {ps : List (V × D)} {us : List Value}, EachIs (fun u (q : V × D) => RelV q.1 u) us ps → Vals (ps.map (·.1)) us
  | [], _, .nil => .nil
  | _ :: _, _, .cons r t => .cons r (vals_each t)
theorem call_sortD (hu : X.A.units + 100 < cLine) : CallR X (.builtin "sorted") (rSortD X.K) := by
  intro pins s σ H vs us Q I r h
  obtain ⟨p, xs, ds, rfl, hs, hl, hd, hal, hk, hdep, q⟩ := h
  obtain ⟨its, rv, hit, hz⟩ := I.list hs
  rw [Vals.ref1 r]
  have em : (xs.zip ds).map (fun q => toPy q.2) = ds.map toPy := by
    rw [show (fun q : V × D => toPy q.2) = toPy ∘ Prod.snd from rfl, ← List.map_map, List.map_snd_zip (by omega)]
  have e : EachIs (fun u (q : V × D) => RelV q.1 u) its (xs.zip ds) := each_zip rv hl fun q _ u hu => hu
  have er : EachIs (fun u (q : V × D) => ∃ as, Reads s.heap u (toPy q.2) as) its (xs.zip ds) := each_zip rv hl fun q hq u hu => Dp.reads I _ _ _ (hd q hq) hu
  refine PySem.W.sorted_data (enc := fun q : V × D => toPy q.2) hit.isList e er (by rw [em]; exact hal) (by rw [em]; exact hk) (by rw [List.length_zip]; omega) (fun b hb => ?_) fun out ho eo => ?_
  · have := hdep b.2 (List.of_mem_zip hb).2
    omega
  · obtain ⟨ep, he'⟩ := PyProof.Rows.sortedAll_at s.heap its (List.toArray out)
    have v1 := vals_each eo
    have hlen : (((xs.zip ds).mergeSort (dataLe false fun q : V × D => toPy q.2)).map (·.1)).length ≤ sizeLine := by
      rw [List.length_map, List.length_mergeSort, List.length_zip]; omega
    refine ⟨.ref _, upd H (s.heap.objs.size + 1) (.lst _), I.laid (t' := s.toks) (fun _ _ => PyProof.Rows.sortedAll_old) (Nat.le_succ _) ⟨hlen, out, ep, v1, he'⟩, rfl, q _ _ (List.mergeSort_perm _ _) ?_ (I.hok.fresh (Nat.le_succ _))⟩
    rw [List.map_mergeSort (s := leD) (fun a _ b _ => by rw [PySem.W.dataLe_eq]; rfl), List.map_snd_zip (by omega)]
    rfl
def aSortD (r : Ret) (Γ : Sl) (M : Mem) (Q : Ret → Sl → Mem → Prop) : Prop := match sqOf r Γ M with
  | some (.lst ds) => (∀ d ∈ ds, plain d = true ∧ dep d ≤ 64) ∧ AllAlike (ds.map toPy) ∧ Sortable (ds.map toPy) ∧ Q (.tmp (.lst (sortD ds))) Γ M
  | _ => False
theorem repL_zip : ∀ {ds : List D} {xs : List V}, RepL K G ds xs → ∀ q ∈ xs.zip ds, Rep K G q.2 q.1
  | [], _, h, q, hq => by rw [repL_nil.mp h] at hq; simp at hq
  | d :: ds, _, h, q, hq => by
    obtain ⟨x, r, rfl, h1, h2⟩ := repL_cons.mp h
    rw [List.zip_cons_cons, List.mem_cons] at hq
    rcases hq with rfl | hq
    · exact h1
    · exact repL_zip h2 q hq
theorem repL_pairs : ∀ {ps : List (V × D)}, (∀ q ∈ ps, Rep K G q.2 q.1) → RepL K G (ps.map (·.2)) (ps.map (·.1))
  | [], _ => repL_nil.mpr rfl
  | p :: ps, h => repL_cons.mpr ⟨_, _, rfl, h p List.mem_cons_self, repL_pairs fun q hq => h q (List.mem_cons_of_mem _ hq)⟩
theorem rd_sortD : RdU K ρ (rSortD K) aSortD := by
  intro B σ H H1 G Γ M rx x Q R k r1 h q
  unfold aSortD at h
  split at h
  · rename_i ds hs
    obtain ⟨hp, hal, hk, h⟩ := h
    obtain ⟨p, xs, e, hx, rl⟩ := sqOf_ok k r1 hs
    have rz := repL_zip rl
    refine ⟨p, xs, ds, by rw [e], SqL.of hx, rl.length, fun q hq => ((rz q hq).mono k.ex).dp (hp q.2 (List.of_mem_zip hq).2).1, hal, hk, fun d hd => by rw [dep_py]; exact (hp d hd).2, fun ps l hps he hl => ?_⟩
    have r2 : RepL K G (sortD ds) (ps.map (·.1)) := by
      rw [← he]
      exact repL_pairs fun q hq => rz q (hps.mem_iff.mp hq)
    exact q.newL k r2 h l hl
  · exact h.elim
theorem q_sortD {p : Pos} (hu : X.A.units + 100 < cLine) (hm : X.mg "sorted" = none) (ha : QE X ρ a ta aa) (hg : Gl X "sorted" := by rfl) (na : starEach [a] X.env = (false, eval a X.env) :: starEach [] X.env := by rfl) (hK : X.K = K := by rfl) :
    QE X ρ (.Call (.Name "sorted" p) [a] [] pos) (tCB (rSortD K) (tCons ta tNil)) (aCall1 aSortD aa) := by subst hK; exact q_callB1 (call_sortD hu) rd_sortD hm ha hg (na := na)
theorem aSortD_w {x : Ret} {Γ : Sl} {M : Mem} {Q : Ret → Sl → Mem → Prop} : aSortD x Γ M Q = hold (aSortD x Γ M) Q ⟨⟩ := by simp only [hold]
end
end Gw

namespace Gw
open PySem L2 PyProof.Rows
variable {ρ : Ent}
/-! ### exceptions in flight -/
structure Xc where
  cn : Str
  ns : List Str
  ds : List D
def Xc.d (x : Xc) : D := .exc x.cn x.ns x.ds
def RepX (K : PySem.W.Frag) (G : Hp) (x : Xc) (cls : Value) (d : Option Addr) : Prop :=
  ∃ C ws, cls = .ref C ∧ PySem.W.nsIn K mainGlobals x.cn = some (some (.ref C)) ∧ XD G d ws ∧ ws.map (·.1) = x.ns ∧ RepL K G x.ds (ws.map (·.2))
theorem RepX.mono {K : PySem.W.Frag} {G G' : Hp} {x : Xc} {cls : Value} {d : Option Addr} (e : Ex G G') (h : RepX K G x cls d) : RepX K G' x cls d := by
  obtain ⟨C, ws, h1, h2, h3, h4, h5⟩ := h
  exact ⟨C, ws, h1, h2, h3.mono e, h4, h5.mono e⟩
abbrev XW := Xc → Sl → Mem → Prop
abbrev ASx := List D → Mem → (Ret → Mem → Prop) → (Xc → Mem → Prop) → Prop
/-- what is wished of an exception, concretely and abstractly -/
def Conn (K : PySem.W.Frag) (ρ : Ent) (W : WX) (w : XW) : Prop :=
  ∀ B σ H G Γ M x cls d, Ok K ρ B σ H G Γ M → RepX K G x cls d → w x Γ M → W cls d σ H
/-- the promise of a def that may raise -/
def spX (K : PySem.W.Frag) (n : Nat) (S : ASx) : Sp := fun vs H Q E => ∃ G M ds, vs.length = n ∧ Ex G H ∧ (dom M).Nodup ∧ (∀ a c, (a, c) ∈ M → Cel K H G a c) ∧ RepL K G ds vs ∧
  ∃ (Qa : Ret → Mem → Prop) (Xa : Xc → Mem → Prop), S ds M Qa Xa ∧ (∀ r M' v H' G', Qa r M' → Post K H G M H' G' M' → RetOk K H H' G' M' r v → Q v H') ∧
    ∀ x M' cls d H' G', Xa x M' → Post K H G M H' G' M' → RepX K G' x cls d → E cls d H'
structure WitX (Q : Ret → Mem → Prop) (Z : Xc → Mem → Prop) : Type where
def apX (S : ASx) (ds : List D) (M : Mem) (Q : Ret → Mem → Prop) (Z : Xc → Mem → Prop) (_ : WitX Q Z) : Prop := S ds M Q Z
def aCallX (w : XW) (S : ASx) (aa : AA) (Γ : Sl) (M : Mem) (Q : Ret → Sl → Mem → Prop) : Prop := aa Γ M fun ds Γ1 M1 => apX S ds M1 (fun r M2 => Q r Γ1 M2) (fun x M2 => w x Γ1 M2) ⟨⟩
def ArX (n : Nat) (S : ASx) : Prop := ∀ ds M Q Z, S ds M Q Z → ds.length = n
section
variable {X : Cx} {K : PySem.W.Frag} {B : Ent} {σ : L2.St} {H G H1 G1 H2 G2 : Hp} {Γ Γ1 Γ2 : Sl} {M M1 M2 : Mem}
theorem rd_callX {n : Nat} {S : ASx} {W : WX} {w : XW} {tr : TA} {ar : AA} (hn : ArX n S) (cn : Conn K ρ W w) (ha : RdA K ρ tr ar) : RdE K ρ (tCallS (spX K n S) (WE W) tr) (aCallX w S ar) := by
  intro B σ H G Γ M Q R k h q
  refine ha B σ H G Γ M _ _ k h fun vs H1 G1 Γ1 M1 ds k1 e1 rl h1 => ?_
  refine ⟨G1, M1, ds, by rw [rl.length]; exact hn _ _ _ _ h1, k1.ex, k1.nd, k1.ms, rl, _, _, h1, fun r M' v H' G' hq p rr => ?_, fun x M' cls d H' G' hq p rx => ?_⟩
  · obtain ⟨k2, e2, r2⟩ := k1.call p rr
    exact q _ H' G' Γ1 M' r k2 (e1.trans e2) (r2.old e1.nn) hq
  · obtain ⟨k2, e2, r2⟩ := k1.call (r := .dat .non) (v := .non) p (by simp only [RetOk, Rep])
    exact cn B σ H' G' Γ1 M' x cls d k2 rx hq
section
variable {k : Nat} {f : Addr} {fd : FuncData} {ps : List Str} {S : ASx} {x : Str} {p pos : Pos} {a : Expr} {es : List Expr} {tr : TA} {ar : AA} {W : WX} {w : XW}
theorem pe_callX {CX : CXT} {sp : Sp} {E : L2.St → XK} (F : FnG X.prog X.w X.K X.mg X.base CX k f fd ps sp) (room : Room k X.A) (gd : X.A.guards = some []) (hg : Gl X x) (hm : X.mg x = some (.ref f)) (hk : PySem.W.keepIn X.K (.ref f) = true) (hb : Binds X.K fd ps []) (hx : ∀ σ, PassesAt CX X σ (E σ))
    (ha : PA X (a :: es) tr) (hdb : (x == ("__debug__" : Str)) = false) (he : starEach (a :: es) X.env = (false, eval a X.env) :: starEach es X.env) (hpl : (backTo pos (starEach es X.env)).any (·.1) = false) :
    PE X (.Call (.Name x p) (a :: es) [] pos) (tCallS sp E tr) := by
  refine ⟨fun pins s σ H Q I h => wpAny_Call_Name_kw (ld_glob I hg hm ?_ hdb)⟩
  refine PySem.W.callWith_K (h₀ := X.base) I.ok.mod.kin hk (thn (ha.run pos pins s σ H _ I h) ?_) he hpl
  rintro us s1 ⟨vs, H1, I1, r, q⟩
  have hl : us.length = ps.length := by rw [← r.length]; exact F.arity _ _ _ _ q
  have b := hb s1 us I1.kIn (by rw [List.append_nil]; exact hl)
  rw [List.append_nil] at b
  refine ⟨I1.kIn, wpAny_call (codeAny_mono (F.go X.A X.stack s1 H1 ⟨us, []⟩ us vs Q (E σ) room gd I1.env0 b r q) fun res s' hq => ?_)⟩
  exact match res, hq with
    | .ok (.ret u), hq => I1.after hq
    | .ok .next, hq => hq.elim
    | .ok .brk, hq => hq.elim
    | .ok .cont, hq => hq.elim
    | .error e, hq => hx σ pins H1 s1 e s' I1 hq
theorem q_callX (F : FnG X.prog X.w X.K X.mg X.base (L2.CX X.prog X.w) k f fd ps (spX X.K n S)) (hr : Room k X.A) (gd : X.A.guards = some []) (hm : X.mg x = some (.ref f)) (hk : PySem.W.keepIn X.K (.ref f) = true) (hb : Binds X.K fd ps []) (hn : ArX n S)
    (tk : Takes X W) (cn : Conn X.K ρ W w) (ha : QA X ρ (a :: es) tr ar) (hg : Gl X x := by rfl) (hdb : (x == ("__debug__" : Str)) = false := by decide) (he : starEach (a :: es) X.env = (false, eval a X.env) :: starEach es X.env := by rfl) (hpl : (backTo pos (starEach es X.env)).any (·.1) = false := by rfl) :
    QE X ρ (.Call (.Name x p) (a :: es) [] pos) (tCallS (spX X.K n S) (WE W) tr) (aCallX w S ar) := ⟨pe_callX F hr gd hg hm hk hb (passAt tk) ha.pe hdb he hpl, rd_callX hn cn ha.rd⟩
end
end
/-! ### a def that may raise -/
theorem Ok.base {K : PySem.W.Frag} {B : Ent} {σ : L2.St} {H G : Hp} {Γ : Sl} {M : Mem} (k : Ok K ρ B σ H G Γ M) : Ok K ρ ρ σ H G Γ M := by
  obtain ⟨PH, PG, PA⟩ := ρ
  obtain ⟨BH, BG, BA⟩ := B
  obtain ⟨h1, h2, h3, h4⟩ := id k.pb
  dsimp only at h1 h2 h3 h4
  subst h1 h2
  exact (Ok.back (B := ⟨BH, PG, BA⟩) (Refi.refl _) k h3 h4).1
section
variable {P : Program} {w : World} {K : PySem.W.Frag} {mg : Str → Option Value} {base : Heap}
theorem takes_cx {N : List Str} {qual : Str} {scope : Scope} {f : Addr} {cd : Value} {A : Around} {outer : List Env} {s : Shared} {H : Hp} {E : XK} :
    Takes (cxOf (L2.CX P w) P w K mg base N qual scope f cd A outer s H E) (fun cls d _ H => E cls d H) := takes_of rfl rfl rfl rfl
theorem fn_okX {k : Nat} {x qual : Str} {st : Stmt} {f : Addr} {fd : FuncData} {N ps : List Str} {S : ASx} (F : Fun K x qual st f fd) (sc : FnScope N ps (defScope st)) (hn : ArX ps.length S) {as : XW → AS}
    (hb : ∀ (ρ : Ent) (cd : Value) (A : Around) (outer : List Env) (s : Shared) (H : Hp) (E : XK) (xw : XW), Room k (A.deeper (envOfC qual (defScope st) s.heap.objs.size f cd)) → A.guards = some [] → Conn K ρ (fun cls d _ H => E cls d H) xw →
      ∃ ts, QSs (cxOf (L2.CX P w) P w K mg base N qual (defScope st) f cd A outer s H E) ρ (defBody st) ts (as xw))
    (hr : ∀ ds M Q Z, S ds M Q Z → as (fun x _ M => Z x M) (endsOf Q) (slots N.length ds) M) : FnG P w K mg base (L2.CX P w) (k + 1) f fd ps (spX K ps.length S) := by
  refine fnG_of F sc (fun vs H Q E h => ?_) fun cd A outer s H vs Q E room gd h => ?_
  · obtain ⟨G, M, ds, hl, _⟩ := h; exact hl
  · obtain ⟨G, M, ds, hl, ex, nd, ms, rl, Qa, Xa, hS, fin, finX⟩ := h
    have cn : Conn K ⟨H, G, dom M⟩ (fun cls d _ H => E cls d H) (fun x _ M => Xa x M) := fun B σ H' G' Γ' M' x cls d k' rx hx => by
      have k2 := k'.base
      exact finX x M' cls d H' G' hx ⟨k2.st, k2.ex, k2.nd, k2.ms⟩ rx
    obtain ⟨ts, q⟩ := hb ⟨H, G, dom M⟩ cd A outer s H E _ room gd cn
    refine ⟨ts, q.pe, q.rd ⟨H, G, dom M⟩ (L2.start N vs) H G (slots N.length ds) M (endsOf Qa) _ (ok_start ex nd ms rl) (hr ds M Qa Xa hS) ⟨fun σ H' G' Γ' M' k' z => ?_, fun σ H0 H' G' Γ' M' r v k' rr z => ?_, fun _ _ _ _ _ _ z => z.elim, fun _ _ _ _ _ _ z => z.elim⟩⟩
    · exact fin (.dat .non) M' .non H' G' z ⟨k'.st, k'.ex, k'.nd, k'.ms⟩ (by simp only [RetOk, Rep])
    · have post : Post K H G M H' G' M' := ⟨k'.st, k'.ex, k'.nd, k'.ms⟩
      cases r with
      | dat d => exact fin (.dat d) M' v H' G' z post rr
      | tmp c =>
        obtain ⟨p, e, _, hb, hc, hm, _⟩ := rr
        exact fin (.tmp c) M' v H' G' z post ⟨p, e, hb, hc, hm⟩
      | var i =>
        simp only [endsOf, ret] at z
        split at z
        · rename_i c e1
          obtain ⟨p, s1, hb, hm, hc⟩ := k'.own i c e1
          have : v = .ref p := by have := (show (_ : L2.St)[i]? = some (some v) from rr); rw [s1] at this; cases this; rfl
          exact fin (.tmp c) M' v H' G' z post ⟨p, this, hb, hc, hm⟩
        · rename_i d e1
          obtain ⟨v', h1, h2⟩ := k'.dat i d e1
          have : v' = v := by have := (show (_ : L2.St)[i]? = some (some v) from rr); rw [h1] at this; cases this; rfl
          subst this
          exact fin (.dat d) M' _ H' G' z post h2
        · exact z.elim
end
end Gw

/-! try: body, clauses of one name or of three, the caught exception tracked from its suite on -/
namespace Gw
open PySem PySem.Spec L2 PyProof.Rows
theorem fly_keeps {base : Heap} {l : List Env} {e : Addr} {Z : Obj → Prop} {h h' : Heap} (fl : HandSPX.FlyingZ base l e Z h) (k : ∀ b o, h.get? b = some o → h'.get? b = some o) : HandSPX.FlyingZ base l e Z h' := by
  obtain ⟨k1, k2, k3, oe, vs, T, oT, ts, he, hz, hd, h1, hnT, hTe, hT, hdT, h3⟩ := fl
  exact ⟨fun b o q => k b o (k1 b o q), k2, Heap.FunFrames.of_keeps (fun b o e _ => ⟨o, k b o e, rfl⟩) k3, oe, vs, T, oT, ts, k _ _ he, hz, hd, h1, hnT, hTe, k _ _ hT, hdT, h3⟩
/-- the suite of a clause: the exception at a is tracked -/
abbrev hnd (X : Cx) (a : Addr) : Cx := { X with A := X.A.mark (some (.ref a)), calm := false, xe := fun _ _ => False }
theorem xob_own {e C x : Addr} {d : Option Addr} : xob e C d ≠ .own x := fun z => by
  have z' : HO.ext _ = HO.own x := z
  cases z'
theorem xob_ok {P : Program} {w : World} {H : Hp} {h : Heap} {a C : Addr} {d : Option Addr} {oe : Obj} {vs : Array Value} (e : h.get? a = some oe) (z : Zc (.ref C) d oe) (f : oe.data = .fields vs) : ObjOk P w H h a (xob a C d) :=
  ⟨⟨oe, vs, e, z, f⟩, ⟨oe, e⟩, fun _ _ ⟨o, v, q, r⟩ k => ⟨o, v, k o q, r⟩⟩
section
variable {X : Cx} {pins : List (Addr × Obj)} {σ : L2.St} {H : Hp} {s : Shared}
theorem hnd_ok (ok : X.Ok) (a : Addr) : (hnd X a).Ok :=
  ⟨ok.mod, ok.kind, ok.glob, ok.blt, ok.above, ok.inj, ok.has, ok.cab, (fun z => absurd (show false = true from z) Bool.false_ne_true), ok.frames, ok.stk, ok.exf, ok.bs, ok.bsz, ok.noex, ok.exfs, ok.funs, ok.frf⟩
theorem Inv.hnd (I : Inv X pins σ H s) {a C : Addr} {d : Option Addr} {oe : Obj} {vs : Array Value} (ha : s.heap.get? a = some oe) (hz : Zc (.ref C) d oe) (hd : oe.data = .fields vs) (na : H a = none) (nL : a ≠ X.env.locals)
    (n0 : X.s_0.heap.get? a = none) (np : ∀ p ∈ X.pn ++ pins, p.1 ≠ a) (nc : ∀ x c, X.env.cells.lookup x = some c → c ≠ a) : Inv (Gw.hnd X a) pins σ (upd H a (xob a C d)) s := by
  have n1 : ∀ b o, X.s_0.heap.get? b = some o → b ≠ a := fun b o e z => nomatch (z ▸ e).symm.trans n0
  refine ⟨hnd_ok I.ok a, I.os, I.bare, ⟨I.base.keep, I.base.slot, fun b o e n x => ?_, I.base.there, fun b xs e => ?_, fun b o u e => ?_, fun b ps e => ?_⟩, I.loc, I.cell, ?_, fun x c e => ?_, fun p hp => ?_, fun b o e => ?_, I.len⟩
  · rw [upd_ne (n1 b o e)]; exact I.base.free b o e n x
  · have q := I.base.tups b xs e
    rw [upd_ne (ne_of_none q na)]; exact q
  · have q := I.base.frzs b o u e
    rw [upd_ne (ne_of_none q na)]; exact q
  · obtain ⟨m, q⟩ := I.base.tbls b ps e
    exact ⟨m, by rw [upd_ne (ne_of_none q na)]; exact q⟩
  · show upd H a (xob a C d) X.env.locals = none
    rw [upd_ne (fun z => nL z.symm)]; exact I.free
  · show upd H a (xob a C d) c = none
    rw [upd_ne (nc x c e)]; exact I.freeC x c e
  · obtain ⟨e, n, ne, nf, dd⟩ := I.pin p hp
    exact ⟨e, by rw [upd_ne (np p hp)]; exact n, ne, nf, dd⟩
  · by_cases hb : b = a
    · subst hb; rw [upd_same] at e; cases e
      exact xob_ok ha hz hd
    · rw [upd_ne hb] at e
      exact (I.hok b o e).stay (fun _ _ _ q => q) (fun c hc => by rw [upd_ne (ne_of_none hc na)]; exact hc) (fun c xs hc => by rw [upd_ne (ne_of_none hc na)]; exact hc)
theorem Inv.unhnd {a : Addr} (I : Inv (Gw.hnd X a) pins σ H s) (ok : X.Ok) : Inv X pins σ H s :=
  ⟨ok, I.os, I.bare, I.base, I.loc, I.cell, I.free, I.freeC, I.pin, I.hok, I.len⟩
/-- what a clause tests -/
inductive Tst (X : Cx) : Expr → List Value → Prop
  | one {x : Str} {c : Value} {np : Pos} (h : Names X x c) : Tst X (.Name x np) [c]
  | three {x1 x2 x3 : Str} {c1 c2 c3 : Value} {p1 p2 p3 tp : Pos} {kk : Nat} (h1 : Names X x1 c1) (h2 : Names X x2 c2) (h3 : Names X x3 c3) : Tst X (.Tuple [.Name x1 p1, .Name x2 p2, .Name x3 p3] kk tp) [c1, c2, c3]
theorem ld_names {a : Addr} {pn : List (Addr × Obj)} {x : Str} {c : Value} {np : Pos} (n : Names X x c) (S : Inv (X.suite a pn) pins σ H s) {Q : Value → Shared → Prop} {E : Value → Shared → Prop} (q : Q c s) : wpAny (model X.prog X.w) (X.A.mark (some (.ref a))) (eval (.Name x np) X.env) Q E s := by
  obtain ⟨hg, hdbg, hm | ⟨hm, hv, hnn⟩⟩ := n
  · exact ld_glob (X := X.suite a pn) S hg hm q hdbg
  · exact ld_blt (X := X.suite a pn) S hg hm hv q hnn hdbg
theorem tst_run {t : Expr} {cs : List Value} (T : Tst X t cs) {a : Addr} {pn : List (Addr × Obj)} {oe : Obj} {cls : Value} {b : Bool} (S : Inv (X.suite a pn) pins σ H s) (ha : s.heap.get? a = some oe) (hc : oe.cls = cls) (e : PySem.W.exmAny X.K cls cs = some b)
    {Q : Bool → Shared → Prop} {E E' : Value → Shared → Prop} (q : ∀ h' : Heap, (∀ b o, s.heap.get? b = some o → h'.get? b = some o) → Q b { s with heap := h' }) :
    wpAny (model X.prog X.w) (X.A.mark (some (.ref a))) (eval t X.env) (fun c s₁ => wpAny (model X.prog X.w) (X.A.mark (some (.ref a))) (excMatches (.ref a) c) Q E s₁) E' s := by
  have LT : PySem.W.Looks (model X.prog X.w) s.heap (typeOf (.ref a)) cls := fun A Q E s k q => wpAny_typeOf_ref (k _ _ ha) (by rw [hc]; exact q)
  cases T with
  | one h =>
    obtain ⟨b1, d1, e1, e2, e3⟩ := PySem.W.exmAny_cons e
    have e4 : d1 = false := by cases e2; rfl
    subst e4
    rw [Bool.or_false] at e3
    subst e3
    exact ld_names h S ((PySem.W.exm_one S.kIn LT e1).here (q s.heap fun _ _ z => z))
  | @three x1 x2 x3 c1 c2 c3 p1 p2 p3 tp kk h1 h2 h3 =>
    refine wpAny_Tuple ?_
    refine wpAny_items_cons (ld_names h1 S ?_)
    refine wpAny_items_cons (ld_names h2 S ?_)
    refine wpAny_items_cons (ld_names h3 S ?_)
    refine wpAny_items_nil ⟨by size_fits, ?_⟩
    have kp : ∀ q o, s.heap.get? q = some o → (s.heap.push { cls := .type "tuple", data := .seq [c1, c2, c3].toArray }).get? q = some o := fun _ _ z => Heap.get?_push_of_some _ z
    exact (PySem.W.exm_tup3 (S.kIn.keeps kp) (LT.keeps kp) (Heap.get?_push_size s.heap rfl) e).here (q _ kp)
end
/-- a clause: what it tests, the slot of its name, its suite -/
structure Hd where
  cs : List Value
  i : Option Nat
  ts : TS
def onAs (i : Option Nat) (D : Ends) : Ends := match i with
  | none => D
  | some i => { nx := fun σ H => D.nx (σ.set i none) H, rt := D.rt, bk := fun σ H => D.bk (σ.set i none) H, ct := fun σ H => D.ct (σ.set i none) H }
def toAs (i : Option Nat) (a : Addr) (σ : L2.St) : L2.St := match i with
  | none => σ
  | some i => σ.set i (some (.ref a))
def wHs (K : PySem.W.Frag) (Wout : WX) (D : Ends) : List Hd → WX
  | [] => Wout
  | h :: r => fun cls d σ H => ∃ b C, cls = .ref C ∧ PySem.W.exmAny K cls h.cs = some b ∧ (b = true → ∀ a, H a = none → h.ts (onAs h.i D) (toAs h.i a σ) (upd H a (xob a C d))) ∧ (b = false → wHs K Wout D r cls d σ H)
inductive HdOk (X : Cx) : List ExceptHandler → List Hd → Prop
  | nil : HdOk X [] []
  | plain {t : Expr} {cs : List Value} {ts : TS} {b₀ : Stmt} {suite : List Stmt} {pos' : Pos} {hds : List ExceptHandler} {l : List Hd} (hc : Tst X t cs) (hsu : ∀ a, PSs (hnd X a) (b₀ :: suite) ts) (r : HdOk X hds l) :
      HdOk X (.ExceptHandler (some t) none (b₀ :: suite) pos' :: hds) (⟨cs, none, ts⟩ :: l)
  | as {t : Expr} {n : Str} {i : Nat} {cs : List Value} {ts : TS} {b₀ : Stmt} {suite : List Stmt} {pos' : Pos} {hds : List ExceptHandler} {l : List Hd} (hc : Tst X t cs) (hN : X.N.Nodup) (hi : X.N[i]? = some n) (hln : X.env.kindOf n = some .local)
      (hsu : ∀ a, PSs (hnd X a) (b₀ :: suite) ts) (r : HdOk X hds l) : HdOk X (.ExceptHandler (some t) (some n) (b₀ :: suite) pos' :: hds) (⟨cs, some i, ts⟩ :: l)
/-! A caught exception: J the state without it, B the ground, s the state in which it came. -/
structure Caught (X : Cx) (pins : List (Addr × Obj)) (σ : L2.St) (H : Hp) (sI s : Shared) (B : Heap) (a : Addr) (cls : Value) (d : Option Addr) : Prop where
  J : Inv X pins σ H sI
  gr : ∀ b o, sI.heap.get? b = some o → b ∉ frs X.stack → B.get? b = some o
  up : sI.heap.UpToSlots s.heap
  na : H a = none
  os : s.os = sI.os
  ag : AllBare s.gens
  nL : a ≠ X.env.locals
  nF : a ∉ X.fs
  nI : sI.heap.get? a = none
abbrev Fly (X : Cx) (B : Heap) (a : Addr) (cls : Value) (d : Option Addr) (h : Heap) : Prop := HandSPX.FlyingZ B X.stack a (Zc cls d) h
section
variable {X : Cx} {pins : List (Addr × Obj)} {σ : L2.St} {H : Hp} {sI s : Shared} {B h : Heap} {a : Addr} {cls : Value} {d : Option Addr}
/-- an object with fields is no frame -/
theorem Fly.noFrame (fl : Fly X B a cls d h) : a ∉ frs X.stack := fun hm => by
  obtain ⟨oe, vs, h1, _, h2⟩ := fl.there
  obtain ⟨_, o, h3, h4⟩ := fl.2.2.1.mem hm
  cases h1.symm.trans h3
  exact h4 vs h2
theorem Caught.mk' (hs : X.stack = X.env :: X.outer) (hf : X.env.frame = some X.env.locals) (J : Inv X pins σ H sI) (gr : ∀ b o, sI.heap.get? b = some o → b ∉ frs X.stack → B.get? b = some o) (up : sI.heap.UpToSlots s.heap) (na : H a = none) (os : s.os = sI.os) (ag : AllBare s.gens) (fl : Fly X B a cls d h) : Caught X pins σ H sI s B a cls d := by
  have nf : a ∉ frs X.stack := fl.noFrame
  have e : frs X.stack = X.env.locals :: X.fs := by rw [hs]; show List.filterMap _ (X.env :: X.outer) = _; rw [List.filterMap_cons, hf]; rfl
  rw [e, List.mem_cons, not_or] at nf
  refine ⟨J, gr, up, na, os, ag, nf.1, nf.2, ?_⟩
  cases q : sI.heap.get? a with
  | none => rfl
  | some o => exact nomatch (gr a o q fl.noFrame).symm.trans fl.2.1
/-- the state with the exception's own objects is a state of ours -/
theorem Caught.inv (c : Caught X pins σ H sI s B a cls d) (fl : Fly X B a cls d h) (up : s.heap.UpToSlots h) : Inv X pins σ H { s with heap := h } := c.J.landed (s' := { s with heap := h }) c.gr fl.1 (c.up.trans up) c.os c.ag
theorem Caught.n0 (c : Caught X pins σ H sI s B a cls d) (hex : X.ex = []) : X.s_0.heap.get? a = none :=
  match q : X.s_0.heap.get? a with
  | none => rfl
  | some o => by
    obtain ⟨o', z⟩ := c.J.base.there a o q (by rw [hex]; exact List.not_mem_nil)
    exact nomatch z.symm.trans c.nI
/-- .. tracked: the suite's state -/
theorem Caught.held {C : Addr} (c : Caught X pins σ H sI s B a (.ref C) d) (hex : X.ex = []) (fl : Fly X B a (.ref C) d h) (up : s.heap.UpToSlots h) : Inv (hnd X a) pins σ (upd H a (xob a C d)) { s with heap := h } := by
  obtain ⟨oe, vs, h1, h2, h3⟩ := fl.there
  refine Gw.Inv.hnd (c.inv fl up) h1 h2 h3 c.na c.nL (c.n0 hex) (fun p hp z => ?_) (fun x k e z => ?_)
  · exact nomatch (z ▸ (c.J.pin p hp).1).symm.trans c.nI
  · obtain ⟨v, o, q, _⟩ := c.J.cell x k e
    exact nomatch (z ▸ q).symm.trans c.nI
/-- the test of a clause -/
theorem Caught.test {t : Expr} {cs : List Value} {b : Bool} (c : Caught X pins σ H sI s B a cls d) (T : Tst X t cs) (e : PySem.W.exmAny X.K cls cs = some b) (fl : Fly X B a cls d h) (up : s.heap.UpToSlots h) {Q : Bool → Shared → Prop} {E E' : Value → Shared → Prop}
    (q : ∀ g, Fly X B a cls d g → s.heap.UpToSlots g → Q b { s with heap := g }) : wpAny (model X.prog X.w) (X.A.mark (some (.ref a))) (eval t X.env) (fun v s₁ => wpAny (model X.prog X.w) (X.A.mark (some (.ref a))) (excMatches (.ref a) v) Q E s₁) E' { s with heap := h } := by
  obtain ⟨oe, vs, h1, h2, h3⟩ := fl.there
  exact tst_run T ((c.inv fl up).suite h1 h3 c.na c.nL c.nF) h1 h2.1 e fun g k => q g (fly_keeps fl k) (up.trans (Heap.UpToSlots.of_keeps k))
/-- no clause was it: it flies on -/
theorem Caught.on {W : WX} {D : Ends} (c : Caught X pins σ H sI s B a cls d) (hf : X.env.frame = some X.env.locals) (tk : Takes X W) (fl : Fly X B a cls d h) (up : s.heap.UpToSlots h) (w : W cls d σ H) : wpAny (model X.prog X.w) X.A (handleBy (.ref a) X.env []) (SP X pins D) X.xe { s with heap := h } := by
  have last : wpAny (model X.prog X.w) X.A (setFlight (.ref a) X.env.frame) (fun _ s4 => wpAny (model X.prog X.w) X.A (throw (.ref a) : Sem Flow) (SP X pins D) X.xe s4) X.xe { s with heap := h } := by
    rw [hf]
    exact HandSPX.setFlight_upZ fl fun g hg ug => wpAny_throw (tk _ _ ⟨a, B, sI, pins, σ, H, cls, d, rfl, c.J, c.gr, (c.up.trans up).trans ug, .inr (.inr hg), c.na, c.os, c.ag, w⟩)
  obtain ⟨_, _, _, oe, vs, T, oT, ts, h1, h2, h3, h4, _⟩ := id fl
  refine wpAny_handleBy_nil ?_
  unfold PySem.passOn
  refine wpAny_bind (wpAny_field h1 h3 h4 ?_)
  have nn : (Value.ref T == Value.none) = false := by simp
  simp only [nn, Bool.false_eq_true, if_false]
  first
    | exact wpAny_bind last
    | exact wpAny_bind (wpAny_pure (wpAny_bind last))
/-- a suite's ends are ends of the try -/
theorem out_hnd {D : Ends} {f : Flow} (ok : X.Ok) (h : SP (hnd X a) pins D f s) : SP X pins D f s := by
  cases f with
  | ret u => obtain ⟨v, σ', H', I', r, q⟩ := h; exact ⟨v, σ', H', Gw.Inv.unhnd I' ok, r, q⟩
  | next => obtain ⟨σ', H', I', q⟩ := h; exact ⟨σ', H', Gw.Inv.unhnd I' ok, q⟩
  | brk => obtain ⟨σ', H', I', q⟩ := h; exact ⟨σ', H', Gw.Inv.unhnd I' ok, q⟩
  | cont => obtain ⟨σ', H', I', q⟩ := h; exact ⟨σ', H', Gw.Inv.unhnd I' ok, q⟩
/-- the clause's name goes, whatever the end -/
theorem out_name {M : Model} {A : Around} {E : Value → Shared → Prop} {D : Ends} {f : Flow} {i : Nat} {n : Str} {pos : Pos} (hN : X.N.Nodup) (hi : X.N[i]? = some n) (hl : X.env.kindOf n = some .local) (h : SP X pins (onAs (some i) D) f s) :
    wpAny M A (do bindName X.env n .none; unbindBehindTheSuite X.env n pos) (fun _ s' => SP X pins D f s') E s := by
  cases f with
  | ret u => obtain ⟨v, σ', H', I', r, q⟩ := h; exact gone_ok I' hN hi hl fun s' I2 => ⟨v, _, H', I2, r, q⟩
  | next => obtain ⟨σ', H', I', q⟩ := h; exact gone_ok I' hN hi hl fun s' I2 => ⟨_, H', I2, q⟩
  | brk => obtain ⟨σ', H', I', q⟩ := h; exact gone_ok I' hN hi hl fun s' I2 => ⟨_, H', I2, q⟩
  | cont => obtain ⟨σ', H', I', q⟩ := h; exact gone_ok I' hN hi hl fun s' I2 => ⟨_, H', I2, q⟩
/-- the clauses, one after the other -/
theorem Caught.by {W : WX} {D : Ends} {hds : List ExceptHandler} {l : List Hd} (c : Caught X pins σ H sI s B a cls d) (hf : X.env.frame = some X.env.locals) (hex : X.ex = []) (tk : Takes X W) (hk : HdOk X hds l) :
    ∀ h, Fly X B a cls d h → s.heap.UpToSlots h → wHs X.K W D l cls d σ H → wpAny (model X.prog X.w) X.A (handleBy (.ref a) X.env hds) (SP X pins D) X.xe { s with heap := h } := by
  have ok := c.J.ok
  induction hk with
  | nil => exact fun h fl up w => c.on hf tk fl up w
  | plain hc hsu r ih =>
    rintro h fl up ⟨b, C, rfl, hb, yes, no⟩
    refine wpAny_handleBy_cons (codeAny_handlers_test (c.test hc hb fl up fun g fg ug => ?_)) (fun q => nomatch q)
    cases b with
    | false => exact ih g fg ug (no rfl)
    | true =>
      refine codeAny_handlers_suite (HandSPX.lands_againZ fg fun g2 f2 u2 => ?_)
      exact wpAny_mono ((hsu a).run pins _ _ _ _ (c.held hex f2 (ug.trans u2)) (yes rfl a c.na)) (fun f s6 z => out_hnd ok z) (fun _ _ z => z.elim)
  | as hc hN hi hln hsu r ih =>
    rintro h fl up ⟨b, C, rfl, hb, yes, no⟩
    refine wpAny_handleBy_cons (codeAny_handlers_test (c.test hc hb fl up fun g fg ug => ?_)) (fun q => nomatch q)
    cases b with
    | false => exact ih g fg ug (no rfl)
    | true =>
      refine codeAny_handlers_suite_as (HandSPX.lands_againZ fg fun g2 f2 u2 => ?_)
      refine store_ok (X := hnd X a) (v := .ref a) (c.held hex f2 (ug.trans u2)) hN hi (.inl hln) rfl (fun s5 I5 => ?_) (.inr hln)
      exact wpAny_mono ((hsu a).run pins s5 _ _ _ I5 (yes rfl a c.na)) (fun f s6 z => out_name hN hi hln (out_hnd ok z)) (fun _ _ z => z.elim)
end
/-- out of the try's own context -/
theorem out_try {X : Cx} {pins : List (Addr × Obj)} {xe : Value → Shared → Prop} {D : Ends} {f : Flow} {s : Shared} (ok : X.Ok) (h : SP (X.tr (X.pn ++ pins) xe) [] D f s) : SP X pins D f s := by
  cases f with
  | ret u => obtain ⟨v, σ', H', I', r, q⟩ := h; exact ⟨v, σ', H', I'.ofTry ok, r, q⟩
  | next => obtain ⟨σ', H', I', q⟩ := h; exact ⟨σ', H', I'.ofTry ok, q⟩
  | brk => obtain ⟨σ', H', I', q⟩ := h; exact ⟨σ', H', I'.ofTry ok, q⟩
  | cont => obtain ⟨σ', H', I', q⟩ := h; exact ⟨σ', H', I'.ofTry ok, q⟩
theorem ps_tryH {X : Cx} {body : List Stmt} {h₀ : ExceptHandler} {hds : List ExceptHandler} {l : List Hd} {pos : Pos} {tb : WX → TS} {Wout : WX} (hs : X.stack = X.env :: X.outer) (hf : X.env.frame = some X.env.locals) (hex : X.ex = []) (tk : Takes X Wout)
    (hb : ∀ (W : WX) (pn : List (Addr × Obj)) (xe : Value → Shared → Prop), Takes (X.tr pn xe) W → PassesOwn (model X.prog X.w) X.A X.env xe → PSs (X.tr pn xe) body (tb W)) (hh : HdOk X (h₀ :: hds) l) :
    PS X (.Try body (h₀ :: hds) [] [] pos) (fun D σ H => tb (wHs X.K Wout D l) D σ H) := ⟨fun pins s σ H D I w => by
  have run := hb (wHs X.K Wout D l) (X.pn ++ pins) (fun u s₁ => wpAny (model X.prog X.w) X.A (noteFrame u X.env) (fun _ s₂ => wpAny (model X.prog X.w) X.A (setFlight u none) (fun _ s₃ => wpAny (model X.prog X.w) X.A (handleBy u X.env (h₀ :: hds)) (SP X pins D) X.xe s₃) X.xe s₂) X.xe s₁) ?takes PassesOwn.looking
  · refine wpAny_Try_except (wpAny_mono (run.run [] s σ H D (I.toTry _) w) (fun f s1 z => ?_) fun _ _ z => z)
    have z := out_try I.ok z
    cases f with
    | next => exact wpAny_execs_nil z
    | _ => exact z
  · rintro u s' ⟨a, B, sI, _, σ', H', cls, d, rfl, J', gr, up, sky, na, os, ag, w'⟩
    have fr : X.A.frames = some X.stack := I.ok.frames
    rw [hs] at fr
    refine Sky.land Zc.steady fr hf (hs ▸ sky) fun g fl ug => ?_
    have fl' : Fly X B a cls d g := by rw [← hs] at fl; exact fl
    exact (Caught.mk' hs hf (J'.ofTry I.ok) gr up na os ag fl').by hf hex tk hh g fl' ug w'⟩
end Gw

/-! the program's classes of exceptions: what the text says of them, isinstance, fields -/
namespace Gw
open PySem PySem.W L2 PyProof.Rows
variable {ρ : Ent}
/-- the families -/
def heirs : List (Str × List Str) := [("Refused", ["Refused", "ValueError"]), ("Missing", ["Missing", "LookupError"]), ("Halted", ["Halted", "RuntimeError"]),
  ("NoText", ["NoText", "Refused", "ValueError"]), ("NoProgram", ["NoProgram", "Refused", "ValueError"]), ("NoKind", ["NoKind", "Refused", "ValueError"]), ("TooGreat", ["TooGreat", "Refused", "ValueError"]), ("NoFit", ["NoFit", "Refused", "ValueError"]),
  ("Nothing", ["Nothing", "Refused", "ValueError"]), ("NoStep", ["NoStep", "Refused", "ValueError"]), ("NoLine", ["NoLine", "Refused", "ValueError"]),
  ("NoPlace", ["NoPlace", "Missing", "LookupError"]), ("NoGate", ["NoGate", "Missing", "LookupError"]), ("NoStage", ["NoStage", "Missing", "LookupError"]), ("Unclean", ["Unclean", "Halted", "RuntimeError"])]
def subX (r c : Str) : Bool := match heirs.lookup r with
  | some l => l.contains c
  | none => false
def isX (cns : List Str) (r : Str) : Bool := cns.any (subX r)
def clsV (K : Frag) (c : Str) : Option Value := match nsIn K mainGlobals c with
  | some (some v) => some v
  | some none => bootBuiltins c
  | none => none
/-- the class of a name, as a value; its address -/
def clsVal (K : Frag) (c : Str) : Value := (clsV K c).getD .none
def clsAd (K : Frag) (c : Str) : Addr := match nsIn K mainGlobals c with
  | some (some (.ref C)) => C
  | _ => 0
def clsW (K : Frag) (c : Str) : V := match clsV K c with
  | some (.ref C) => .ref C
  | some (.type n) => .ty n
  | _ => .non
/-- what is asked of a class of exceptions -/
structure XcF (K : Frag) (C : Addr) : Prop where
  ga : findIn K (.ref C) "__getattribute__" = some (some (.builtin "BaseException.__getattribute__"))
  gg : findIn K (.ref C) "__getattr__" = some none
  exC : subIn K (.ref C) (.type "BaseException") = some true
  hdC : hasDictIn K C = true
  ca : findIn K (.ref C) "__class__" = some (some (.builtin "object.__class__"))
  gs : specialIn K (.builtin "object.__class__") "__get__" = some (some (.builtin "getset_descriptor.__get__"))
  tk : takesIn K (.builtin "object.__class__") = some true
  mr : mroIn K C (.type "object") = some true
def xcB (K : Frag) (C : Addr) : Bool :=
  decide (findIn K (.ref C) "__getattribute__" = some (some (.builtin "BaseException.__getattribute__"))) && (decide (findIn K (.ref C) "__getattr__" = some none) && (decide (subIn K (.ref C) (.type "BaseException") = some true) && (hasDictIn K C &&
  (decide (findIn K (.ref C) "__class__" = some (some (.builtin "object.__class__"))) && (decide (specialIn K (.builtin "object.__class__") "__get__" = some (some (.builtin "getset_descriptor.__get__"))) && (decide (takesIn K (.builtin "object.__class__") = some true) && decide (mroIn K C (.type "object") = some true)))))))
theorem xcB_ok {K : Frag} {C : Addr} (h : xcB K C = true) : XcF K C := by
  simp only [xcB, Bool.and_eq_true, decide_eq_true_eq] at h
  obtain ⟨h1, h2, h3, h4, h5, h6, h7, h8⟩ := h
  exact ⟨h1, h2, h3, h4, h5, h6, h7, h8⟩
def isClsB (v : Value) : Bool := match v with
  | .ref _ => true
  | .type _ => true
  | _ => false
/-- R: the classes of the exceptions that come; A: those that are asked for; F: the fields that are read -/
structure XTab (K : Frag) (R A F : List Str) : Prop where
  ok : ∀ r ∈ R, nsIn K mainGlobals r = some (some (.ref (clsAd K r))) ∧ XcF K (clsAd K r)
  fd : ∀ r ∈ R, ∀ f ∈ F, findIn K (.ref (clsAd K r)) f = some none
  cv : ∀ c ∈ A, (clsV K c).isSome = true ∧ isClsB (clsVal K c) = true ∧ kitOne K (.type "NoneType") (clsVal K c) = some false
  is : ∀ r ∈ R, ∀ c ∈ A, kitOne K (.ref (clsAd K r)) (clsVal K c) = some (subX r c) ∧ exmOne K (.ref (clsAd K r)) (clsVal K c) = some (subX r c)
def xtabB (K : Frag) (R A F : List Str) : Bool :=
  R.all (fun r => decide (nsIn K mainGlobals r = some (some (.ref (clsAd K r)))) && (xcB K (clsAd K r) && (F.all (fun f => decide (findIn K (.ref (clsAd K r)) f = some none)) &&
    A.all (fun c => decide (kitOne K (.ref (clsAd K r)) (clsVal K c) = some (subX r c)) && decide (exmOne K (.ref (clsAd K r)) (clsVal K c) = some (subX r c)))))) &&
  A.all fun c => (clsV K c).isSome && (isClsB (clsVal K c) && decide (kitOne K (.type "NoneType") (clsVal K c) = some false))
theorem xtabB_ok {K : Frag} {R A F : List Str} (h : xtabB K R A F = true) : XTab K R A F := by
  simp only [xtabB, Bool.and_eq_true, List.all_eq_true, decide_eq_true_eq] at h
  obtain ⟨h1, h2⟩ := h
  exact ⟨fun r hr => ⟨(h1 r hr).1, xcB_ok (h1 r hr).2.1⟩, fun r hr f hf => (h1 r hr).2.2.1 f hf, fun c hc => ⟨(h2 c hc).1, (h2 c hc).2.1, (h2 c hc).2.2⟩, fun r hr c hc => (h1 r hr).2.2.2 c hc⟩
/-- the globals are as the text says -/
def Agr (K : Frag) (mg : Str → Option Value) : Prop := ∀ x o, nsIn K mainGlobals x = some o → mg x = o
theorem agr_of {K : Frag} {h : Heap} {mg : Str → Option Value} (X : K.In h) (G : h.Ns mainGlobals mg) : Agr K mg := fun x o e => by
  cases o with
  | none => exact mg_none_of X G e
  | some v => exact mg_of X G e
section
variable {X : Cx} {K : Frag} {mg : Str → Option Value} {R A F : List Str} {B : Ent} {σ : L2.St} {H G H1 G1 H2 G2 : Hp} {Γ Γ1 Γ2 : Sl} {M M1 M2 : Mem} {a : Expr} {ta : TE} {aa : AE} {pos : Pos}
theorem clsV_val {c : Str} (h : (clsV K c).isSome = true) : clsV K c = some (clsVal K c) := by
  obtain ⟨v, e⟩ := Option.isSome_iff_exists.mp h
  unfold clsVal
  rw [e]; rfl
theorem cls_names (g : Agr X.K X.mg) (T : XTab X.K R A F) {c : Str} (hc : c ∈ A) (hg : Gl X c) (hn : c ≠ "__name__") (hdb : (c == ("__debug__" : Str)) = false) : Names X c (clsVal X.K c) := by
  have e := clsV_val (T.cv c hc).1
  refine ⟨hg, hdb, ?_⟩
  unfold clsV at e
  split at e
  · rename_i v q
    cases e
    exact .inl (g _ _ q)
  · rename_i q
    exact .inr ⟨g _ _ q, e, hn⟩
  · cases e
theorem clsW_ok (T : XTab K R A F) {c : Str} (hc : c ∈ A) : ClsV (clsW K c) (clsVal K c) := by
  obtain ⟨h1, h2, _⟩ := T.cv c hc
  have e := clsV_val h1
  unfold clsW
  rw [e]
  revert h2
  cases clsVal K c <;> intro h2
  all_goals first | exact (Bool.false_ne_true h2).elim | exact .own _ | exact .ty _
theorem clsV_rel {v : V} {u : Value} (h : ClsV v u) : RelV v u := by cases h <;> rfl
theorem pe_cls {c : Str} {p : Pos} (n : Names X c (clsVal X.K c)) (k : ClsV (clsW X.K c) (clsVal X.K c)) : PE X (.Name c p) (tC (clsW X.K c)) := by
  obtain ⟨hg, hdb, hm | ⟨hm, hv, hn⟩⟩ := n
  · exact pe_glob hg hm (clsV_rel k) hdb
  · exact pe_bltn hg hm hv (clsV_rel k) hn hdb
/-- a value's class, an exception's too -/
inductive TyE (K : Frag) (H : Hp) : V → Value → Prop where
  | base {x : V} {t : Value} (h : TyX K H x t) : TyE K H x t
  | exc {a C : Addr} {d : Option Addr} {ws : List (Str × V)} (e : H a = some (xob a C d)) (f : XcF K C) (x : XD H d ws) : TyE K H (.ref a) (.ref C)
theorem inst_exc {pins : List (Addr × Obj)} {s : Shared} {a C : Addr} {d : Option Addr} {ws : List (Str × V)} (I : Inv X pins σ H s) (e : H a = some (xob a C d)) (x : XD H d ws) : ∃ oe od, InstAt s.heap a oe C od := by
  obtain ⟨⟨oe, vs, h1, ⟨h2, h3⟩, h4⟩, _⟩ := I.hok a _ e
  rcases x with ⟨rfl, _⟩ | ⟨dd, rfl, hd⟩
  · exact ⟨oe, none, h1, h2, by unfold notCls; rw [h4] <;> rfl, by rw [h3]; trivial⟩
  · obtain ⟨mA, hns, hr⟩ := (show ObjOk X.prog X.w H s.heap dd (.xd ws) from I.hok dd _ hd)
    obtain ⟨od, ho, hl⟩ := lookIn_ns hns
    exact ⟨oe, some od, h1, h2, by unfold notCls; rw [h4] <;> rfl, by rw [h3]; exact ho⟩
theorem kit_ofE {pins : List (Addr × Obj)} {s : Shared} {x : V} {u t : Value} (I : Inv X pins σ H s) (rx : RelV x u) (ty : TyE X.K H x t) : ∃ P : Heap → Prop, KitX X.K u t P ∧ P s.heap ∧ u ≠ .builtin "__main__.__loader__#opaque" := by
  cases ty with
  | base h => exact kit_of I rx h
  | exc e f x =>
    cases rx
    obtain ⟨oe, od, J⟩ := inst_exc I e x
    refine ⟨_, kitx_exc (by obtain ⟨cd, hc, _⟩ := any_some f.hdC; rw [hc]; rfl) f.ga f.gg f.exC f.ca f.gs f.tk f.mr, J, fun z => nomatch z⟩
def rIsX (K : Frag) : List V → Hp → VK → Prop := fun xs H Q => ∃ (x c : V) (t u : Value) (b : Bool), xs = [x, c] ∧ ClsV c u ∧ TyE K H x t ∧ kitOne K t u = some b ∧ Q (.bl b) H
def rIsXT (K : Frag) : List V → Hp → VK → Prop := fun xs H Q => ∃ (x : V) (tp : Addr) (cs : List V) (t : Value) (us : List Value) (b : Bool), xs = [x, .ref tp] ∧ H tp = some (.tup cs) ∧ Paired ClsV cs us ∧ TyE K H x t ∧ kitAny K t us = some b ∧ Q (.bl b) H
theorem call_isX : CallR X (.builtin "isinstance") (rIsX X.K) := by
  intro pins s σ H xs us Q I r h
  obtain ⟨x, c, t, u, b, rfl, k, ty, e, q⟩ := h
  obtain ⟨u1, u2, rfl, r1, r2⟩ := vals2 r
  have e2 := k.eq r2
  subst e2
  obtain ⟨P, Z, p, hx⟩ := kit_ofE I r1 ty
  exact kia_one Z I.kIn p e hx fun tk => ⟨.bl b, H, I.tok tk, rfl, q⟩
theorem call_isXT : CallR X (.builtin "isinstance") (rIsXT X.K) := by
  intro pins s σ H xs us Q I r h
  obtain ⟨x, tp, cs, t, ws, b, rfl, hT, k, ty, e, q⟩ := h
  obtain ⟨u1, u2, rfl, r1, r2⟩ := vals2 r
  cases (show u2 = Value.ref tp from r2)
  obtain ⟨P, Z, p, hx⟩ := kit_ofE I r1 ty
  obtain ⟨_, its, rv, o, h1, h2, n, h3⟩ := (show ObjOk X.prog X.w H s.heap tp (.tup cs) from I.hok tp _ hT)
  have e3 := ClsV.all k rv
  subst e3
  obtain ⟨oc, od, dt, sl⟩ := o
  simp only at h2 h3
  subst h2 h3
  exact kia_tup Z I.kIn p h1 e hx fun tk => ⟨.bl b, H, I.tok tk, rfl, q⟩
/-- isinstance of an exception, or of None -/
def aIsX (R cns : List Str) (r : Ret) (Γ : Sl) (M : Mem) (Q : Ret → Sl → Mem → Prop) : Prop := match r with
  | .dat (.exc cn _ _) => R.contains cn = true ∧ Q (.dat (.bl (isX cns cn))) Γ M
  | .dat .non => Q (.dat (.bl false)) Γ M
  | _ => False
theorem isX_ty {r : Ret} {v : V} {H0 : Hp} {Q : Ret → Sl → Mem → Prop} {cns : List Str} (T : XTab K R A F) (hA : ∀ c ∈ cns, c ∈ A) (k : Ok K ρ B σ H G Γ M) (rr : RepR K B σ H0 H G Γ M r v) (h : aIsX R cns r Γ M Q) :
    ∃ t b, TyE K H v t ∧ (∀ c ∈ cns, ∃ b', kitOne K t (clsVal K c) = some b') ∧ kitAny K t (cns.map (clsVal K)) = some b ∧ Q (.dat (.bl b)) Γ M := by
  unfold aIsX at h
  split at h
  · rename_i cn ns ds
    obtain ⟨hR, h⟩ := h
    have hR' : cn ∈ R := List.elem_iff.mp hR
    obtain ⟨p, C, d, ws, rfl, hn, hp, hx, _⟩ := rep_exc.mp (show Rep K G (.exc cn ns ds) v from rr)
    obtain ⟨t1, t2⟩ := T.ok cn hR'
    have eC : C = clsAd K cn := by rw [hn] at t1; cases t1; rfl
    rw [eC] at hp
    refine ⟨_, isX cns cn, .exc (k.ex _ _ hp) t2 (hx.mono k.ex), fun c hc => ⟨_, (T.is cn hR' c (hA c hc)).1⟩, ?_, h⟩
    clear h
    induction cns with
    | nil => rfl
    | cons c cs ih =>
      have i1 := (T.is cn hR' c (hA c List.mem_cons_self)).1
      have i2 := ih (fun c hc => hA c (List.mem_cons_of_mem _ hc))
      rw [List.map_cons, kitAny, i1]
      unfold isX
      rw [List.any_cons]
      cases subX cn c with
      | true => rfl
      | false => rw [Bool.false_or]; exact i2
  · have ev : v = .non := by have := rr; simp only [RepR, Rep] at this; exact this
    subst ev
    refine ⟨.type "NoneType", false, .base (.base .non), fun c hc => ⟨_, (T.cv c (hA c hc)).2.2⟩, ?_, h⟩
    clear h
    induction cns with
    | nil => rfl
    | cons c cs ih =>
      have i1 := (T.cv c (hA c List.mem_cons_self)).2.2
      rw [List.map_cons, kitAny, i1]
      exact ih (fun c hc => hA c (List.mem_cons_of_mem _ hc))
  · exact h.elim
theorem q_isX1 {c : Str} {p p2 : Pos} (T : XTab K R A F) (g : Agr K mg) (hm : X.mg "isinstance" = none) (ha : QE X ρ a ta aa) (hc : c ∈ A := by decide) (hg : Gl X "isinstance" := by rfl) (hg2 : Gl X c := by rfl) (hn : c ≠ "__name__" := by decide) (hdb : (c == ("__debug__" : Str)) = false := by decide)
    (na : starEach [a, .Name c p2] X.env = (false, eval a X.env) :: starEach [.Name c p2] X.env := by rfl) (hpl : (backTo pos (starEach [.Name c p2] X.env)).any (·.1) = false := by rfl) (hK : X.K = K := by rfl) (hM : X.mg = mg := by rfl) :
    QE X ρ (.Call (.Name "isinstance" p) [a, .Name c p2] [] pos) (tCB (rIsX K) (tCons ta (tCons (tC (clsW K c)) tNil))) (aUn (aIsX R [c]) aa) := by
  subst hK; subst hM
  refine ⟨pe_callB call_isX hg hm (by decide +kernel) (pa_cons ha.pe (pa_cons (pe_cls (cls_names g T hc hg2 hn hdb) (clsW_ok T hc)) pa_nil rfl) na) (by decide) (by decide) na hpl, ?_⟩
  intro B σ H G Γ M Q R k h q
  refine ha.rd B σ H G Γ M _ _ k h fun v H1 G1 Γ1 M1 r k1 e1 rr h1 => ?_
  obtain ⟨t, b, ty, hk, hb, hQ⟩ := isX_ty T (fun c' hc' => by rw [List.mem_singleton.mp hc']; exact hc) k1 rr h1
  obtain ⟨b', hb'⟩ := hk c List.mem_cons_self
  have eb : b' = b := by
    rw [List.map_cons, List.map_nil, kitAny, hb'] at hb
    cases b' <;> cases hb <;> rfl
  subst eb
  exact ⟨v, clsW X.K c, t, clsVal X.K c, b', rfl, clsW_ok T hc, ty, hb', q _ H1 G1 Γ1 M1 (.dat (.bl _)) k1 e1 (by simp only [RepR, Rep]) hQ⟩
/-- the names of a tuple of classes -/
inductive ClsNs (X : Cx) (A : List Str) : List Expr → List Str → Prop
  | nil : ClsNs X A [] []
  | cons {c : Str} {p : Pos} {es : List Expr} {cs : List Str} (hc : c ∈ A) (hg : Gl X c) (hn : c ≠ "__name__") (hdb : (c == ("__debug__" : Str)) = false) (hs : starEach (.Name c p :: es) X.env = (false, eval (.Name c p) X.env) :: starEach es X.env) (r : ClsNs X A es cs) : ClsNs X A (.Name c p :: es) (c :: cs)
def taCls (K : Frag) : List Str → TA
  | [] => tNil
  | c :: cs => tCons (tC (clsW K c)) (taCls K cs)
theorem pa_cls {es : List Expr} {cs : List Str} (T : XTab X.K R A F) (g : Agr X.K X.mg) (h : ClsNs X A es cs) : PA X es (taCls X.K cs) := by
  induction h with
  | nil => exact pa_nil
  | cons hc hg hn hdb hs r ih => exact pa_cons (pe_cls (cls_names g T hc hg hn hdb) (clsW_ok T hc)) ih hs
theorem taCls_run {σ : L2.St} {H : Hp} {Q : List V → Hp → Prop} : ∀ (cs : List Str), Q (cs.map (clsW K)) H → taCls K cs σ H Q
  | [], h => h
  | c :: cs, h => by
    show taCls K cs σ H fun vs H1 => Q (clsW K c :: vs) H1
    exact taCls_run cs h
theorem paired_cls {cs : List Str} (T : XTab K R A F) (h : ∀ c ∈ cs, c ∈ A) : Paired ClsV (cs.map (clsW K)) (cs.map (clsVal K)) := by
  induction cs with
  | nil => exact .nil
  | cons c cs ih => exact .cons (clsW_ok T (h c List.mem_cons_self)) (ih fun c hc => h c (List.mem_cons_of_mem _ hc))
theorem q_isXT {es : List Expr} {cs : List Str} {p tp : Pos} {kk : Nat} (T : XTab K R A F) (g : Agr K mg) (hm : X.mg "isinstance" = none) (ha : QE X ρ a ta aa) (hcs : ClsNs X A es cs) (hA : ∀ c ∈ cs, c ∈ A := by decide) (hl : cs.length ≤ sizeLine := by decide) (hg : Gl X "isinstance" := by rfl)
    (na : starEach [a, .Tuple es kk tp] X.env = (false, eval a X.env) :: starEach [.Tuple es kk tp] X.env := by rfl) (hpl : (backTo pos (starEach [.Tuple es kk tp] X.env)).any (·.1) = false := by rfl) (hK : X.K = K := by rfl) (hM : X.mg = mg := by rfl) :
    QE X ρ (.Call (.Name "isinstance" p) [a, .Tuple es kk tp] [] pos) (tCB (rIsXT K) (tCons ta (tCons (tTup (taCls K cs)) tNil))) (aUn (aIsX R cs) aa) := by
  subst hK; subst hM
  refine ⟨pe_callB call_isXT hg hm (by decide +kernel) (pa_cons ha.pe (pa_cons (pe_tup (pa_cls T g hcs)) pa_nil rfl) na) (by decide) (by decide) na hpl, ?_⟩
  intro B σ H G Γ M Q R k h q
  refine ha.rd B σ H G Γ M _ _ k h fun v H1 G1 Γ1 M1 r k1 e1 rr h1 => ?_
  show taCls X.K cs σ H1 _
  refine taCls_run cs ⟨by rw [List.length_map]; exact hl, fun tp htp => ?_⟩
  obtain ⟨k2, e2⟩ := k1.new (o := .tup (cs.map (clsW X.K))) htp
  obtain ⟨t, b, ty2, _, hb, hQ⟩ := isX_ty T hA k2 (rr.es e2) h1
  exact ⟨v, tp, cs.map (clsW X.K), t, cs.map (clsVal X.K), b, rfl, upd_same, paired_cls T hA, ty2, hb, q _ _ _ Γ1 M1 (.dat (.bl _)) k2 (e1.trans e2) (by simp only [RepR, Rep]) hQ⟩
/-! ### a field of an exception -/
def tXg (K : Frag) (f : Str) (te : TE) : TE := fun σ H Q => te σ H fun x H1 => ∃ (a C dd : Addr) (ws : List (Str × V)) (v : V), x = .ref a ∧ H1 a = some (xob a C (some dd)) ∧ XcF K C ∧ findIn K (.ref C) f = some none ∧ H1 dd = some (.xd ws) ∧ ws.lookup f = some v ∧ Q v H1
theorem pe_xg {te : TE} {n : Str} (he : PE X a te) (hb : attributeBase a n X.env (eval a X.env) = eval a X.env) : PE X (.Attribute a n pos) (tXg X.K n te) := by
  refine ⟨fun pins s σ H Q I h => ?_⟩
  refine attr_of hb (thn (he.run pins s σ H _ I h) fun u s1 hh => ?_)
  obtain ⟨x, H1, I1, rx, p, C, dd, ws, v, ex, ea, fc, hno, ed, l, q⟩ := hh
  subst ex
  obtain rfl : u = Value.ref p := rx
  obtain ⟨⟨oe, vs, h1, ⟨h2, h3⟩, h4⟩, _⟩ := I1.hok p _ ea
  obtain ⟨mA, hns, hr⟩ := (show ObjOk X.prog X.w H1 s1.heap dd (.xd ws) from I1.hok dd _ ed)
  obtain ⟨od, ho, hl⟩ := lookIn_ns hns
  obtain ⟨u, hu, ru⟩ := RelO.some_of (v := v) (o := mA n) (by rw [← l]; exact hr n)
  have J : InstAt s1.heap p oe C (some od) := ⟨h1, h2, by unfold notCls; rw [h4] <;> rfl, by rw [h3]; exact ho⟩
  exact HandSPX.exc_get I1.kIn J fc.ga fc.gg fc.exC (findObj_own fc.hdC hno rfl (by rw [hl, hu])) (handed_of ru) ⟨v, H1, I1.tok _, ru, q⟩
def aXf (R : List Str) (f : Str) (r : Ret) (Γ : Sl) (M : Mem) (Q : Ret → Sl → Mem → Prop) : Prop := match r with
  | .dat (.exc cn ns ds) => R.contains cn = true ∧ match (ns.zip ds).lookup f with
    | some d => Q (.dat d) Γ M
    | none => False
  | _ => False
theorem lookup_rep {ns : List Str} {ds : List D} {ws : List (Str × V)} {f : Str} {d : D} (hn : ws.map (·.1) = ns) (h : RepL K G ds (ws.map (·.2))) (e : (ns.zip ds).lookup f = some d) : ∃ v, ws.lookup f = some v ∧ Rep K G d v := by
  subst hn
  induction ws generalizing ds with
  | nil => simp at e
  | cons w ws ih =>
    obtain ⟨n, v⟩ := w
    cases ds with
    | nil => simp at e
    | cons d0 ds =>
      obtain ⟨x, r, ex, h1, h2⟩ := repL_cons.mp h
      simp only [List.map_cons, List.cons.injEq] at ex
      obtain ⟨rfl, rfl⟩ := ex
      rw [List.map_cons, List.zip_cons_cons, List.lookup_cons] at e
      rw [List.lookup_cons]
      dsimp only at e ⊢
      split at e
      · rename_i hq
        cases e
        exact ⟨_, rfl, h1⟩
      · exact ih h2 e
theorem q_xf {f : Str} (T : XTab K R A F) (ha : QE X ρ a ta aa) (hf : f ∈ F := by decide) (hb : attributeBase a f X.env (eval a X.env) = eval a X.env := by rfl) (hK : X.K = K := by rfl) : QE X ρ (.Attribute a f pos) (tXg K f ta) (aUn (aXf R f) aa) := by
  subst hK
  refine ⟨pe_xg ha.pe hb, fun B σ H G Γ M Q R' k h q => ha.rd B σ H G Γ M _ _ k h fun v H1 G1 Γ1 M1 r k1 e1 rr h1 => ?_⟩
  unfold aXf at h1
  split at h1
  · rename_i cn ns ds
    obtain ⟨hR, h1⟩ := h1
    have hR' : cn ∈ R := List.elem_iff.mp hR
    split at h1
    · rename_i d hd
      obtain ⟨p, C, od, ws, rfl, hn, hp, hx, hns, hr⟩ := rep_exc.mp (show Rep X.K G1 (.exc cn ns ds) v from rr)
      obtain ⟨t1, t2⟩ := T.ok cn hR'
      have eC : C = clsAd X.K cn := by rw [hn] at t1; cases t1; rfl
      subst eC
      obtain ⟨v, hv, rv⟩ := lookup_rep hns hr hd
      rcases hx with ⟨_, rfl⟩ | ⟨dd, rfl, hx⟩
      · cases hv
      · exact ⟨p, _, dd, ws, v, rfl, k1.ex _ _ hp, t2, T.fd cn hR' f hf, k1.ex _ _ hx, hv, q _ H1 G1 Γ1 M1 (.dat d) k1 e1 rv h1⟩
    · exact h1.elim
  · exact h1.elim
/-! ### the clauses, the try -/
structure AH where
  cns : List Str
  i : Option Nat
  as : AS
def onAsA (i : Option Nat) (A : AEnds) : AEnds := match i with
  | none => A
  | some i => { nx := fun Γ M => A.nx (Γ.set i .non) M, rt := fun r Γ M => A.rt r Γ M, bk := fun Γ M => A.bk (Γ.set i .non) M, ct := fun Γ M => A.ct (Γ.set i .non) M }
def toAsA (i : Option Nat) (x : Xc) (Γ : Sl) : Sl := match i with
  | none => Γ
  | some i => Γ.set i (.dat x.d)
def wAH (R : List Str) (xw : XW) (A : AEnds) : List AH → XW
  | [] => xw
  | h :: r => fun x Γ M => R.contains x.cn = true ∧ if isX h.cns x.cn = true then h.as (onAsA h.i A) (toAsA h.i x Γ) M else wAH R xw A r x Γ M
def aTry (R : List Str) (xw : XW) (body : XW → AS) (hs : List AH) : AS := fun A Γ M => body (wAH R xw A hs) A Γ M
theorem Ok.setN {i : Nat} (k : Ok K ρ B σ H G Γ M) : Ok K ρ B (σ.set i none) H G (Γ.set i .non) M := by
  refine ⟨k.st, k.ex, k.nd, k.ms, fun j e h => ?_, fun j c h => ?_, fun j l c c' q h h' a b => ?_, by rw [List.length_set, List.length_set]; exact k.len, k.pb⟩
  · rcases set_get h with ⟨_, e2⟩ | ⟨ne, e1⟩
    · cases e2
    · rw [List.getElem?_set_ne (fun q => ne q.symm)]; exact k.dat j e e1
  · rcases set_get h with ⟨_, e2⟩ | ⟨ne, e1⟩
    · cases e2
    · rw [List.getElem?_set_ne (fun q => ne q.symm)]; exact k.own j c e1
  · rcases set_get h with ⟨_, e2⟩ | ⟨ne, e1⟩
    · cases e2
    rcases set_get h' with ⟨_, e2⟩ | ⟨ne', e1'⟩
    · cases e2
    rw [List.getElem?_set_ne (fun q => ne q.symm)] at a
    rw [List.getElem?_set_ne (fun q => ne' q.symm)] at b
    exact k.dis j l c c' q e1 e1' a b
inductive HdQ (X : Cx) (ρ : Ent) (A : List Str) : List ExceptHandler → List Hd → List AH → Prop
  | nil : HdQ X ρ A [] [] []
  | plain {t : Expr} {cns : List Str} {ts : TS} {as : AS} {b₀ : Stmt} {suite : List Stmt} {pos' : Pos} {hds : List ExceptHandler} {l : List Hd} {la : List AH} (hc : Tst X t (cns.map (clsVal X.K))) (hA : ∀ c ∈ cns, c ∈ A)
      (hsu : ∀ a, QSs (hnd X a) ρ (b₀ :: suite) ts as) (r : HdQ X ρ A hds l la) : HdQ X ρ A (.ExceptHandler (some t) none (b₀ :: suite) pos' :: hds) (⟨cns.map (clsVal X.K), none, ts⟩ :: l) (⟨cns, none, as⟩ :: la)
  | as {t : Expr} {n : Str} {i : Nat} {cns : List Str} {ts : TS} {as : AS} {b₀ : Stmt} {suite : List Stmt} {pos' : Pos} {hds : List ExceptHandler} {l : List Hd} {la : List AH} (hc : Tst X t (cns.map (clsVal X.K))) (hA : ∀ c ∈ cns, c ∈ A) (hN : X.N.Nodup) (hi : X.N[i]? = some n) (hln : X.env.kindOf n = some .local)
      (hsu : ∀ a, QSs (hnd X a) ρ (b₀ :: suite) ts as) (r : HdQ X ρ A hds l la) : HdQ X ρ A (.ExceptHandler (some t) (some n) (b₀ :: suite) pos' :: hds) (⟨cns.map (clsVal X.K), some i, ts⟩ :: l) (⟨cns, some i, as⟩ :: la)
theorem HdQ.ok {hds : List ExceptHandler} {l : List Hd} {la : List AH} (h : HdQ X ρ A hds l la) : HdOk X hds l := by
  induction h with
  | nil => exact .nil
  | plain hc hA hsu r ih => exact .plain hc (fun a => (hsu a).pe) ih
  | as hc hA hN hi hln hsu r ih => exact .as hc hN hi hln (fun a => (hsu a).pe) ih
theorem exm_cns (T : XTab K R A F) {cn : Str} (hR : cn ∈ R) : ∀ {cns : List Str}, (∀ c ∈ cns, c ∈ A) → exmAny K (.ref (clsAd K cn)) (cns.map (clsVal K)) = some (isX cns cn)
  | [], _ => rfl
  | c :: cs, h => by
    have e1 := (T.is cn hR c (h c List.mem_cons_self)).2
    have e2 := exm_cns T hR (cns := cs) (fun c hc => h c (List.mem_cons_of_mem _ hc))
    rw [List.map_cons, exmAny, e1, e2]
    rfl
/-- the present entry is an entry that the present one refines -/
theorem Ok.self (k : Ok K ρ B σ H G Γ M) : Ok K B B σ H G Γ M := ⟨k.st, k.ex, k.nd, k.ms, k.dat, k.own, k.dis, k.len, Refi.refl B⟩
theorem Ok.from (k : Ok K B B σ H G Γ M) (p : Refi ρ B) : Ok K ρ B σ H G Γ M := ⟨k.st, k.ex, k.nd, k.ms, k.dat, k.own, k.dis, k.len, p⟩
theorem Sim.as {A : AEnds} {E : Ends} (i : Option Nat) (s : Sim K ρ B A E) : Sim K ρ B (onAsA i A) (onAs i E) := by
  cases i with
  | none => exact s
  | some i => exact ⟨fun σ H G Γ M k q => s.nx _ H G _ M k.setN q, s.rt, fun σ H G Γ M k q => s.bk _ H G _ M k.setN q, fun σ H G Γ M k q => s.ct _ H G _ M k.setN q⟩
theorem conn_hs {hds : List ExceptHandler} {l : List Hd} {la : List AH} {W : WX} {xw : XW} {A' : AEnds} {D : Ends} (T : XTab X.K R A F) (h : HdQ X ρ A hds l la) (pb : Refi ρ B) (s : Sim X.K ρ B A' D) (cn : Conn X.K ρ W xw) : Conn X.K B (wHs X.K W D l) (wAH R xw A' la) := by
  have step : ∀ {B' : Ent} {σ : L2.St} {H G : Hp} {Γ : Sl} {M : Mem} {x : Xc} {cls : Value} {d : Option Addr} {i : Option Nat} {cns : List Str} {ts : TS} {as : AS} {r : List Hd} {ra : List AH}, Ok X.K B B' σ H G Γ M → RepX X.K G x cls d → (∀ c ∈ cns, c ∈ A) → RdS X.K ρ ts as → wAH R xw A' (⟨cns, i, as⟩ :: ra) x Γ M →
      (wAH R xw A' ra x Γ M → wHs X.K W D r cls d σ H) → wHs X.K W D (⟨cns.map (clsVal X.K), i, ts⟩ :: r) cls d σ H := by
    intro B' σ H G Γ M x cls d i cns ts as r ra k rx hA hsu hw hr
    obtain ⟨hR, hw⟩ := hw
    have hR' : x.cn ∈ R := List.elem_iff.mp hR
    obtain ⟨C, ws, rfl, hn, hx, hns, hl⟩ := rx
    obtain ⟨t1, t2⟩ := T.ok x.cn hR'
    have eC : C = clsAd X.K x.cn := by rw [hn] at t1; cases t1; rfl
    subst eC
    refine ⟨isX cns x.cn, _, rfl, exm_cns T hR' hA, fun hb a ha => ?_, fun hb => ?_⟩
    · rw [if_pos hb] at hw
      have k2 := k.base.from pb
      obtain ⟨k3, e3⟩ := k2.new (o := xob a (clsAd X.K x.cn) d) ha
      have rp : Rep X.K (upd G a (xob a (clsAd X.K x.cn) d)) x.d (.ref a) := rep_exc.mpr ⟨a, _, d, ws, rfl, hn, upd_same, hx.mono e3.g, hns, hl.mono e3.g⟩
      cases i with
      | none => exact hsu B _ _ _ _ _ _ _ k3 hw s
      | some i => exact hsu B _ _ _ _ _ _ _ (k3.setD rp) hw (s.as (some i))
    · rw [if_neg (by rw [hb]; exact Bool.false_ne_true)] at hw
      exact hr hw
  induction h with
  | nil => exact fun B' σ H G Γ M x cls d k rx hw => cn B σ H G Γ M x cls d (k.base.from pb) rx hw
  | plain hc hA hsu r ih => exact fun B' σ H G Γ M x cls d k rx hw => step k rx hA (hsu 0).rd hw (fun z => ih B' σ H G Γ M x cls d k rx z)
  | as hc hA hN hi hln hsu r ih => exact fun B' σ H G Γ M x cls d k rx hw => step k rx hA (hsu 0).rd hw (fun z => ih B' σ H G Γ M x cls d k rx z)
theorem qs_try {hds : List ExceptHandler} {h₀ : ExceptHandler} {l : List Hd} {la : List AH} {W : WX} {xw : XW} {body : List Stmt} {tb : WX → TS} {ab : XW → AS} (T : XTab K R A F) (tk : Takes X W) (cn : Conn K ρ W xw)
    (hb : ∀ (ρ' : Ent) (W' : WX) (xw' : XW) (pn : List (Addr × Obj)) (xe : Value → Shared → Prop), Takes (X.tr pn xe) W' → PassesOwn (model X.prog X.w) X.A X.env xe → Conn K ρ' W' xw' → QSs (X.tr pn xe) ρ' body (tb W') (ab xw'))
    (hh : HdQ X ρ A (h₀ :: hds) l la) (hs : X.stack = X.env :: X.outer := by rfl) (hf : X.env.frame = some X.env.locals := by rfl) (hex : X.ex = [] := by rfl) (hK : X.K = K := by rfl) :
    QS X ρ (.Try body (h₀ :: hds) [] [] pos) (fun D σ H => tb (wHs K W D l) D σ H) (aTry R xw ab la) := by
  subst hK
  -- the wishes of the body are met by entries that refine the present one
  have pe : ∀ (W' : WX) (pn : List (Addr × Obj)) (xe : Value → Shared → Prop), Takes (X.tr pn xe) W' → PassesOwn (model X.prog X.w) X.A X.env xe → PSs (X.tr pn xe) body (tb W') := fun W' pn xe t p =>
    (hb ρ W' (fun _ _ _ => False) pn xe t p (fun _ _ _ _ _ _ _ _ _ _ _ z => z.elim)).pe
  refine ⟨ps_tryH hs hf hex tk pe hh.ok, fun B σ H G Γ M A' E k h s => ?_⟩
  have cn' := conn_hs T hh k.pb s cn
  have s' : Sim X.K B B A' E := ⟨fun σ H G Γ M k' q => s.nx σ H G Γ M (k'.from k.pb) q, fun σ H0 H G Γ M r v k' rr q => s.rt σ H0 H G Γ M r v (k'.from k.pb) rr q, fun σ H G Γ M k' q => s.bk σ H G Γ M (k'.from k.pb) q, fun σ H G Γ M k' q => s.ct σ H G Γ M (k'.from k.pb) q⟩
  -- the reading does not hang on the body's context
  refine (hb B (wHs X.K W E l) (wAH R xw A' la) X.pn (fun e s₁ => wpAny (model X.prog X.w) X.A (noteFrame e X.env) (fun _ s₂ => wpAny (model X.prog X.w) X.A (setFlight e none) (fun _ _ => True) (fun _ _ => True) s₂) (fun _ _ => True) s₁) (fun u s' xx => ?_) PassesOwn.looking cn').rd B σ H G Γ M A' E k.self h s'
  obtain ⟨a, B, sI, pins', σ', H', cls, d, rfl, J', nb, up, sky, na, os, ag, w⟩ := xx
  have sky' : Sky B (X.env :: X.outer) a (Zc cls d) X.env.locals s'.heap := by rw [← hs]; exact sky
  exact Sky.land Zc.steady (by rw [← hs]; exact J'.ok.frames) hf sky' fun _ _ _ => trivial
end
end Gw

/-! own classes of exceptions that store what they are made with: made as values -/
namespace Gw
open PySem PySem.W L2 PyProof.Rows
variable {ρ : Ent}
/-- what the text says of such a class -/
structure OxG (K : Frag) (C : Addr) : Prop where
  ex : ∃ (B newId initId : String) (bmB : List Value), ExcBaseFacts B newId initId bmB ∧ StoreFacts B bmB "object.__setattr__" "object" ∧ excInitIn K C bmB newId = true ∧ excOver K C bmB = true
  hd : hasDictIn K C = true
  sa : findIn K (.ref C) "__setattr__" = some (some (.builtin "object.__setattr__"))
  exC : subIn K (.ref C) (.type "BaseException") = some true
  tyC : typeIn K (.ref C) = some (.type "type")
  kC : keepIn K (.ref C) = true
theorem noSize (h : Heap) : h.get? h.objs.size = none :=
  match q : h.get? h.objs.size with
  | none => rfl
  | some _ => absurd (Heap.lt_size q) (Nat.lt_irrefl _)
section
variable {X : Cx} {pins : List (Addr × Obj)} {σ : L2.St} {H H' : Hp} {s : Shared} {h' : Heap}
/-- the things in T are tracked anew; each of them was tracked by a thing of its own kind, or wasn't there -/
theorem Inv.re {t' : Nat} (T : Addr → Prop) (I : L2.Inv X pins σ H s) (c0 : ∀ b, ¬ T b → H' b = H b ∧ ∀ o, s.heap.get? b = some o → h'.get? b = some o) (c1 : ∀ b, T b → (∃ φ, H b = some (.ext φ)) ∨ (H b = none ∧ s.heap.get? b = none))
    (c2 : ∀ b, T b → ∃ o, H' b = some o ∧ ObjOk X.prog X.w H' h' b o ∧ ∃ u, h'.get? b = some u) : L2.Inv X pins σ H' { s with heap := h', toks := t' } := by
  have cls : ∀ b, T b ∨ ¬ T b := fun b => Classical.em _
  have bare : ∀ b u, H b = some u → (∀ φ, u ≠ .ext φ) → ¬ T b := fun b u e n1 z => by
    rcases c1 b z with ⟨φ, q⟩ | ⟨q, _⟩ <;> rw [e] at q <;> cases q
    exact n1 _ rfl
  have none' : ∀ b o, s.heap.get? b = some o → H b = none → ¬ T b := fun b o e n z => by
    rcases c1 b z with ⟨_, q⟩ | ⟨_, q⟩
    · rw [n] at q; cases q
    · rw [e] at q; cases q
  have same : ∀ b u, H b = some u → (∀ φ, u ≠ .ext φ) → H' b = some u := fun b u e n1 => by rw [(c0 b (bare b u e n1)).1]; exact e
  refine Inv.un I ⟨fun b o e n _ _ => (c0 b (none' b o e n)).2 o e, fun b o e n _ _ => ⟨o.slots, (c0 b (none' b o e n)).2 o e⟩, fun b o e n _ => by rw [(c0 b (none' b o e n)).1]; exact n, fun b o e _ => ?_, fun b xs e => same b _ e nofun, fun b o u e => same b _ e nofun, fun b ps e => ⟨#[], ?_⟩⟩ fun b o e => ?_
  · rcases cls b with z | z
    · obtain ⟨_, _, _, q⟩ := c2 b z; exact q
    · exact ⟨o, (c0 b z).2 o e⟩
  · rw [same b _ e nofun]; simp
  · rcases cls b with z | z
    · obtain ⟨u, e1, e2, _⟩ := c2 b z
      cases e1.symm.trans e; exact e2
    · rw [(c0 b z).1] at e
      refine (I.hok b o e).stay (fun c u hc q => (c0 c ?_).2 u q) (fun c hc => same c _ hc nofun) (fun c xs hc => same c _ hc nofun)
      rcases hc with rfl | hc
      · exact z
      · exact bare c _ hc nofun
/-- object.__setattr__ on such an exception: its dict is made with the first store -/
theorem sto_exc {A : Around} {a C : Addr} {d : Option Addr} {f : Str} {tk : Tok} {u : Value} {R : Result → Shared → Prop} {sl : Array (Option Value)} {vs : Array Value} {m0 : Str → Option Value} {nl : List Str} (T : OxG X.K C) (hK : X.K.In s.heap) (ha : s.heap.get? a = some ⟨.ref C, d, .fields vs, sl⟩) (hno : findIn X.K (.ref C) f = some none)
    (hd : (d = none ∧ m0 = fun _ => none) ∨ ∃ dx, d = some dx ∧ dx ≠ a ∧ s.heap.Ns1 dx m0) (hw : Within m0 nl) (hz : nl.length ≤ 1000)
    (q : ∀ (dx : Addr) (g : Heap) (t : Nat), (d = none → s.heap.get? dx = none ∧ s.heap.objs.size ≤ dx) → (∀ z, d = some z → dx = z) → dx ≠ a → g.get? a = some ⟨.ref C, some dx, .fields vs, sl⟩ → g.Ns1 dx (fun y => if y = f then some u else m0 y) → (∀ b o, b ≠ a → b ≠ dx → s.heap.get? b = some o → g.get? b = some o) → R (.ok (.ret .none)) { s with heap := g, toks := t }) :
    codeAny (model X.prog X.w) A (.call (.builtin "object.__setattr__") ⟨[.ref a, .str f tk, u], []⟩) R s := by
  obtain ⟨B, n, i, bm, FB, SF, _, ho⟩ := T.ex
  obtain ⟨cd, hcd, hh⟩ := any_some T.hd
  have hcls : Looks (model X.prog X.w) s.heap (classData C) cd := looks_clsIn hK hcd
  obtain ⟨hp, g0, d0, t0, os0⟩ := s
  have tk' : takerIn X.K C f = some none := by unfold takerIn; rw [hno]; rfl
  obtain ⟨c1, c2, c3, c4, c5, hasD, c6, c7, c8, c9, c10⟩ := cd
  have e1 : hasD = true := hh
  subst e1
  rcases hd with ⟨rfl, rfl⟩ | ⟨dx, rfl, ne, hns⟩
  · have lt := Heap.lt_size ha
    have ax : a ≠ hp.objs.size := Nat.ne_of_lt lt
    refine osa_openX (od := none) (r := none) SF hK ⟨ha, rfl, rfl, trivial⟩ ho tk' fun b => ?_
    unfold Builtin.ObjectAttr.storeInOwnDict Builtin.ObjectAttr.ownDictForStores
    dsimp only
    repeat (first | with_reducible refine wpAny_loadPart_at ha ?_ | with_reducible refine hcls.at ?_ | with_reducible refine HandSPX.store_in_new ?_ (fun g t h1 h2 => ?_) | wp_step)
    · refine ⟨{ cls := .type "dict", data := .dict #[] }, #[], 0, ?_, rfl, fun _ z => absurd z (by simp), fun _ => rfl⟩
      rw [Heap.get?_update_ne _ _ _ _ (fun z => ax z.symm)]
      exact Heap.get?_push_at rfl rfl
    · have old : ∀ b o, hp.get? b = some o → b ≠ a → g.get? b = some o := fun b o e nb => by
        rw [h2.2 b (Nat.ne_of_lt (Heap.lt_size e)), Heap.get?_update_ne _ _ _ _ nb]
        exact Heap.get?_push_of_some _ e
      refine q hp.objs.size g t (fun _ => ⟨noSize hp, Nat.le_refl _⟩) nofun (fun z => ax z.symm) ?_ h1 fun b o n1 n2 e => old b o e n1
      rw [h2.2 a ax]
      exact Heap.get?_update_self _ (Heap.get?_push_of_some _ ha) rfl
  · obtain ⟨oD, esD, epD, hoD, hdD, _⟩ := hns.count hw
    refine osa_openX (od := some oD) (r := none) SF hK ⟨ha, rfl, rfl, hoD⟩ ho tk' fun b => ?_
    unfold Builtin.ObjectAttr.storeInOwnDict Builtin.ObjectAttr.ownDictForStores
    dsimp only
    repeat (first | with_reducible refine wpAny_loadPart_at ha ?_ | with_reducible refine hcls.at ?_ | with_reducible refine OEX.store_in_old hns hw hz (fun g t h1 h2 => ?_) | wp_step)
    exact q dx g t nofun (fun z e => Option.some.inj e) ne ((h2.2 a (fun z => ne z.symm)).trans ha) h1 fun b o _ n2 e => (h2.2 b n2).trans e
end
/-! ### self.f = e in an __init__ -/
def tSt (K : Frag) (f : Str) (to te : TE) : TS := fun D σ H => te σ H fun y H1 => to σ H1 fun x H2 => ∃ (a C : Addr) (d : Option Addr) (fs : List (Str × V)), x = .ref a ∧ OxG K C ∧ findIn K (.ref C) f = some none ∧ H2 a = some (exo a C d) ∧ fs.length ≤ 900 ∧
  ((d = none ∧ fs = []) ∨ ∃ dx, d = some dx ∧ dx ≠ a ∧ H2 dx = some (exd dx fs)) ∧ ∀ dx, (d = none → H2 dx = none) → (∀ z, d = some z → dx = z) → dx ≠ a → D.nx σ (upd (upd H2 dx (exd dx ((f, y) :: fs))) a (exo a C (some dx)))
section
variable {X : Cx} {o e : Expr} {es : List Expr} {to te : TE} {ta : TA} {f : Str} {p p' pos : Pos}
theorem ps_st (ho : PE X o to) (he : PE X e te) (hs : swapsWith e (some (.Attribute o f p')) pos.line X.env = pure false := by rfl) : PS X (.Assign [.Attribute o f p'] e pos) (tSt X.K f to te) := ⟨fun pins s σ H D I w => by
  refine plainObj_wpAny_Assign_Attribute (thn (he.run pins s σ H _ I w) ?_) hs
  rintro v s1 ⟨y, H1, I1, ry, w1⟩
  refine thn (ho.run pins s1 σ H1 _ I1 w1) ?_
  rintro v' s2 ⟨x, H2, I2, rx, a, C, d, fs, rfl, T, hno, ea, len, hd, nx⟩
  cases (show v' = Value.ref a from rx)
  obtain ⟨t1, ha⟩ := exo_at I2.hok ea
  have key : ∃ (m0 : Str → Option Value) (nl : List Str) (od : Option Obj), InstAt s2.heap a ⟨.ref C, d, .fields #[.ref t1, .none, .none, .none, .bool false, .none], #[]⟩ C od ∧ ((d = none ∧ m0 = fun _ => none) ∨ ∃ dx, d = some dx ∧ dx ≠ a ∧ s2.heap.Ns1 dx m0) ∧ Within m0 nl ∧ nl.length ≤ 1000 ∧ (∀ g, RelO (fs.lookup g) (m0 g)) ∧
      ∀ dx, d = some dx → (∃ φ, H2 dx = some (.ext φ)) := by
    rcases hd with ⟨rfl, rfl⟩ | ⟨dx, rfl, ne, ed⟩
    · exact ⟨_, [], none, ⟨ha, rfl, rfl, trivial⟩, .inl ⟨rfl, rfl⟩, Within.nil, by decide, fun _ => True.intro, nofun⟩
    · obtain ⟨m0, hns, rel⟩ := exd_at I2.hok ed
      obtain ⟨oD, _, _, hoD, _⟩ := hns.count (within_of rel)
      exact ⟨m0, fs.map (·.1), some oD, ⟨ha, rfl, rfl, hoD⟩, .inr ⟨dx, rfl, ne, hns⟩, within_of rel, by rw [List.length_map]; omega, rel, fun z e => by cases e; exact ⟨_, ed⟩⟩
  obtain ⟨m0, nl, od, J, hd', hw, hz, rel, old⟩ := key
  refine set_plain I2.kIn (od := od) J T.sa (sto_exc (s := { s2 with toks := s2.toks + 1 }) T I2.kIn ha hno hd' hw hz fun dx g t n0 n1 ne g1 g2 g3 => ?_)
  have fresh : d = none → H2 dx = none := fun z => I2.hok.fresh (n0 z).2
  refine ⟨σ, _, Gw.Inv.re (t' := t) (fun b => b = a ∨ b = dx) (I2.tok (s2.toks + 1)) (fun b nb => ?_) (fun b hb => ?_) (fun b hb => ?_), nx dx fresh n1 ne⟩
  · obtain ⟨na, nd⟩ := not_or.mp nb
    exact ⟨by rw [upd_ne na, upd_ne nd], fun u q => g3 b u na nd q⟩
  · rcases hb with z | rfl
    · exact .inl ⟨_, (congrArg H2 z).trans ea⟩
    · cases d with
      | none => exact .inr ⟨fresh rfl, (n0 rfl).1⟩
      | some z => rw [n1 z rfl]; exact .inl (old z rfl)
  · by_cases z : b = a
    · rw [z]; exact ⟨_, upd_same, exo_ok g1, _, g1⟩
    · have z2 : b = dx := hb.resolve_left z
      rw [z2]
      obtain ⟨u, _, _, gu, _⟩ := id g2
      exact ⟨_, by rw [upd_ne ne]; exact upd_same, exd_ok g2 (relO_put ry rel), u, gu⟩⟩
end
/-! ### C(e, ..) -/
/-- the promise of an __init__ that stores its parameters -/
def spInit (K : Frag) (names : List Str) : Sp := fun vs H Q _ => ∃ (a C : Addr) (ws : List V), vs = .ref a :: ws ∧ ws.length = names.length ∧ OxG K C ∧ (∀ f ∈ names, findIn K (.ref C) f = some none) ∧ H a = some (exo a C none) ∧
  ∀ dx, H dx = none → dx ≠ a → Q .non (upd (upd H dx (exd dx (names.zip ws).reverse)) a (exo a C (some dx)))
/-- what a class must have that is made with its fields given -/
structure Xcl (P : Program) (w : World) (K : Frag) (mg : Str → Option Value) (base : Heap) (cn : Str) (names : List Str) (k : Nat) : Prop where
  ns : nsIn K mainGlobals cn = some (some (.ref (clsAd K cn)))
  ox : OxG K (clsAd K cn)
  no : ∀ f ∈ names, findIn K (.ref (clsAd K cn)) f = some none
  ex : ∃ (fI : Addr) (fd : FuncData) (ps : List Str), findIn K (.ref (clsAd K cn)) "__init__" = some (some (.ref fI)) ∧ typeIn K (.ref fI) = some (.type "function") ∧ FnOk P w K mg base CX0 k fI fd ps (spInit K names) ∧ Binds K fd ps []
  ln : names.length ≤ 1000
section
variable {X : Cx} {e : Expr} {es : List Expr} {ta : TA} {names : List Str} {cn : Str} {k : Nat} {p pos : Pos} {pins : List (Addr × Obj)} {σ : L2.St} {H1 : Hp} {vs : List V} {us : List Value}
/-- the class is called; what the tracked heap is behind it -/
theorem mk_run {hp : Heap} {g1 : Array GenState} {d1 : Drawn} {t1 : Nat} {o1 : OsState} {P : Value → Shared → Prop} {E : Value → Shared → Prop} (c : Xcl X.prog X.w X.K X.mg X.base cn names k) (hr : Room (k + 1) X.A) (I1 : L2.Inv X pins σ H1 ⟨hp, g1, d1, t1, o1⟩) (rv : Vals vs us) (len : vs.length = names.length)
    (post : ∀ (a dx : Addr) (H2 : Hp) (hp2 h2 : Heap) (g2 : Array GenState) (d2 : Drawn) (t2 : Nat), H2 = upd (upd H1 dx (exd dx (names.zip vs).reverse)) a (exo a (clsAd X.K cn) (some dx)) → H1 a = none → H1 dx = none → dx ≠ a → hp.objs.size ≤ a → (∀ b o, hp.get? b = some o → hp2.get? b = some o) →
      L2.Inv X pins σ (upd H1 a (exo a (clsAd X.K cn) none)) ⟨hp2, g1, d1, t1, o1⟩ → Un (frs X.stack) [] (upd H1 a (exo a (clsAd X.K cn) none)) H2 hp2 h2 → HOk X.prog X.w H2 h2 → AllBare g2 → P (.ref a) ⟨h2, g2, d2, t2, o1⟩) :
    wpAny (model X.prog X.w) X.A (call (.ref (clsAd X.K cn)) us) P E ⟨hp, g1, d1, t1, o1⟩ := by
  obtain ⟨B, newId, initId, bmB, FB, SF, hin, _⟩ := c.ox.ex
  obtain ⟨fI, fd, ps, hfi, hty, F, hb⟩ := c.ex
  obtain ⟨_, _, _, _, _, _, _, _, _, _, _, _, _, _, _, _, hC, hT⟩ := excInit_of I1.kIn hin
  have up : ∀ b o, hp.get? b = some o → ((hp.push (kdv_tup us)).push (HandSPX.excO (clsAd X.K cn) hp.objs.size)).get? b = some o := fun b o q => Heap.get?_push_of_some _ (Heap.get?_push_of_some _ q)
  have fresh : H1 (hp.objs.size + 1) = none := I1.hok.fresh (Nat.le_succ _)
  have there : ((hp.push (kdv_tup us)).push (HandSPX.excO (clsAd X.K cn) hp.objs.size)).get? (hp.objs.size + 1) = some (HandSPX.excO (clsAd X.K cn) hp.objs.size) := by heap_get
  have I2 := I1.laid (t' := t1) up (Nat.le_succ _) (exo_ok (P := X.prog) (w := X.w) (H := upd H1 (hp.objs.size + 1) (exo (hp.objs.size + 1) (clsAd X.K cn) none)) there)
  have rv2 : Vals (V.ref (hp.objs.size + 1) :: vs) (Value.ref (hp.objs.size + 1) :: us) := .cons rfl rv
  have wi : spInit X.K names (V.ref (hp.objs.size + 1) :: vs) (upd H1 (hp.objs.size + 1) (exo (hp.objs.size + 1) (clsAd X.K cn) none)) (fun v H2 => v = .non ∧ ∃ dx, H2 = upd (upd H1 dx (exd dx (names.zip vs).reverse)) (hp.objs.size + 1) (exo (hp.objs.size + 1) (clsAd X.K cn) (some dx)) ∧ H1 dx = none ∧ dx ≠ hp.objs.size + 1) (fun _ _ _ => False) := by
    refine ⟨_, _, vs, rfl, len, c.ox, c.no, upd_same, fun dx n1 n2 => ⟨rfl, dx, ?_, by rw [upd_ne n2] at n1; exact n1, n2⟩⟩
    funext b
    unfold upd
    split <;> rfl
  have lp := F.len _ _ _ _ wi
  have bt := hb ⟨(hp.push (kdv_tup us)).push (HandSPX.excO (clsAd X.K cn) hp.objs.size), g1, d1, t1, o1⟩ (Value.ref (hp.objs.size + 1) :: us) I2.kIn (by rw [List.append_nil, ← rv2.length]; exact lp)
  rw [List.append_nil] at bt
  have few : us.length ≤ sizeLine := by rw [← rv.length, len, sizeLine_eq]; have := c.ln; omega
  refine wpAny_call (HandSPX.call_own FB hT hC (looks_findIn I1.kIn hfi) (fun self => bind_fn I1.kIn self hty) few (codeAny_mono (F.run _ X.stack _ _ ⟨_ :: us, []⟩ _ _ _ _ (hr.make _ us []) (I2.env0.make _ us []) bt rv2 wi) fun r s' z => ?_))
  match r, s', z with
  | .error _, _, z => exact z.elim
  | .ok .next, _, z => exact z.elim
  | .ok .brk, _, z => exact z.elim
  | .ok .cont, _, z => exact z.elim
  | .ok (.ret u), ⟨h2, g2, d2, t2, o2⟩, ⟨v, H2, os2, ag2, un2, ok2, ru, ev, dx, eH, n1, n2⟩ =>
    subst ev
    cases (show o2 = o1 from os2)
    exact ⟨ru, post _ dx H2 _ h2 g2 d2 t2 eH fresh n1 n2 (Nat.le_succ _) up I2 un2 ok2 ag2⟩
/-- .. as a value -/
def tMk (C : Addr) (names : List Str) (ta : TA) : TE := fun σ H Q => ta σ H fun vs H1 => vs.length = names.length ∧ ∀ a dx, H1 a = none → H1 dx = none → dx ≠ a → Q (.ref a) (upd (upd H1 dx (.xd (names.zip vs).reverse)) a (xob a C (some dx)))
theorem pe_mk (c : Xcl X.prog X.w X.K X.mg X.base cn names k) (g : Agr X.K X.mg) (hr : Room (k + 1) X.A) (ha : PA X (e :: es) ta) (hg : Gl X cn) (hdb : (cn == ("__debug__" : Str)) = false) (he : starEach (e :: es) X.env = (false, eval e X.env) :: starEach es X.env) (hpl : (backTo pos (starEach es X.env)).any (·.1) = false) :
    PE X (.Call (.Name cn p) (e :: es) [] pos) (tMk (clsAd X.K cn) names ta) := ⟨fun pins s σ H Q I w => by
  refine wpAny_Call_Name_kw (ld_glob I hg (g _ _ c.ns) (callWith_K (h₀ := X.base) I.ok.mod.kin c.ox.kC (thn (ha.run pos pins s σ H _ I w) ?_) he hpl) hdb)
  rintro us ⟨hp, g1, d1, t1, o1⟩ ⟨vs, H1, I1, rv, len, w1⟩
  refine ⟨I1.kIn, mk_run c hr I1 rv len fun a dx H2 hp2 h2 g2 d2 t2 eH n1 n2 n3 _ _ I2 un ok ag => ?_⟩
  have I3 : L2.Inv X _ σ H2 ⟨h2, g2, d2, t2, o1⟩ := I2.call' (ch := []) rfl un ok ag nofun
  have ea : H2 a = some (exo a (clsAd X.K cn) (some dx)) := by rw [eH]; exact upd_same
  have ed : H2 dx = some (exd dx (names.zip vs).reverse) := by rw [eH, upd_ne n3]; exact upd_same
  obtain ⟨t, ha⟩ := exo_at ok ea
  obtain ⟨m, hd, rel⟩ := exd_at ok ed
  obtain ⟨u, _, _, hu, _⟩ := id hd
  refine ⟨.ref a, _, Gw.Inv.re (t' := t2) (fun b => b = a ∨ b = dx) I3 (fun b nb => ?_) (fun b hb => ?_) (fun b hb => ?_), rfl, w1 a dx n1 n2 n3⟩
  · obtain ⟨na, nd⟩ := not_or.mp nb
    exact ⟨by rw [eH, upd_ne na, upd_ne nd, upd_ne na, upd_ne nd], fun _ q => q⟩
  · rcases hb with z | z
    · exact .inl ⟨_, (congrArg H2 z).trans ea⟩
    · exact .inl ⟨_, (congrArg H2 z).trans ed⟩
  · by_cases z : b = a
    · rw [z]; exact ⟨_, upd_same, xob_ok ha ⟨rfl, rfl⟩ rfl, _, ha⟩
    · rw [hb.resolve_left z]
      exact ⟨.xd (names.zip vs).reverse, by rw [upd_ne n3]; exact upd_same, ⟨m, hd, rel⟩, u, hu⟩⟩
/-- .. to be raised -/
theorem pmk_mk (c : Xcl X.prog X.w X.K X.mg X.base cn names k) (g : Agr X.K X.mg) (hr : Room (k + 1) X.A) (ha : PA X (e :: es) ta) (hg : Gl X cn) (hdb : (cn == ("__debug__" : Str)) = false) (he : starEach (e :: es) X.env = (false, eval e X.env) :: starEach es X.env) (hpl : (backTo pos (starEach es X.env)).any (·.1) = false) :
    PMk X (.Call (.Name cn p) (e :: es) [] pos) (fun σ H Q => ta σ H fun vs H1 => vs.length = names.length ∧ ∀ dx, H1 dx = none → Q (.ref (clsAd X.K cn)) (some dx) (upd H1 dx (.xd (names.zip vs).reverse))) := fun pins s σ H Q I w => by
  refine wpAny_Call_Name_kw (ld_glob I hg (g _ _ c.ns) (callWith_K (h₀ := X.base) I.ok.mod.kin c.ox.kC (thn (ha.run pos pins s σ H _ I w) ?_) he hpl) hdb)
  rintro us ⟨hp, g1, d1, t1, o1⟩ ⟨vs, H1, I1, rv, len, w1⟩
  refine ⟨I1.kIn, mk_run c hr I1 rv len fun a dx H2 hp2 h2 g2 d2 t2 eH n1 n2 n3 sz up I2 un ok ag => ?_⟩
  refine mk_end (raises_own c.ox.exC c.ox.tyC) I1 sz up un ok rfl ag (by rw [eH]; exact upd_same) (by rw [eH, upd_ne n3]; exact upd_same) n2 ?_
  have e2 : upd (del H2 a) dx (.xd (names.zip vs).reverse) = upd H1 dx (.xd (names.zip vs).reverse) := by
    rw [eH]
    funext b
    by_cases z1 : b = dx
    · rw [z1, upd_same, upd_same]
    · rw [upd_ne z1, upd_ne z1]
      by_cases z2 : b = a
      · rw [z2, del_same, n1]
      · rw [del_ne z2, upd_ne z2, upd_ne z1]
  rw [e2]
  exact w1 dx n2
end
end Gw

namespace Gw
open PySem L2 PyProof.Rows
variable {ρ : Ent}
/-! ### raise C(e, ..) -/
def aRaise (w : XW) (cn : Str) (names : List Str) (aa : AA) (_ : AEnds) (Γ : Sl) (M : Mem) : Prop := aa Γ M fun ds Γ1 M1 => ds.length = names.length ∧ w ⟨cn, names.reverse, ds.reverse⟩ Γ1 M1
theorem zip_snd {α β : Type} : ∀ (xs : List α) (ys : List β), ys.length = xs.length → (xs.zip ys).map (·.2) = ys
  | [], [], _ => rfl
  | _ :: xs, y :: ys, h => by
    rw [List.zip_cons_cons, List.map_cons, zip_snd xs ys (by simpa using h)]
theorem zip_fst {α β : Type} : ∀ (xs : List α) (ys : List β), ys.length = xs.length → (xs.zip ys).map (·.1) = xs
  | [], [], _ => rfl
  | _ :: xs, y :: ys, h => by
    rw [List.zip_cons_cons, List.map_cons, zip_fst xs ys (by simpa using h)]
theorem repL_rev {K : PySem.W.Frag} {G : Hp} : ∀ {ds : List D} {vs : List V}, RepL K G ds vs → RepL K G ds.reverse vs.reverse
  | [], _, h => by rw [repL_nil.mp h]; exact repL_nil.mpr rfl
  | d :: ds, _, h => by
    obtain ⟨x, r, rfl, h1, h2⟩ := repL_cons.mp h
    rw [List.reverse_cons, List.reverse_cons]
    exact (repL_rev h2).append (RepL.one h1)
section
variable {X : Cx} {K : PySem.W.Frag} {mg : Str → Option Value}
theorem q_raise {W : WX} {w : XW} {cn : Str} {names : List Str} {k : Nat} {e : Expr} {es : List Expr} {ta : TA} {aa : AA} {p p1 pos : Pos} (c : Xcl X.prog X.w K mg X.base cn names k) (g : Agr K mg) (tk : Takes X W) (con : Conn K ρ W w) (hr : Room (k + 1) X.A) (ha : QA X ρ (e :: es) ta aa) (hc : X.calm = true := by rfl) (hg : Gl X cn := by rfl)
    (hdb : (cn == ("__debug__" : Str)) = false := by decide) (he : starEach (e :: es) X.env = (false, eval e X.env) :: starEach es X.env := by rfl) (hpl : (backTo pos (starEach es X.env)).any (·.1) = false := by rfl) (hK : X.K = K := by rfl) (hM : X.mg = mg := by rfl) :
    QS X ρ (.Raise (some (.Call (.Name cn p) (e :: es) [] pos)) none p1) (fun _ σ H => ta σ H fun vs H1 => vs.length = names.length ∧ ∀ dx, H1 dx = none → W (.ref (clsAd K cn)) (some dx) σ (upd H1 dx (.xd (names.zip vs).reverse))) (aRaise w cn names aa) := by
  subst hK; subst hM
  refine ⟨ps_raise (pos := p1) hc tk (pmk_mk c g hr ha.pe hg hdb he hpl), fun B σ H G Γ M A E k h s => ha.rd B σ H G Γ M _ _ k h fun vs H1 G1 Γ1 M1 ds k1 e1 rl hh => ?_⟩
  obtain ⟨hl, hw⟩ := hh
  have hv : vs.length = names.length := by rw [rl.length]; exact hl
  refine ⟨hv, fun dx hd => ?_⟩
  obtain ⟨k2, e2⟩ := k1.new (o := .xd (names.zip vs).reverse) hd
  refine con B σ _ _ Γ1 M1 _ _ _ k2 ⟨_, _, rfl, c.ns, .inr ⟨dx, rfl, upd_same⟩, ?_, ?_⟩ hw
  · rw [List.map_reverse, zip_fst _ _ hv]
  · rw [List.map_reverse, zip_snd _ _ hv]
    exact repL_rev (rl.mono e2.g)
/-! ### C(e, ..) as a value -/
def aMk (cn : Str) (names : List Str) (aa : AA) (Γ : Sl) (M : Mem) (Q : Ret → Sl → Mem → Prop) : Prop := aa Γ M fun ds Γ1 M1 => ds.length = names.length ∧ Q (.dat (.exc cn names.reverse ds.reverse)) Γ1 M1
theorem rd_mk {cn : Str} {names : List Str} {ta : TA} {aa : AA} (ns : PySem.W.nsIn K mainGlobals cn = some (some (.ref (clsAd K cn)))) (ha : RdA K ρ ta aa) : RdE K ρ (tMk (clsAd K cn) names ta) (aMk cn names aa) := fun B σ H G Γ M Q R k h q => ha B σ H G Γ M _ _ k h fun vs H1 G1 Γ1 M1 ds k1 e1 rl hh => by
  obtain ⟨hl, hq⟩ := hh
  have hv : vs.length = names.length := by rw [rl.length]; exact hl
  refine ⟨hv, fun a dx n1 n2 n3 => ?_⟩
  obtain ⟨k2, e2⟩ := k1.new (o := .xd (names.zip vs).reverse) n2
  obtain ⟨k3, e3⟩ := k2.new (p := a) (o := xob a (clsAd K cn) (some dx)) (by rw [upd_ne (fun z => n3 z.symm)]; exact n1)
  refine q _ _ _ Γ1 M1 (.dat (.exc cn names.reverse ds.reverse)) k3 ((e1.trans e2).trans e3) (rep_exc.mpr ⟨a, _, some dx, (names.zip vs).reverse, rfl, ns, upd_same, .inr ⟨dx, rfl, e3.g _ _ upd_same⟩, ?_, ?_⟩) hq
  · rw [List.map_reverse, zip_fst _ _ hv]
  · rw [List.map_reverse, zip_snd _ _ hv]
    exact repL_rev (rl.mono (e2.g.trans e3.g))
theorem q_mk {cn : Str} {names : List Str} {k : Nat} {e : Expr} {es : List Expr} {ta : TA} {aa : AA} {p pos : Pos} (c : Xcl X.prog X.w K mg X.base cn names k) (g : Agr K mg) (hr : Room (k + 1) X.A) (ha : QA X ρ (e :: es) ta aa) (hg : Gl X cn := by rfl)
    (hdb : (cn == ("__debug__" : Str)) = false := by decide) (he : starEach (e :: es) X.env = (false, eval e X.env) :: starEach es X.env := by rfl) (hpl : (backTo pos (starEach es X.env)).any (·.1) = false := by rfl) (hK : X.K = K := by rfl) (hM : X.mg = mg := by rfl) :
    QE X ρ (.Call (.Name cn p) (e :: es) [] pos) (tMk (clsAd K cn) names ta) (aMk cn names aa) := by
  subst hK; subst hM
  exact ⟨pe_mk c g hr ha.pe hg hdb he hpl, rd_mk c.ns ha.rd⟩
/-! ### raise C(e), C without an __init__ of its own -/
structure XclP (K : PySem.W.Frag) (cn : Str) : Prop where
  ns : PySem.W.nsIn K mainGlobals cn = some (some (.ref (clsAd K cn)))
  ex : ∃ (B newId initId : String) (bmB : List Value), ExcBaseFacts B newId initId bmB ∧ PySem.W.excIn K (clsAd K cn) bmB newId = true
  kC : PySem.W.keepIn K (.ref (clsAd K cn)) = true
  exC : PySem.W.subIn K (.ref (clsAd K cn)) (.type "BaseException") = some true
  tyC : PySem.W.typeIn K (.ref (clsAd K cn)) = some (.type "type")
theorem pmk_P {x : Str} {e : Expr} {ta : TE} {p pos : Pos} (c : XclP X.K x) (g : Agr X.K X.mg) (hg : Gl X x) (he : PE X e ta) (hs : starEach [e] X.env = (false, eval e X.env) :: starEach [] X.env) (hdb : (x == ("__debug__" : Str)) = false) :
    PMk X (.Call (.Name x p) [e] [] pos) (fun σ H Q => ta σ H fun _ H1 => Q (.ref (clsAd X.K x)) none H1) := fun pins s σ H Q I w => by
  obtain ⟨B, newId, initId, bmB, F, q⟩ := c.ex
  refine wpAny_Call_Name_kw (ld_glob I hg (g _ _ c.ns) (PySem.W.callWith_K (h₀ := X.base) I.ok.mod.kin c.kC (thn ((pa_cons he pa_nil hs).run pos pins s σ H (fun vs H1 => match vs with | [_] => Q (.ref (clsAd X.K x)) none H1 | _ => False) I w) ?_) hs rfl) hdb)
  rintro us s1 ⟨vs, H1, I1, rv, w1⟩
  have one : vs.length = 1 ∧ Q (.ref (clsAd X.K x)) none H1 := by
    split at w1
    · exact ⟨rfl, w1⟩
    · exact w1.elim
  obtain ⟨l1, w1⟩ := one
  have few : us.length ≤ sizeLine := by rw [← rv.length, l1, sizeLine_eq]; omega
  obtain ⟨_, _, _, _, _, _, _, _, _, _, _, _, _, _, _, _, _, hC, hN, hni, T⟩ := exc_obj I1.kIn q
  exact ⟨I1.kIn, wpAny_call_exc_subT F T hC hN hni (fun h' a hm => mk_of I1 hm (raises_own c.exC c.tyC) w1 (I1.hok.gone hm.new)) few⟩
def aRaiseP (w : XW) (cn : Str) (aa : AE) (_ : AEnds) (Γ : Sl) (M : Mem) : Prop := aa Γ M fun _ Γ1 M1 => w ⟨cn, [], []⟩ Γ1 M1
theorem q_raiseP {W : WX} {w : XW} {cn : Str} {e : Expr} {ta : TE} {aa : AE} {p p1 pos : Pos} (c : XclP K cn) (g : Agr K mg) (tk : Takes X W) (con : Conn K ρ W w) (ha : QE X ρ e ta aa) (hc : X.calm = true := by rfl) (hg : Gl X cn := by rfl)
    (hdb : (cn == ("__debug__" : Str)) = false := by decide) (he : starEach [e] X.env = (false, eval e X.env) :: starEach [] X.env := by rfl) (hK : X.K = K := by rfl) (hM : X.mg = mg := by rfl) :
    QS X ρ (.Raise (some (.Call (.Name cn p) [e] [] pos)) none p1) (fun _ σ H => ta σ H fun _ H1 => W (.ref (clsAd K cn)) none σ H1) (aRaiseP w cn aa) := by
  subst hK; subst hM
  refine ⟨ps_raise (pos := p1) hc tk (pmk_P (p := p) (pos := pos) c g hg ha.pe he hdb), fun B σ H G Γ M A E k h s => ha.rd B σ H G Γ M _ _ k h fun v H1 G1 Γ1 M1 r k1 e1 rr hh => ?_⟩
  exact con B σ H1 G1 Γ1 M1 _ _ _ k1 ⟨_, [], rfl, c.ns, .inl ⟨rfl, rfl⟩, rfl, repL_nil.mpr rfl⟩ hh
end
end Gw

namespace Gw
open PySem L2 PyProof.Rows
section
variable {P : Program} {w : World} {K : PySem.W.Frag} {mg : Str → Option Value} {base : Heap}
theorem init_len {names ps : List Str} (h : ps.length = names.length + 1) : ∀ vs H Q E, spInit K names vs H Q E → vs.length = ps.length := by
  rintro vs H Q E ⟨a, C, ws, rfl, hl, _⟩
  rw [List.length_cons, hl, h]
theorem init1 {f x0 x1 qual : Str} {st : Stmt} {fa : Addr} {fd : FuncData} {N : List Str} {k : Nat} (F : Fun K "__init__" qual st fa fd) (S : FnScope N [x0, x1] (defScope st)) (hN : ∀ vs : List V, vs.length = 2 → (start N vs)[0]? = (vs.map some)[0]? ∧ (start N vs)[1]? = (vs.map some)[1]?)
    (hb : ∀ (cdv : Value) (A : Around) (outer : List Env) (s : Shared) (H : Hp) (E : XK), PSs (cxOf CX0 P w K mg base N qual (defScope st) fa cdv A outer s H E).nox (defBody st) (tSt K f (tVar 0) (tVar 1))) : FnOk P w K mg base CX0 (k + 1) fa fd [x0, x1] (spInit K [f]) := by
  refine F.ok S (init_len rfl) fun cdv A outer s H vs Q E hr h => ⟨_, hb cdv A outer s H E, ?_⟩
  obtain ⟨a, C, ws, rfl, hl, T, hno, ha, q⟩ := h
  match ws, hl with
  | [y], _ =>
    obtain ⟨e0, e1⟩ := hN [.ref a, y] rfl
    exact ⟨y, e1, .ref a, e0, a, C, none, [], rfl, T, hno f List.mem_cons_self, ha, by simp, .inl ⟨rfl, rfl⟩, fun dx hd _ hne => q dx (hd rfl) hne⟩
theorem init2 {f f' x0 x1 x2 qual : Str} {st : Stmt} {fa : Addr} {fd : FuncData} {N : List Str} {k : Nat} (F : Fun K "__init__" qual st fa fd) (S : FnScope N [x0, x1, x2] (defScope st)) (hN : ∀ vs : List V, vs.length = 3 → (start N vs)[0]? = (vs.map some)[0]? ∧ (start N vs)[1]? = (vs.map some)[1]? ∧ (start N vs)[2]? = (vs.map some)[2]?)
    (hb : ∀ (cdv : Value) (A : Around) (outer : List Env) (s : Shared) (H : Hp) (E : XK), PSs (cxOf CX0 P w K mg base N qual (defScope st) fa cdv A outer s H E).nox (defBody st) (tSeq (tSt K f (tVar 0) (tVar 1)) (tSt K f' (tVar 0) (tVar 2)))) : FnOk P w K mg base CX0 (k + 1) fa fd [x0, x1, x2] (spInit K [f, f']) := by
  refine F.ok S (init_len rfl) fun cdv A outer s H vs Q E hr h => ⟨_, hb cdv A outer s H E, ?_⟩
  obtain ⟨a, C, ws, rfl, hl, T, hno, ha, q⟩ := h
  match ws, hl with
  | [y, z], _ =>
    obtain ⟨e0, e1, e2⟩ := hN [.ref a, y, z] rfl
    refine ⟨y, e1, .ref a, e0, a, C, none, [], rfl, T, hno f List.mem_cons_self, ha, by simp, .inl ⟨rfl, rfl⟩, fun dx hd _ hne => ⟨z, e2, .ref a, e0, a, C, some dx, [(f, y)], rfl, T, hno f' (by simp), upd_same, by simp, .inr ⟨dx, rfl, hne, by rw [upd_ne hne, upd_same]⟩, fun dz _ n1 _ => ?_⟩⟩
    cases n1 dx rfl
    have e : upd (upd (upd (upd H dx (exd dx [(f, y)])) a (exo a C (some dx))) dx (exd dx [(f', z), (f, y)])) a (exo a C (some dx)) = upd (upd H dx (exd dx [(f', z), (f, y)])) a (exo a C (some dx)) := by
      funext b
      by_cases hba : b = a
      · rw [hba, upd_same, upd_same]
      · rw [upd_ne hba, upd_ne hba]
        by_cases hb : b = dx
        · rw [hb, upd_same, upd_same]
        · rw [upd_ne hb, upd_ne hba, upd_ne hb, upd_ne hb]
    rw [e]
    exact q dx (hd rfl) hne
end
end Gw

/-! texts, tuples turned about and repeated, sets of whole numbers that are sorted at once, == () -/
namespace Gw
open PySem L2 PyProof.Rows
variable {ρ : Ent}
section
variable {X : Cx} {a b c e : Expr} {ta tb tc te : TE} {aa ab ac ae : AE} {pos : Pos} {K : PySem.W.Frag} {B : Ent} {σ : L2.St} {H G H1 G1 H2 G2 H0 : Hp} {Γ Γ1 Γ2 : Sl} {M M1 M2 : Mem}
/-! ### s + t, s[i:j] -/
theorem q_catS (ha : QE X ρ a ta aa) (hb : QE X ρ b tb ab) : QE X ρ (.BinOp a .Add b pos) (tOp (fun x y H Q => ∃ i j, x = .str i ∧ y = .str j ∧ i.length + j.length ≤ sizeLine ∧ Q (.str (i ++ j)) H) ta tb) (aOp aCatS aa ab) := q_op op_add_str (fun B σ H H1 H2 G Γ M rx ry x y Q R k r1 r2 h q => by
  unfold aCatS at h
  split at h
  · rename_i s t
    have e1 : x = .str s := by have := r1; simp only [RepR, Rep] at this; exact this
    have e2 : y = .str t := by have := r2; simp only [RepR, Rep] at this; exact this
    exact ⟨s, t, e1, e2, h.1, q _ H G Γ M (.dat (.str (s ++ t))) k .refl (by simp only [RepR, Rep]) h.2⟩
  · exact h.elim) ha hb
def aSlS (aa : AE) (al ah : AO) (Γ : Sl) (M : Mem) (Q : Ret → Sl → Mem → Prop) : Prop := aa Γ M fun r Γ1 M1 => al Γ1 M1 fun lo Γ2 M2 => ah Γ2 M2 fun hi Γ3 M3 => match r with
  | .dat (.str z) => z.length ≤ sizeLine ∧ Q (.dat (.str (cutS z lo hi))) Γ3 M3
  | _ => False
theorem q_slS {lo hi : Option Expr} {p2 : Pos} {tl th : TO} {al ah : AO} (he : QE X ρ a ta aa) (hl : QO X ρ lo tl al) (hh : QO X ρ hi th ah) :
    QE X ρ (.Subscript a (.Slice lo hi none p2) pos) (tSl rSlS ta tl th) (aSlS aa al ah) := ⟨pe_slice sl_str he.pe hl.pe hh.pe, by
  intro B σ H G Γ M Q R k h q
  refine he.rd B σ H G Γ M _ _ k h fun v H1 G1 Γ1 M1 r1 k1 e1 rr1 h1 => ?_
  refine hl.rd B σ H1 G1 Γ1 M1 _ _ k1 h1 fun l H2 G2 Γ2 M2 k2 e2 h2 => ?_
  refine hh.rd B σ H2 G2 Γ2 M2 _ _ k2 h2 fun u H3 G3 Γ3 M3 k3 e3 h3 => ?_
  split at h3
  · rename_i z
    have ev : v = .str z := by have := rr1; simp only [RepR, Rep] at this; exact this
    exact ⟨z, ev, h3.1, q _ H3 G3 Γ3 M3 (.dat (.str _)) k3 ((e1.trans e2).trans e3) (by simp only [RepR, Rep]) h3.2⟩
  · exact h3.elim⟩
/-! ### str(n) -/
def aStr (r : Ret) (Γ : Sl) (M : Mem) (Q : Ret → Sl → Mem → Prop) : Prop := match r with
  | .dat (.int i) => i.natAbs.log2 < 1920 ∧ Q (.dat (.str (Str.ofString (toString i)))) Γ M
  | _ => False
theorem q_strI {p : Pos} (hm : X.mg "str" = none) (ha : QE X ρ a ta aa) (hg : Gl X "str" := by rfl) (na : starEach [a] X.env = (false, eval a X.env) :: starEach [] X.env := by rfl) :
    QE X ρ (.Call (.Name "str" p) [a] [] pos) (tCB (fun xs H Q => ∃ i, xs = [.int i] ∧ i.natAbs.log2 < 1920 ∧ Q (.str (toString i)) H) (tCons ta tNil)) (aCall1 aStr aa) := q_callT1 call_str_int (fun B σ H H1 G Γ M rx x Q R k r1 h q => by
  unfold aStr at h
  split at h
  · rename_i i
    have e1 : x = .int i := by have := r1; simp only [RepR, Rep] at this; exact this
    exact ⟨i, by rw [e1], h.1, q _ H G Γ M (.dat (.str _)) k .refl (by simp only [RepR, Rep]) h.2⟩
  · exact h.elim) hm ha hg (na := na)
/-! ### x == (), x != () -/
def rEq0 (K : PySem.W.Frag) (f : Bool → Bool) : R2 := fun x y H Q => ∃ a b xs, x = .ref a ∧ y = .ref b ∧ SqT K H a xs ∧ SqT K H b [] ∧ Q (.bl (f (xs.length == 0))) H
theorem op_eq0 (hu : X.A.units + 64 < cLine) : OpR X (compareOp .Eq) (rEq0 X.K id) := by
  rintro pins s σ H x y v u Q I rx ry ⟨p, q, xs, rfl, rfl, hp, hq, w⟩
  cases rx; cases ry
  obtain ⟨its, r, ht, _⟩ := I.tuple hp
  obtain ⟨jts, r2, ht2, _⟩ := I.tuple hq
  cases r2
  refine SeqAt.RcAt.tuples (e := fun _ => true) (show s.heap.IsTuple p its.toArray from ht) (show s.heap.IsTuple q #[] from ht2) (by omega) (fun j _ h2 => absurd h2 (Nat.not_lt_zero j)) X.prog X.w X.xe _ ⟨.bl _, H, I, ?_, w⟩
  rw [r.length]
  simp
  rfl
theorem op_ne0 (hu : X.A.units + 64 < cLine) : OpR X (compareOp .NotEq) (rEq0 X.K not) := by
  rintro pins s σ H x y v u Q I rx ry ⟨p, q, xs, rfl, rfl, hp, hq, w⟩
  cases rx; cases ry
  obtain ⟨its, r, ht, _⟩ := I.tuple hp
  obtain ⟨jts, r2, ht2, _⟩ := I.tuple hq
  cases r2
  refine SeqAt.RcNeAt.tuples (e := fun _ => true) (show s.heap.IsTuple p its.toArray from ht) (show s.heap.IsTuple q #[] from ht2) (by omega) (fun j _ h2 => absurd h2 (Nat.not_lt_zero j)) X.prog X.w X.xe _ ⟨.bl _, H, I, ?_, w⟩
  rw [r.length]
  simp
  rfl
def aEq0 (f : Bool → Bool) (x : Ret) (y : Ret) (Γ : Sl) (M : Mem) (Q : Ret → Sl → Mem → Prop) : Prop := match x, y with
  | .dat (.tup ds), .dat (.tup []) => Q (.dat (.bl (f (ds.length == 0)))) Γ M
  | _, _ => False
theorem rd_eq0 {f : Bool → Bool} : RdO K ρ (rEq0 K f) (aEq0 f) := by
  intro B σ H H1 H2 G Γ M rx ry x y Q R k r1 r2 h q
  unfold aEq0 at h
  split at h
  · rename_i ds
    obtain ⟨p, xs, e1, h1, l1⟩ := rep_tup.mp (show Rep K G (.tup ds) x from r1)
    obtain ⟨p2, ys, e2, h2, l2⟩ := rep_tup.mp (show Rep K G (.tup []) y from r2)
    rw [repL_nil.mp l2] at h2
    exact ⟨p, p2, xs, e1, e2, ex_t k.ex h1, ex_t k.ex h2, q _ H G Γ M (.dat (.bl _)) k .refl (by simp only [RepR, Rep]; rw [l1.length]) h⟩
  · exact h.elim
theorem c_eq0 (hu : X.A.units + 64 < cLine) (hK : X.K = K := by rfl) : CmpR X ρ .Eq (rEq0 K id) (aEq0 id) := by subst hK; exact ⟨op_eq0 hu, rd_eq0⟩
theorem c_ne0 (hu : X.A.units + 64 < cLine) (hK : X.K = K := by rfl) : CmpR X ρ .NotEq (rEq0 K not) (aEq0 not) := by subst hK; exact ⟨op_ne0 hu, rd_eq0⟩
/-! ### t < u, tuples of whole numbers -/
def intsD : List D → Option (List Int)
  | [] => some []
  | .int i :: ds => (intsD ds).map (i :: ·)
  | _ :: _ => none
theorem intsD_ok : ∀ {ds : List D} {ns : List Int}, intsD ds = some ns → ds = ns.map .int
  | [], _, h => by cases h; rfl
  | .int i :: ds, _, h => by
    simp only [intsD, Option.map_eq_some_iff] at h
    obtain ⟨ns, h1, rfl⟩ := h
    rw [intsD_ok h1]; rfl
theorem intsD_map (ns : List Int) : intsD (ns.map .int) = some ns := by
  induction ns with
  | nil => rfl
  | cons n ns ih => rw [List.map_cons, intsD, ih]; rfl
def aLtT (x : Ret) (y : Ret) (Γ : Sl) (M : Mem) (Q : Ret → Sl → Mem → Prop) : Prop := match x, y with
  | .dat (.tup ds), .dat (.tup es) => match intsD ds, intsD es with
    | some ns, some ms => Q (.dat (.bl (HT.lexLt ns ms))) Γ M
    | _, _ => False
  | _, _ => False
theorem c_ltT (hu : X.A.units + 64 < cLine) (hK : X.K = K := by rfl) : CmpR X ρ .Lt (rLtT K) aLtT := by
  subst hK
  refine ⟨op_ltT (by omega), fun B σ H H1 H2 G Γ M rx ry x y Q R k r1 r2 h q => ?_⟩
  unfold aLtT at h
  split at h
  · rename_i ds es
    split at h
    · rename_i ns ms h1 h2
      obtain ⟨p, xs, e1, s1, l1⟩ := rep_tup.mp (show Rep X.K G (.tup ds) x from r1)
      obtain ⟨p2, ys, e2, s2, l2⟩ := rep_tup.mp (show Rep X.K G (.tup es) y from r2)
      rw [intsD_ok h1] at l1
      rw [intsD_ok h2] at l2
      rw [repL_map_int.mp l1] at s1
      rw [repL_map_int.mp l2] at s2
      exact ⟨p, p2, ns, ms, e1, e2, ex_t k.ex s1, ex_t k.ex s2, q _ H G Γ M (.dat (.bl _)) k .refl (by simp only [RepR, Rep]) h⟩
    · exact h.elim
  · exact h.elim
/-! ### sorted(set(t)), t a tuple of whole numbers -/
def rSetI (K : PySem.W.Frag) (w : World) : List V → Hp → VK → Prop := fun xs H Q => ∃ (l : Addr) (ns : List Int), xs = [.ref l] ∧ SqT K H l (ns.map V.int) ∧ ns.length ≤ 60 ∧ ∀ p c, H p = none → c ≤ ns.length → Q (.ref p) (upd H p (SetO w p (fun j => decide (j ∈ ns)) c))
theorem cr_setI (hc : X.calm = true) : CallR X (.type "set") (rSetI X.K X.w) := by
  rintro pins s σ H xs us Q I r ⟨l, ns, rfl, hl, few, w⟩
  rw [Vals.ref1 r]
  obtain ⟨its, rv, ht, _⟩ := I.tuple hl
  refine call_set_tupI (items := its.toArray) ns (I.ok.hd hc) ht (intsAre_of rv) (by show ns.length + 1 < scanBound; have : scanBound = 4096 := rfl; omega) fun h' tk c R hcn kk => ?_
  exact ⟨.ref _, _, I.laid (t' := tk) kk (Nat.le_refl _) (setO_new R), rfl, w _ c (I.hok.fresh (Nat.le_refl _)) hcn⟩
def aSortSet (r : Ret) (Γ : Sl) (M : Mem) (Q : Ret → Sl → Mem → Prop) : Prop := match r with
  | .dat (.tup ds) => match intsD ds with
    | some ns => ns.length ≤ 60 ∧ ∀ ms : List Int, ms.Pairwise (· < ·) → (∀ k, k ∈ ms ↔ k ∈ ns) → Q (.tmp (.lst (ms.map .int))) Γ M
    | none => False
  | _ => False
theorem q_sortSet {w : World} {p p2 pos2 : Pos} (hm : X.mg "sorted" = none) (hm2 : X.mg "set" = none) (ha : QE X ρ a ta aa) (hc : X.calm = true := by rfl) (hg : Gl X "sorted" := by rfl) (hg2 : Gl X "set" := by rfl)
    (na : starEach [a] X.env = (false, eval a X.env) :: starEach [] X.env := by rfl) (na2 : starEach [.Call (.Name "set" p2) [a] [] pos2] X.env = (false, eval (.Call (.Name "set" p2) [a] [] pos2) X.env) :: starEach [] X.env := by rfl) (hK : X.K = K := by rfl) (hW : X.w = w := by rfl) :
    QE X ρ (.Call (.Name "sorted" p) [.Call (.Name "set" p2) [a] [] pos2] [] pos) (tCB (rSortedSet w) (tCons (tCB (rSetI K w) (tCons ta tNil)) tNil)) (aCall1 aSortSet aa) := by
  subst hK; subst hW
  refine ⟨pe_callB (cr_sortedSet hc) hg hm (by decide +kernel) (pa_cons (pe_callTy (cr_setI hc) hg2 hm2 (by decide +kernel) (pa_cons ha.pe pa_nil na) (by decide) (by decide) na) pa_nil na2) (by decide) (by decide) na2, ?_⟩
  intro B σ H G Γ M Q R k h q
  refine ha.rd B σ H G Γ M _ _ k h fun v H1 G1 Γ1 M1 r k1 e1 rr h1 => ?_
  unfold aSortSet at h1
  split at h1
  · rename_i ds
    split at h1
    · rename_i ns hn
      obtain ⟨few, h1⟩ := h1
      obtain ⟨l, xs, ev, hl, rl⟩ := rep_tup.mp (show Rep X.K G1 (.tup ds) v from rr)
      rw [intsD_ok hn] at rl
      rw [repL_map_int.mp rl] at hl
      refine ⟨l, ns, by rw [ev], ex_t k1.ex hl, few, fun p0 c hp hcn => ?_⟩
      obtain ⟨k2, e2, _⟩ := k1.tmp (o := SetO X.w p0 (fun j => decide (j ∈ ns)) c) hp
      refine ⟨p0, _, c, rfl, upd_same, by omega, fun ms p1 hs hm hl' hp1 => ?_⟩
      have hm' : ∀ k, k ∈ ms ↔ k ∈ ns := fun k => by rw [hm k]; exact decide_eq_true_iff
      exact (q.es (e1.trans e2)).newL k2 (repL_map_int.mpr rfl) (h1 ms hs hm') p1 hp1
    · exact h1.elim
  · exact h1.elim
/-! ### t * n -/
def rRepL (K : PySem.W.Frag) : R2 := fun x y H Q => ∃ l k xs, x = .ref l ∧ y = .int k ∧ SqT K H l xs ∧ xs ≠ [] ∧ 2 ≤ k ∧ k ≤ 10000 ∧ xs.length ≤ 100 ∧ ∀ p, H p = none → Q (.ref p) (upd H p (.tup (List.replicate k.toNat xs).flatten))
theorem op_repL : OpR X (binaryOp .Mult) (rRepL X.K) := by
  rintro pins s σ H x y v u Q I rx ry ⟨l, k, xs, rfl, rfl, hT, hne, h1, h2, hz, q⟩
  cases rx
  obtain ⟨t, rfl⟩ := ry
  obtain ⟨its, r, ⟨⟨cls, dd, data, sl⟩, ho, hc, n, hd⟩, _⟩ := I.tuple hT
  cases (show cls = _ from hc); cases (show data = _ from hd)
  have len : its.length = xs.length := r.length.symm
  have pos : 0 < its.length := by rw [len]; exact List.length_pos_iff.mpr hne
  have emp : its.toArray.isEmpty = false := by rw [List.isEmpty_toArray]; exact List.isEmpty_eq_false_iff.mpr (List.length_pos_iff.mp pos)
  have big : (its.length : Int) * k ≤ 1000000 := by
    have a1 : (its.length : Int) * k ≤ 100 * k := Int.mul_le_mul_of_nonneg_right (by omega) (by omega)
    omega
  have fl : ∀ {α : Type} (ys : List α), ys.length = xs.length → (List.replicate k.toNat ys).flatten.length ≤ sizeLine := fun ys e => by
    rw [lm_len_rep_flat, e, sizeLine_eq]
    have a1 : k.toNat * xs.length ≤ 10000 * 100 := Nat.mul_le_mul (by omega) hz
    omega
  have mul := tuple_mulW l its.toArray n dd sl k t (by simp; omega) (by rw [emp]; simp; omega) (by rw [emp]; simp; omega) (by rw [List.size_toArray]; omega)
    (by unfold Builtin.Tuple.tupleTooMany; rw [sizeLine_eq, List.size_toArray]; simp; omega) (by rw [size_rep, List.size_toArray]; exact fl its len)
  refine wpAny_binaryOp_repeat_ref (T := "tuple") (U := "int") (by decide) ⟨_, ho, rfl⟩ (fun s' => typeIs_int s' k t) noFill_tuple_mul F.fills_int_mul F.slot_int_rmul repeat_tuple F.slot_int_index.lookup ?_
  refine call_meets F.slot_int_rmul (typeIs_int s k t) F.entry_int_rmul (F.args_int_rmul_2 _ _) (int_rmul_tuple k t l its.toArray n dd sl) ⟨ho, rfl, ⟨_, ho, rfl⟩, ?_⟩
  refine call_meets F.slot_tuple_mul ⟨_, ho, rfl⟩ F.entry_tuple_mul (F.args_tuple_mul_2 _ _) mul ⟨ho, ?_⟩
  rw [size_rep]
  exact ⟨.ref _, _, I.laid (t' := s.toks) (o := .tup (List.replicate k.toNat xs).flatten) (fun _ _ z => Heap.get?_push_of_some _ z) (Nat.le_refl _) ⟨fl xs rfl, _, r.rep k.toNat, IsTup.new _ _⟩, rfl, q _ (I.hok.fresh (Nat.le_refl _))⟩
def aRepT (x : Ret) (y : Ret) (Γ : Sl) (M : Mem) (Q : Ret → Sl → Mem → Prop) : Prop := match x, y with
  | .dat (.tup ds), .dat (.int k) => (ds ≠ [] ∧ 2 ≤ k ∧ k ≤ 10000 ∧ ds.length ≤ 100) ∧ Q (.dat (.tup (List.replicate k.toNat ds).flatten)) Γ M
  | _, _ => False
theorem q_repT (ha : QE X ρ a ta aa) (hb : QE X ρ b tb ab) (hK : X.K = K := by rfl) : QE X ρ (.BinOp a .Mult b pos) (tOp (rRepL K) ta tb) (aOp aRepT aa ab) := by
  subst hK
  refine q_op op_repL (fun B σ H H1 H2 G Γ M rx ry x y Q R k r1 r2 h q => ?_) ha hb
  unfold aRepT at h
  split at h
  · rename_i ds n
    obtain ⟨⟨c1, c2, c3, c4⟩, h⟩ := h
    obtain ⟨l, xs, e1, hl, rl⟩ := rep_tup.mp (show Rep X.K G (.tup ds) x from r1)
    have e2 : y = .int n := by have := r2; simp only [RepR, Rep] at this; exact this
    exact ⟨l, n, xs, e1, e2, ex_t k.ex hl, fun z => c1 (by rw [z] at rl; exact List.length_eq_zero_iff.mp rl.length.symm), c2, c3, by rw [rl.length]; exact c4, q.newT k (rl.rep _) h⟩
  · exact h.elim
/-! ### t[::-1] -/
theorem fm_some {α β : Type} {f : α → Option β} {g : α → β} : ∀ (l : List α), (∀ a ∈ l, f a = some (g a)) → l.filterMap f = l.map g
  | [], _ => rfl
  | x :: l, h => by rw [List.filterMap_cons, h x List.mem_cons_self, List.map_cons, fm_some l fun a ha => h a (List.mem_cons_of_mem _ ha)]
theorem pick_rev (xs : List Value) : ((List.range xs.length).filterMap fun (m : Nat) => xs.toArray[((xs.length : Int) - 1 + (m : Int) * -1).toNat]?).toArray = xs.reverse.toArray := by
  congr 1
  rw [fm_some (g := fun m => xs.reverse.getD m .none) _ fun m hm => ?_]
  · apply List.ext_getElem?
    intro j
    by_cases hj : j < xs.length
    · rw [List.getElem?_map, List.getElem?_range hj, Option.map_some, List.getD_eq_getElem?_getD, List.getElem?_eq_getElem (by rw [List.length_reverse]; exact hj)]
      rfl
    · rw [List.getElem?_eq_none (by simpa using hj), List.getElem?_eq_none (by simpa using hj)]
  · have hm' : m < xs.length := List.mem_range.mp hm
    have : ((xs.length : Int) - 1 + (m : Int) * -1).toNat = xs.length - 1 - m := by omega
    rw [this, List.getElem?_toArray, ← List.getElem?_reverse hm', List.getD_eq_getElem?_getD, List.getElem?_eq_getElem (by rw [List.length_reverse]; exact hm')]
    rfl
theorem applied_rev {A : Around} {E : Value → Shared → Prop} {s : Shared} {sl : Addr} {vs : Value} {n : Nat} {Q : Int × Int × Nat → Shared → Prop} (hs : s.heap.IsSliceOf sl .none .none vs) (ps : IsPart vs (some (-1))) (w : Q ((n : Int) - 1, -1, n) s) :
    wpAny (model X.prog X.w) A (Builtin.Slice.sliceApplied (.ref sl) (pure (n : Int))) Q E s := by
  obtain ⟨os, h1, h2, h3⟩ := hs
  unfold Builtin.Slice.sliceApplied Builtin.Slice.sliceFields
  refine wpAny_bind (wpAny_bind (wpAny_field h1 h3 (x := .none) rfl (wpAny_bind (wpAny_field h1 h3 (x := .none) rfl (wpAny_bind (wpAny_field h1 h3 (x := vs) rfl (wpAny_pure (wpAny_bind (HT.slicePart_ ps ?_)))))))))
  show wpAny _ _ (if ((-1 : Int) == 0) = true then _ else _) _ _ s
  rw [if_neg (by decide)]
  refine wpAny_bind (HT.slicePart_ .none (wpAny_bind (HT.slicePart_ .none (wpAny_bind (wpAny_pure ?_)))))
  have e : Builtin.Slice.sliceAdjust none none (-1) (n : Int) = ((n : Int) - 1, -1) := by simp [Builtin.Slice.sliceAdjust]
  have e2 : Builtin.Slice.slicePlaces ((n : Int) - 1) (-1) (-1) = n := by
    unfold Builtin.Slice.slicePlaces
    rw [if_neg (by decide)]
    have : (-(-1 : Int)) = 1 := rfl
    rw [this, Int.ediv_one]
    split <;> omega
  show wpAny _ _ (match Builtin.Slice.sliceAdjust none none (-1) (n : Int) with | (lo, hi) => pure (lo, (-1 : Int), Builtin.Slice.slicePlaces lo hi (-1))) _ _ s
  rw [e]
  show wpAny _ _ (pure ((n : Int) - 1, (-1 : Int), Builtin.Slice.slicePlaces ((n : Int) - 1) (-1) (-1))) _ _ s
  rw [e2]
  exact wpAny_pure w
theorem item_rev {A : Around} {E : Value → Shared → Prop} {s : Shared} {t sl : Addr} {its : List Value} {vs : Value} {Q : Value → Shared → Prop} (ht : IsTup s.heap t its.toArray) (hs : s.heap.IsSliceOf sl .none .none vs) (ps : IsPart vs (some (-1))) (hz : its.length ≤ sizeLine)
    (w : Q (.ref s.heap.objs.size) { s with heap := s.heap.push { cls := .type "tuple", data := .seq its.reverse.toArray } }) : wpAny (model X.prog X.w) A (getItem (.ref t) (.ref sl)) Q E s := by
  obtain ⟨os, h1, h2, h3⟩ := id hs
  have few : sizeOk (.seq its.reverse.toArray) := by show its.reverse.toArray.size ≤ sizeLine; rw [List.size_toArray, List.length_reverse]; exact hz
  unfold getItem
  try with_reducible refine wpAny_holding ?_
  first | refine wpAny_bind (wpAny_pure ?_) | skip
  refine wpAny_bind (wpAny_sequenceKey ht.typeIs (by decide) (wpAny_bind (wpAny_callSpecial?_slot (name := Str.ofString "__getitem__") ht.typeIs PyProof.Rows.slot_tuple_getitem (wpAny_call_entry PyProof.Rows.slot_tuple_getitem ht.typeIs PyProof.Rows.entry_tuple_getitem ?_ (PyProof.Rows.args_tuple_getitem _ _)))))
  show wpAny _ _ (Builtin.Tuple.tupleItemsOf (.ref t) >>= _) _ _ s
  refine wpAny_bind (tupleItemsOf_ ht (wpAny_bind (wpAny_typeOf ⟨os, h1, h2⟩ ?_)))
  rw [if_pos (by decide)]
  refine wpAny_bind (applied_rev (X := X) (n := its.toArray.size) hs ps ?_)
  have no : ¬ ((((its.toArray.size : Int) - 1) == 0 && (-1 : Int) == 1 && its.toArray.size == its.toArray.size) = true) := by simp
  show wpAny _ _ (if (((its.toArray.size : Int) - 1) == 0 && (-1 : Int) == 1 && its.toArray.size == its.toArray.size) = true then _ else _) _ _ s
  rw [if_neg no]
  have e := pick_rev its
  rw [← List.size_toArray] at e
  rw [e]
  show wpAny _ _ (Builtin.Tuple.tupleExact its.reverse.toArray >>= _) _ _ s
  refine wpAny_bind (wpAny_newObj_type ?_ few)
  first
    | exact wpAny_pure ⟨_, rfl, wpAny_pure w⟩
    | exact wpAny_bind (wpAny_pure (wpAny_pure ⟨_, rfl, wpAny_pure w⟩))
def tRevT (K : PySem.W.Frag) (te : TE) : TE := fun σ H Q => te σ H fun x H1 => ∃ a xs, x = .ref a ∧ SqT K H1 a xs ∧ ∀ p, H1 p = none → Q (.ref p) (upd H1 p (.tup xs.reverse))
theorem pe_revT {k : Nat} {p1 p2 p3 : Pos} (he : PE X e te) : PE X (.Subscript e (.Slice none none (some (.UnaryOp .USub (.Constant (.int 1) k p1) p2)) p3) pos) (tRevT X.K te) := ⟨fun pins s σ H Q I w => by
  refine Subscript_ (thn (he.run pins s σ H _ I w) ?_)
  rintro v s1 ⟨x, H1, I1, r1, p, xs, rfl, hx, q⟩
  cases r1
  have part : PO X (some (.UnaryOp .USub (.Constant (.int 1) k p1) p2)) (tPart (tUn (rU fun i => .int (-i)) (tC (.int 1)))) := po_some (pe_un un_neg pe_int)
  refine wpAny_Slice (thn (po_none.run pins s1 σ H1 (fun o H2 => o = none ∧ H2 = H1) I1 ⟨rfl, rfl⟩) ?_)
  rintro vl s2 ⟨_, _, I2, pl, rfl, rfl⟩
  refine thn (po_none.run pins s2 σ _ (fun o H3 => o = none ∧ H3 = _) I2 ⟨rfl, rfl⟩) ?_
  rintro vu s3 ⟨_, _, I3, pu, rfl, rfl⟩
  refine thn (part.run pins s3 σ _ (fun o H4 => o = some (-1) ∧ H4 = _) I3 ⟨1, rfl, -1, rfl, rfl, rfl⟩) ?_
  rintro vs s4 ⟨_, _, I4, ps, rfl, rfl⟩
  cases pl; cases pu
  have I5 := I4.kept (h' := s4.heap.push { cls := .type "slice", data := .fields #[.none, .none, vs] }) (t' := s4.toks) fun b ob z => Heap.get?_push_of_some _ z
  obtain ⟨its, r, ht, hz⟩ := I5.tuple hx
  refine tail_any (ops := [.ref p, .ref s4.heap.objs.size]) (T := "tuple") ht.typeIs PyProof.Rows.slot_tuple_getitem.lookup ?_ (by with_unfolding_all rfl)
  refine item_rev (X := X) ht (Heap.IsSliceOf.new _ .none .none vs) ps (by rw [← r.length]; exact hz) ?_
  exact ⟨.ref _, _, I5.laid (t' := s4.toks) (o := .tup xs.reverse) (fun _ _ z => Heap.get?_push_of_some _ z) (Nat.le_refl _) ⟨by rw [List.length_reverse]; exact hz, _, r.reverse, IsTup.new _ _⟩, rfl, q _ (I5.hok.fresh (Nat.le_refl _))⟩⟩
def aRevT (r : Ret) (Γ : Sl) (M : Mem) (Q : Ret → Sl → Mem → Prop) : Prop := match r with
  | .dat (.tup ds) => Q (.dat (.tup ds.reverse)) Γ M
  | _ => False
theorem q_revT {k : Nat} {p1 p2 p3 : Pos} (ha : QE X ρ a ta aa) (hK : X.K = K := by rfl) : QE X ρ (.Subscript a (.Slice none none (some (.UnaryOp .USub (.Constant (.int 1) k p1) p2)) p3) pos) (tRevT K ta) (aUn aRevT aa) := by
  subst hK
  refine ⟨pe_revT ha.pe, fun B σ H G Γ M Q R k h q => ha.rd B σ H G Γ M _ _ k h fun v H1 G1 Γ1 M1 r k1 e1 rr h1 => ?_⟩
  unfold aRevT at h1
  split at h1
  · rename_i ds
    obtain ⟨p, xs, ev, hx, rl⟩ := rep_tup.mp (show Rep X.K G1 (.tup ds) v from rr)
    exact ⟨p, xs, ev, ex_t k1.ex hx, (q.es e1).newT k1 rl.reverse h1⟩
  · exact h1.elim
end
/-! ### a def that calls itself: at fuel nought nothing is promised -/
theorem fnG_no {P : Program} {w : World} {K : PySem.W.Frag} {mg : Str → Option Value} {base : Heap} {k n : Nat} {f : Addr} {fd : FuncData} {ps : List Str} {S : ASp} (h : ∀ ds M Q, ¬ S ds M Q) : FnG P w K mg base CX0 k f fd ps (spA K n S) where
  arity := fun vs H Q E z => by
    obtain ⟨G, M, ds, _, _, _, _, _, Qa, hS, _⟩ := z
    exact absurd hS (h ds M Qa)
  go := fun A o s H ar us vs Q E r gd e b rv z => by
    obtain ⟨G, M, ds, _, _, _, _, _, Qa, hS, _⟩ := z
    exact absurd hS (h ds M Qa)
def e_aCatS := @aCatS.eq_def
def e_aSlS := @aSlS.eq_def
def e_aStr := @aStr.eq_def
def e_aEq0 := @aEq0.eq_def
def e_aLtT := @aLtT.eq_def
def e_aSortSet := @aSortSet.eq_def
def e_aRepT := @aRepT.eq_def
def e_aRevT := @aRevT.eq_def
end Gw

/-! truths in sums -/
namespace Gw
open PySem L2 PyProof.Rows
variable {ρ : Ent}
section
variable {prog : Program} {w : World} {A : Around} {E : Value → Shared → Prop} {s : Shared} {i : Int} {t : Tok} {b : Bool} {Q : Value → Shared → Prop}
def b2i (b : Bool) : Int := if b = true then 1 else 0
theorem not_sub : isSubtype (.type "int") (.type "bool") = pure false := by kernel_rfl
theorem gives_add (b : Bool) (i : Int) (t : Tok) : Gives (Builtin.«int.__add__» ⟨[.bool b, .int i t], []⟩) (.int ((if b = true then (1 : Int) else 0) + i)) :=
  .of_wp fun M A E s Q h => by obtain ⟨hp, g, d, tk, os⟩ := s; wp_walk; exact ⟨_, rfl, h⟩
theorem gives_sub (b : Bool) (i : Int) (t : Tok) : Gives (Builtin.«int.__sub__» ⟨[.bool b, .int i t], []⟩) (.int ((if b = true then (1 : Int) else 0) - i)) :=
  .of_wp fun M A E s Q h => by obtain ⟨hp, g, d, tk, os⟩ := s; wp_walk; exact ⟨_, rfl, h⟩
theorem same_sub : reflectedDiffers (.type "int") (.type "bool") "sub" = pure false := by
  unfold reflectedDiffers
  show (typeLookup (.type "bool") (dunderR "sub") >>= fun rb => typeLookup (.type "int") (dunderR "sub") >>= fun ra => pure (rb.isSome && rb != ra)) = pure false
  rw [typeLookup_type, typeLookup_type, builtinLookup_eq_fast]; kernel_rfl
theorem sub_ib (h : Q (.int (i - if b = true then (1 : Int) else 0) s.toks) { s with toks := s.toks + 1 }) : wpAny (model prog w) A (binaryOp .Sub (.int i t) (.bool b)) Q E s :=
  binaryOp_sub_gives (op := .Sub) (T := "int") (U := "bool") (by decide) (typeIs_int s i t) rfl F.fills_int_sub F.fills_bool_sub isSubtype_bool_int same_sub F.slot_int_sub F.entry_int_sub (F.args_int_sub_2 _ _) (AutoIntG7.int___sub___int_bool_0 i t b) trivial h
theorem add_bi (h : Q (.int ((if b = true then (1 : Int) else 0) + i) s.toks) { s with toks := s.toks + 1 }) : wpAny (model prog w) A (binaryOp .Add (.bool b) (.int i t)) Q E s :=
  binaryOp_left_gives (op := .Add) (T := "bool") (U := "int") (by decide) rfl (fun s' => typeIs_int s' i t) F.fills_bool_add F.fills_int_add not_sub F.slot_bool_add F.slot_int_radd F.entry_int_add (F.args_int_add_2 _ _) (gives_add b i t) trivial h
theorem sub_bi (h : Q (.int ((if b = true then (1 : Int) else 0) - i) s.toks) { s with toks := s.toks + 1 }) : wpAny (model prog w) A (binaryOp .Sub (.bool b) (.int i t)) Q E s :=
  binaryOp_left_gives (op := .Sub) (T := "bool") (U := "int") (by decide) rfl (fun s' => typeIs_int s' i t) F.fills_bool_sub F.fills_int_sub not_sub F.slot_bool_sub F.slot_int_rsub F.entry_int_sub (F.args_int_sub_2 _ _) (gives_sub b i t) trivial h
end
section
variable {X : Cx} {a b : Expr} {ta tb : TE} {aa ab : AE} {pos : Pos} {K : PySem.W.Frag}
/-- a whole number, or a truth -/
def numD : D → Option Int
  | .int i => some i
  | .bl b => some (b2i b)
  | _ => none
def isBl : D → Bool
  | .bl _ => true
  | _ => false
def rIB (f : Int → Int → Int) : R2 := fun x y H Q => (∃ i j, x = .int i ∧ y = .int j ∧ Q (.int (f i j)) H) ∨ (∃ i c, x = .int i ∧ y = .bl c ∧ Q (.int (f i (b2i c))) H) ∨ ∃ c j, x = .bl c ∧ y = .int j ∧ Q (.int (f (b2i c) j)) H
theorem op_addB : OpR X (binaryOp .Add) (rIB (· + ·)) := by
  rintro pins s σ H x y v u Q I rx ry (⟨i, j, rfl, rfl, q⟩ | ⟨i, c, rfl, rfl, q⟩ | ⟨c, j, rfl, rfl, q⟩)
  · obtain ⟨t, rfl⟩ := rx; obtain ⟨t', rfl⟩ := ry
    exact add_int ⟨.int _, H, I.tok _, ⟨_, rfl⟩, q⟩
  · obtain ⟨t, rfl⟩ := rx; cases ry
    exact add_int_bool ⟨.int _, H, I.tok _, ⟨_, rfl⟩, q⟩
  · cases rx; obtain ⟨t', rfl⟩ := ry
    exact add_bi ⟨.int _, H, I.tok _, ⟨_, rfl⟩, q⟩
theorem op_subB : OpR X (binaryOp .Sub) (rIB (· - ·)) := by
  rintro pins s σ H x y v u Q I rx ry (⟨i, j, rfl, rfl, q⟩ | ⟨i, c, rfl, rfl, q⟩ | ⟨c, j, rfl, rfl, q⟩)
  · obtain ⟨t, rfl⟩ := rx; obtain ⟨t', rfl⟩ := ry
    exact sub_int ⟨.int _, H, I.tok _, ⟨_, rfl⟩, q⟩
  · obtain ⟨t, rfl⟩ := rx; cases ry
    exact sub_ib ⟨.int _, H, I.tok _, ⟨_, rfl⟩, q⟩
  · cases rx; obtain ⟨t', rfl⟩ := ry
    exact sub_bi ⟨.int _, H, I.tok _, ⟨_, rfl⟩, q⟩
def aIB (f : Int → Int → Int) (x : Ret) (y : Ret) (Γ : Sl) (M : Mem) (Q : Ret → Sl → Mem → Prop) : Prop := match x, y with
  | .dat (.int i), .dat (.int j) => Q (.dat (.int (f i j))) Γ M
  | .dat (.int i), .dat (.bl c) => Q (.dat (.int (f i (b2i c)))) Γ M
  | .dat (.bl c), .dat (.int j) => Q (.dat (.int (f (b2i c) j))) Γ M
  | _, _ => False
theorem rd_IB {f : Int → Int → Int} : RdO K ρ (rIB f) (aIB f) := by
  intro B σ H H1 H2 G Γ M rx ry x y Q R k r1 r2 h q
  unfold aIB at h
  split at h
  · rename_i i j
    have e1 : x = .int i := by have := r1; simp only [RepR, Rep] at this; exact this
    have e2 : y = .int j := by have := r2; simp only [RepR, Rep] at this; exact this
    exact .inl ⟨i, j, e1, e2, q _ H G Γ M (.dat (.int _)) k .refl (by simp only [RepR, Rep]) h⟩
  · rename_i i j
    have e1 : x = .int i := by have := r1; simp only [RepR, Rep] at this; exact this
    have e2 : y = .bl j := by have := r2; simp only [RepR, Rep] at this; exact this
    exact .inr (.inl ⟨i, j, e1, e2, q _ H G Γ M (.dat (.int _)) k .refl (by simp only [RepR, Rep]) h⟩)
  · rename_i i j
    have e1 : x = .bl i := by have := r1; simp only [RepR, Rep] at this; exact this
    have e2 : y = .int j := by have := r2; simp only [RepR, Rep] at this; exact this
    exact .inr (.inr ⟨i, j, e1, e2, q _ H G Γ M (.dat (.int _)) k .refl (by simp only [RepR, Rep]) h⟩)
  · exact h.elim
theorem q_addB (ha : QE X ρ a ta aa) (hb : QE X ρ b tb ab) : QE X ρ (.BinOp a .Add b pos) (tOp (rIB (· + ·)) ta tb) (aOp (aIB fun i j => i + j) aa ab) := q_op op_addB rd_IB ha hb
theorem q_subB (ha : QE X ρ a ta aa) (hb : QE X ρ b tb ab) : QE X ρ (.BinOp a .Sub b pos) (tOp (rIB (· - ·)) ta tb) (aOp (aIB fun i j => i - j) aa ab) := q_op op_subB rd_IB ha hb
/-! ### str of a whole number or of a truth -/
def strN : D → Str
  | .int i => Str.ofString (toString i)
  | .bl b => if b then "True" else "False"
  | _ => ""
def rStrB : List V → Hp → VK → Prop := fun xs H Q => (∃ i, xs = [.int i] ∧ i.natAbs.log2 < 1920 ∧ Q (.str (toString i)) H) ∨ ∃ c : Bool, xs = [.bl c] ∧ Q (.str (if c then "True" else "False")) H
theorem call_strB : CallR X (.type "str") rStrB := by
  rintro pins s σ H xs us Q I r (h | ⟨c, rfl, q⟩)
  · exact call_str_int pins s σ H xs us Q I r h
  · obtain ⟨u, rfl, hu⟩ := vals1 r
    cases (show u = Value.bool c from hu)
    exact PySem.P.str_of_bool ⟨.str _, H, I.tok _, ⟨_, rfl⟩, q⟩
def aStrB (r : Ret) (Γ : Sl) (M : Mem) (Q : Ret → Sl → Mem → Prop) : Prop := match r with
  | .dat (.int i) => i.natAbs.log2 < 1920 ∧ Q (.dat (.str (strN (.int i)))) Γ M
  | .dat (.bl c) => Q (.dat (.str (strN (.bl c)))) Γ M
  | _ => False
theorem q_strB {p : Pos} (hm : X.mg "str" = none) (ha : QE X ρ a ta aa) (hg : Gl X "str" := by rfl) (na : starEach [a] X.env = (false, eval a X.env) :: starEach [] X.env := by rfl) :
    QE X ρ (.Call (.Name "str" p) [a] [] pos) (tCB rStrB (tCons ta tNil)) (aCall1 aStrB aa) := q_callT1 call_strB (fun B σ H H1 G Γ M rx x Q R k r1 h q => by
  unfold aStrB at h
  split at h
  · rename_i i
    have e1 : x = .int i := by have := r1; simp only [RepR, Rep] at this; exact this
    exact .inl ⟨i, by rw [e1], h.1, q _ H G Γ M (.dat (.str _)) k .refl (by simp only [RepR, Rep, strN]) h.2⟩
  · rename_i c
    have e1 : x = .bl c := by have := r1; simp only [RepR, Rep] at this; exact this
    exact .inr ⟨c, by rw [e1], q _ H G Γ M (.dat (.str _)) k .refl (by simp only [RepR, Rep, strN]) h⟩
  · exact h.elim) hm ha hg (na := na)
/-! ### xs == [], xs != [] -/
def rEqL0 (K : PySem.W.Frag) (f : Bool → Bool) : R2 := fun x y H Q => ∃ a b xs, x = .ref a ∧ y = .ref b ∧ SqL K H a xs ∧ SqL K H b [] ∧ Q (.bl (f (xs.length == 0))) H
theorem op_eqL0 (hu : X.A.units + 64 < cLine) : OpR X (compareOp .Eq) (rEqL0 X.K id) := by
  rintro pins s σ H x y v u Q I rx ry ⟨p, q, xs, rfl, rfl, hp, hq, w⟩
  cases rx; cases ry
  obtain ⟨its, r, ht, _⟩ := I.list hp
  obtain ⟨jts, r2, ht2, _⟩ := I.list hq
  cases r2
  by_cases z : its.toArray.size = (#[] : Array Value).size
  · refine SeqAt.RcAt.lists (e := fun _ => true) ht.isList ht2.isList z (by omega) (fun j _ h2 => absurd h2 (Nat.not_lt_zero j)) X.prog X.w X.xe _ ⟨.bl _, H, I, ?_, w⟩
    have : xs.length = 0 := by rw [r.length, ← List.size_toArray]; exact z
    rw [this]; simp at z; subst z; rfl
  · refine SeqAt.RcAt.lists_lengths ht.isList ht2.isList (bne_iff_ne.mpr z) (by omega) X.prog X.w X.xe _ ⟨.bl _, H, I, ?_, w⟩
    have : xs.length ≠ 0 := by rw [r.length, ← List.size_toArray]; exact z
    show Value.bool false = Value.bool (id (xs.length == 0))
    rw [show (xs.length == 0) = false from by simpa using this]; rfl
theorem op_neL0 (hu : X.A.units + 64 < cLine) : OpR X (compareOp .NotEq) (rEqL0 X.K not) := by
  rintro pins s σ H x y v u Q I rx ry ⟨p, q, xs, rfl, rfl, hp, hq, w⟩
  cases rx; cases ry
  obtain ⟨its, r, ht, _⟩ := I.list hp
  obtain ⟨jts, r2, ht2, _⟩ := I.list hq
  cases r2
  by_cases z : its.toArray.size = (#[] : Array Value).size
  · refine SeqAt.RcNeAt.lists (e := fun _ => true) ht.isList ht2.isList z (by omega) (fun j _ h2 => absurd h2 (Nat.not_lt_zero j)) X.prog X.w X.xe _ ⟨.bl _, H, I, ?_, w⟩
    have : xs.length = 0 := by rw [r.length, ← List.size_toArray]; exact z
    rw [this]; simp at z; subst z; rfl
  · refine SeqAt.RcNeAt.lists_lengths ht.isList ht2.isList (bne_iff_ne.mpr z) (by omega) X.prog X.w X.xe _ ⟨.bl _, H, I, ?_, w⟩
    have : xs.length ≠ 0 := by rw [r.length, ← List.size_toArray]; exact z
    show Value.bool true = Value.bool (not (xs.length == 0))
    rw [show (xs.length == 0) = false from by simpa using this]; rfl
def aEqL0 (f : Bool → Bool) (x : Ret) (y : Ret) (Γ : Sl) (M : Mem) (Q : Ret → Sl → Mem → Prop) : Prop := match sqOf x Γ M, y with
  | some (.lst ds), .tmp (.lst []) => Q (.dat (.bl (f (ds.length == 0)))) Γ M
  | _, _ => False
theorem rd_eqL0 {f : Bool → Bool} : RdO K ρ (rEqL0 K f) (aEqL0 f) := by
  intro B σ H H1 H2 G Γ M rx ry x y Q R k r1 r2 h q
  unfold aEqL0 at h
  split at h
  · rename_i ds hs
    obtain ⟨p, xs, e1, h1, l1⟩ := sqOf_ok k r1 hs
    obtain ⟨p2, ys, e2, h2, l2⟩ := sqOf_ok k r2 (show sqOf (.tmp (.lst [])) Γ M = some (.lst []) from rfl)
    rw [repL_nil.mp l2] at h2
    exact ⟨p, p2, xs, e1, e2, SqL.of h1, SqL.of h2, q _ H G Γ M (.dat (.bl _)) k .refl (by simp only [RepR, Rep]; rw [l1.length]) h⟩
  · exact h.elim
theorem c_eqL0 (hu : X.A.units + 64 < cLine) (hK : X.K = K := by rfl) : CmpR X ρ .Eq (rEqL0 K id) (aEqL0 id) := by subst hK; exact ⟨op_eqL0 hu, rd_eqL0⟩
theorem c_neL0 (hu : X.A.units + 64 < cLine) (hK : X.K = K := by rfl) : CmpR X ρ .NotEq (rEqL0 K not) (aEqL0 not) := by subst hK; exact ⟨op_neL0 hu, rd_eqL0⟩
end
/-- the text of a whole number is short -/
theorem strI_len {k : Nat} {i : Int} (hk : 1 ≤ k) (h : i.natAbs < 10 ^ k) : (Str.ofString (toString i)).length ≤ k + 1 := by
  have r : ∀ n : Nat, n < 10 ^ k → (Nat.repr n).length ≤ k := fun n hn => by
    have := digitsCore_len_pow 10 (by decide) k (n + 1) n [] hk hn
    simpa [Nat.repr, Nat.toDigits] using this
  rw [ofString_len]
  cases i with
  | ofNat m =>
    have := r m h
    show (Nat.repr m).length ≤ _
    omega
  | negSucc m =>
    have := r (m + 1) h
    show ("-" ++ Nat.repr (m + 1)).length ≤ _
    have h1 : "-".length = 1 := by decide
    rw [String.length_append]
    omega
def e_aEqL0 := @aEqL0.eq_def
def e_aIB := @aIB.eq_def
def e_aStrB := @aStrB.eq_def
end Gw

/-! comprehensions of two fors; sorted(set(rows)) -/
namespace Gw
open PySem L2 PyProof.Rows
variable {ρ : Ent}
section
variable {X : Cx} {tg tg1 a : Expr} {ta te : TE} {aa ae : AE} {pos : Pos} {K : PySem.W.Frag} {B : Ent} {σ σ' : L2.St} {H G H0 G0 H2 G2 H3 G3 : Hp} {Γ Γ' Γ0 Γ2 Γ3 : Sl} {M M0 M2 M3 : Mem}
/-- a walk whose turn is S -/
theorem turns_it {J : It} {n : Nat} {GG : Hp → Prop} {Y : Nat → Hp → V → Hp → Prop} (w : Walk J n GG Y) (Pv : Nat → Hp → Prop) {S : V → Hp → (Hp → Prop) → Prop} {Qd : Hp → Prop} {Hs : Hp} (h0 : Pv 0 Hs) (hG : ∀ i H, i ≤ n → Pv i H → GG H)
    (hs : ∀ i x H H', i < n → Pv i H → Y i H x H' → S x H' (Pv (i + 1))) (hd : ∀ H, Pv n H → Qd H) :
    ∃ W : Nat → Nat → Hp → Prop, (∃ m, W 0 m Hs) ∧ ∀ i m H, W i m H → (J.stop i H ∧ Qd H) ∨ (J.go i H ∧ ∃ Nx : Hp → Prop, (∀ H', Nx H' → ∃ m', m' < m ∧ W (i + 1) m' H') ∧ ∀ x H', J.yld i H x H' → S x H' Nx) := by
  refine ⟨fun i m H => Pv i H ∧ i + m = n, ⟨n, h0, Nat.zero_add n⟩, fun i m H ⟨p, e⟩ => ?_⟩
  have g := hG i H (by omega) p
  cases m with
  | zero =>
    have e : i = n := e
    subst e
    exact .inl ⟨w.stops H g, hd H p⟩
  | succ m => exact .inr ⟨w.goes i H (by omega) g, Pv (i + 1), fun H' p' => ⟨m, Nat.lt_succ_self m, p', by omega⟩, fun x H' y => hs i x H H' (by omega) p (w.yields i H x H' (by omega) g y)⟩
/-- a list at p that grows, seen from an earlier state (0) -/
structure Grow (K : PySem.W.Frag) (ρ : Ent) (B : Ent) (p : Addr) (σ0 : L2.St) (H0 G0 : Hp) (Γ0 : Sl) (M0 : Mem) (vs : List Nat) (acc : List D) (σ : L2.St) (H G : Hp) (Γ : Sl) (M : Mem) : Prop where
  ok : Ok K ρ B σ H G Γ M
  g : Ex G0 G
  tmp : ∀ a o, H0 a = some o → G0 a = none → a ∉ dom M0 → ¬ owned σ0 Γ0 a → H a = some o ∧ G a = none ∧ a ∉ dom M ∧ ¬ owned σ Γ a
  nn : ∀ a, H a = none → H0 a = none
  wi : ∀ (j : Nat) (s : Slot), Γ[j]? = some s → s ≠ .non → j ∉ vs
  here : ∃ xs, H p = some (.lst xs) ∧ RepL K G acc xs
  gp : G p = none
  mp : p ∉ dom M
  op : ¬ owned σ Γ p
  base : B.H p = none ∧ H0 p = none
variable {p : Addr} {σ0 : L2.St} {vs : List Nat} {acc : List D}
theorem Grow.es (w : Grow K ρ B p σ0 H0 G0 Γ0 M0 vs acc σ H G Γ M) (k : Ok K ρ B σ H2 G2 Γ2 M2) (e : Es σ H G Γ M H2 G2 Γ2 M2) : Grow K ρ B p σ0 H0 G0 Γ0 M0 [] acc σ H2 G2 Γ2 M2 := by
  obtain ⟨xs, hp, ra⟩ := w.here
  obtain ⟨p1, p2, p3, p4⟩ := e.tmp p _ hp w.gp w.mp w.op
  refine ⟨k, w.g.trans e.g, fun a o h g m n => ?_, fun a z => w.nn a (e.nn a z), fun j s _ _ => by simp, ⟨xs, p1, ra.mono e.g⟩, p2, p3, p4, w.base⟩
  obtain ⟨a1, a2, a3, a4⟩ := w.tmp a o h g m n
  exact e.tmp a o a1 a2 a3 a4
/-- other slots, fewer owners -/
theorem Grow.to (w : Grow K ρ B p σ0 H0 G0 Γ0 M0 vs acc σ H G Γ M) (k : Ok K ρ B σ' H G Γ' M) (o : ∀ x, owned σ' Γ' x → owned σ Γ x) {us : List Nat} (hw : ∀ (j : Nat) (s : Slot), Γ'[j]? = some s → s ≠ .non → j ∉ us) : Grow K ρ B p σ0 H0 G0 Γ0 M0 us acc σ' H G Γ' M := by
  refine ⟨k, w.g, fun a o' h g m n => ?_, w.nn, hw, w.here, w.gp, w.mp, fun z => w.op (o _ z), w.base⟩
  obtain ⟨a1, a2, a3, a4⟩ := w.tmp a o' h g m n
  exact ⟨a1, a2, a3, fun z => a4 (o _ z)⟩
/-- one more -/
theorem Grow.add {xs : List V} {v : V} {y : D} (w : Grow K ρ B p σ0 H0 G0 Γ0 M0 vs acc σ H G Γ M) (hp : H p = some (.lst xs)) (ra : RepL K G acc xs) (rv : Rep K G y v) : Grow K ρ B p σ0 H0 G0 Γ0 M0 vs (acc ++ [y]) σ (upd H p (.lst (xs ++ [v]))) G Γ M := by
  refine ⟨w.ok.updTmp hp w.base.1 w.gp w.mp w.op, w.g, fun a o h g m n => ?_, fun a z => ?_, w.wi, ⟨_, upd_same, ra.append (RepL.one rv)⟩, w.gp, w.mp, w.op, w.base⟩
  · obtain ⟨a1, a2, a3, a4⟩ := w.tmp a o h g m n
    exact ⟨by rw [upd_ne (ne_of_none h w.base.2)]; exact a1, a2, a3, a4⟩
  · by_cases e : a = p
    · subst e; exact w.base.2
    · rw [upd_ne e] at z; exact w.nn a z
/-- into a turn: the block's names are free -/
theorem Grow.enter (w : Grow K ρ B p σ0 H0 G0 Γ0 M0 vs acc σ H G Γ M) : Grow K ρ B p σ0 H0 G0 Γ0 M0 vs acc (wipe σ vs) H G Γ M := by
  obtain ⟨k, o⟩ := w.ok.agree (σ' := wipe σ vs) (Γ' := Γ) (fun j s a b => ⟨a, wipe_out (w.wi j s a b)⟩) (by rw [wipe_length]; exact w.ok.len)
  exact w.to k o w.wi
/-- out of a turn -/
theorem Grow.leave (w : Grow K ρ B p σ0 H0 G0 Γ0 M0 [] acc σ' H G Γ M) (hw : wipe σ' vs = wipe σ vs) : Grow K ρ B p σ0 H0 G0 Γ0 M0 vs acc σ H G (wipeS Γ vs) M := by
  have ag : ∀ j, j ∉ vs → σ[j]? = σ'[j]? := fun j hj => by rw [← wipe_out (σ := σ') hj, hw, wipe_out hj]
  have hl : σ'.length = σ.length := by rw [← wipe_length σ' vs, hw, wipe_length]
  obtain ⟨k, o⟩ := w.ok.agree (σ' := σ) (Γ' := wipeS Γ vs) (fun j s a b => ⟨(wipeS_some a b).1, ag j (wipeS_some a b).2⟩) (by rw [wipeS_length, w.ok.len, hl])
  exact w.to k o fun j s a b => (wipeS_some a b).2
/-! ### [.. for .. for ..] -/
def aLcO (ai1 : AI) (g : AG) (tt : AT) (g1 : AG) (tt1 : AT) (ae : AE) (vs vs1 : List Nat) (k : List D → Sl → Mem → Prop) : List D → List D → Sl → Mem → Prop
  | [], acc, Γ, M => k acc Γ M
  | d :: ds, acc, Γ, M => g d Γ fun Γ1 => tt Γ1 M fun b Γ2 M2 => if b = true then ai1 Γ2 M2 fun es Γ3 M3 => aLcL g1 tt1 ae vs1 (fun acc' Γ4 M4 => aLcO ai1 g tt g1 tt1 ae vs vs1 k ds acc' (wipeS Γ4 vs) M4) es acc (wipeS Γ3 vs1) M3
      else aLcO ai1 g tt g1 tt1 ae vs vs1 k ds acc (wipeS Γ2 vs) M2
def lcO (ai1 : AI) (g : AG) (tt : AT) (g1 : AG) (tt1 : AT) (ae : AE) (vs vs1 : List Nat) (k : List D → Sl → Mem → Prop) (_ : WitL k) (ds acc : List D) (Γ : Sl) (M : Mem) : Prop := aLcO ai1 g tt g1 tt1 ae vs vs1 k ds acc Γ M
def aLc2 (ai : AI) (g : AG) (tt : AT) (ai1 : AI) (g1 : AG) (tt1 : AT) (ae : AE) (vs vs1 : List Nat) (Γ : Sl) (M : Mem) (Q : Ret → Sl → Mem → Prop) : Prop := ai Γ M fun ds Γ1 M1 => lcO ai1 g tt g1 tt1 ae vs vs1 (fun acc Γ2 M2 => Q (.tmp (.lst acc)) Γ2 M2) ⟨⟩ ds [] (wipeS Γ1 vs) M1
theorem rd_lc2 {wi wi1 : TI} {ai ai1 : AI} {g g1 : TG} {ag ag1 : AG} {is is1 vs vs1 : List Nat} {tt tt1 : TT} {at' at1 : AT} (hi : RdI K ρ wi ai) (hg : RdG K ρ g ag is) (hsub : ∀ j ∈ is, j ∈ vs) (ht : RdT K ρ tt at') (hi1 : RdI K ρ wi1 ai1) (hg1 : RdG K ρ g1 ag1 is1) (hsub1 : ∀ j ∈ is1, j ∈ vs1) (hvs : ∀ j ∈ vs1, j ∈ vs) (ht1 : RdT K ρ tt1 at1) (he : RdE K ρ te ae) :
    RdE K ρ (tLc2 wi g tt wi1 g1 tt1 te vs vs1) (aLc2 ai ag at' ai1 ag1 at1 ae vs vs1) := by
  intro B σ H G Γ M Q R k h q
  refine hi B σ H G Γ M _ _ k h fun J H1 G1 Γ1 M1 ds k1 e1 w h1 p hp => ?_
  obtain ⟨GG, Y, wk, hGG, hY⟩ := w.w
  obtain ⟨k1t, e1t, hm1, hn1, hb1, hg1'⟩ := k1.tmp (o := .lst []) hp
  have start : Grow K ρ B p σ H1 G1 Γ1 M1 [] [] σ (upd H1 p (.lst [])) G1 Γ1 M1 := ⟨k1t, e1t.g, e1t.tmp, e1t.nn, fun j s _ _ => by simp, ⟨[], upd_same, repL_nil.mpr rfl⟩, hg1', hm1, hn1, hb1, hp⟩
  refine turns_it wk (fun i H2 => ∃ G2 Γ2 M2 acc, Grow K ρ B p σ H1 G1 Γ1 M1 vs acc σ H2 G2 Γ2 M2 ∧ aLcO ai1 ag at' ag1 at1 ae vs vs1 (fun acc Γ2 M2 => Q (.tmp (.lst acc)) Γ2 M2) (ds.drop i) acc Γ2 M2) ?_ ?_ ?_ ?_
  · exact ⟨G1, wipeS Γ1 vs, M1, [], start.leave rfl, h1⟩
  · rintro i H2 _ ⟨G2, Γ2, M2, acc, gr, _⟩
    exact hGG H2 (gr.g.trans gr.ok.ex)
  · rintro i x H2 H2' hin ⟨G2, Γ2, M2, acc, gr, h2⟩ y
    rw [List.drop_eq_getElem_cons hin] at h2
    obtain ⟨G3, k3, e3, rp⟩ := (hY i H2 x H2' _ (List.getElem?_eq_getElem hin) (gr.g.trans gr.ok.ex) y).ok gr.ok gr.g
    have gr3 := ((gr.es k3 e3).to k3 (fun _ z => z) gr.wi).enter
    refine hg B (wipe σ vs) H2' G3 Γ2 M2 _ x _ _ gr3.ok rp h2 fun σ2 Γ3 k4 w4 o4 h4 => ⟨by rw [w4 vs hsub, wipe_wipe], ?_⟩
    have hw2 : wipe σ2 vs = wipe σ vs := by rw [w4 vs hsub, wipe_wipe]
    have gr4 : Grow K ρ B p σ H1 G1 Γ1 M1 [] acc σ2 H2' G3 Γ3 M2 := gr3.to k4 o4 fun j s _ _ => by simp
    refine ht B σ2 H2' G3 Γ3 M2 _ _ k4 h4 fun b H5 G5 Γ5 M5 k5 e5 h5 => ?_
    have gr5 := gr4.es k5 e5
    cases b with
    | false => exact ⟨G5, wipeS Γ5 vs, M5, acc, gr5.leave hw2, by simpa using h5⟩
    | true =>
      refine hi1 B σ2 H5 G5 Γ5 M5 _ _ k5 (by simpa using h5) fun J1 H6 G6 Γ6 M6 es k6 e6 w6 h6 => ?_
      obtain ⟨GG1, Y1, wk1, hGG1, hY1⟩ := w6.w
      have gr6 := gr5.es k6 e6
      refine turns_it wk1 (fun j H7 => ∃ G7 Γ7 M7 acc, Grow K ρ B p σ H1 G1 Γ1 M1 vs1 acc σ2 H7 G7 Γ7 M7 ∧ Ex G6 G7 ∧ aLcL ag1 at1 ae vs1 (fun acc' Γ4 M4 => aLcO ai1 ag at' ag1 at1 ae vs vs1 (fun acc Γ2 M2 => Q (.tmp (.lst acc)) Γ2 M2) (ds.drop (i + 1)) acc' (wipeS Γ4 vs) M4) (es.drop j) acc Γ7 M7) ?_ ?_ ?_ ?_
      · exact ⟨G6, wipeS Γ6 vs1, M6, acc, gr6.leave rfl, Ex.refl _, h6⟩
      · rintro j H7 _ ⟨G7, Γ7, M7, acc, gr7, x7, _⟩
        exact hGG1 H7 (x7.trans gr7.ok.ex)
      · rintro j x7 H7 H7' hin7 ⟨G7, Γ7, M7, acc, gr7, x7, h7⟩ y7
        rw [List.drop_eq_getElem_cons hin7] at h7
        obtain ⟨G8, k8, e8, rp8⟩ := (hY1 j H7 _ H7' _ (List.getElem?_eq_getElem hin7) (x7.trans gr7.ok.ex) y7).ok gr7.ok x7
        have gr8 := ((gr7.es k8 e8).to k8 (fun _ z => z) gr7.wi).enter
        refine hg1 B (wipe σ2 vs1) H7' G8 Γ7 M7 _ _ _ _ gr8.ok rp8 h7 fun σ3 Γ9 k9 w9 o9 h9 => ⟨by rw [w9 vs1 hsub1, wipe_wipe], ?_⟩
        have hw3 : wipe σ3 vs1 = wipe σ2 vs1 := by rw [w9 vs1 hsub1, wipe_wipe]
        have gr9 : Grow K ρ B p σ H1 G1 Γ1 M1 [] acc σ3 H7' G8 Γ9 M7 := gr8.to k9 o9 fun j s _ _ => by simp
        refine ht1 B σ3 H7' G8 Γ9 M7 _ _ k9 h9 fun b HA GA ΓA MA kA eA hA => ?_
        have grA := gr9.es kA eA
        cases b with
        | false => exact ⟨GA, wipeS ΓA vs1, MA, acc, grA.leave hw3, (x7.trans e8.g).trans eA.g, by simpa using hA⟩
        | true =>
          refine he B σ3 HA GA ΓA MA _ _ kA (by simpa using hA) fun v HB GB ΓB MB r kB eB rr hB => ?_
          obtain ⟨GC, ΓC, yv, kC, eC, rpC, hlen, hC⟩ := frz_ok (H0 := HA) kB eB rr hB
          have grC := (grA.es kC eC).leave hw3
          obtain ⟨xs, pC, raC⟩ := grC.here
          exact ⟨xs, pC, by rw [raC.length]; exact hlen, GC, wipeS ΓC vs1, MB, acc ++ [yv], grC.add pC raC rpC, ((x7.trans e8.g).trans eA.g).trans eC.g, hC⟩
      · rintro H7 ⟨G7, Γ7, M7, acc, gr7, x7, h7⟩
        rw [List.drop_length] at h7
        exact ⟨G7, wipeS Γ7 vs, M7, acc, (gr7.to gr7.ok (fun _ z => z) (fun j s _ _ => by simp) : Grow K ρ B p σ H1 G1 Γ1 M1 [] acc σ2 H7 G7 Γ7 M7).leave hw2, h7⟩
  · rintro H2 ⟨G2, Γ2, M2, acc, gr, h2⟩
    rw [List.drop_length] at h2
    obtain ⟨xs, hp2, ra2⟩ := gr.here
    exact q _ H2 G2 Γ2 M2 (.tmp (.lst acc)) gr.ok (e1.trans ⟨gr.g, gr.tmp, gr.nn⟩) ⟨p, rfl, e1.nn p hp, hb1, ⟨gr.gp, _, hp2, xs, rfl, ra2⟩, gr.mp, gr.op⟩ h2
theorem q_lc2 {elt iter iter1 : Expr} {ifs ifs1 : List Expr} {scope : Scope} {own : List (Str × Nat)} {wi wi1 : TI} {ai ai1 : AI} {g g1 : TG} {ag ag1 : AG} {is is1 vs1 : List Nat} {tt tt1 : TT} {at' at1 : AT} (own' : List (Str × Nat)) (hown : own = own') (hN : X.N.Nodup) (hi : QI X ρ tg iter wi ai) (ok : BlkOk X.N X.env.scope scope own) (hv : ∀ i ∈ vs1, i ∈ own.map (·.2))
    (hg : ∀ (s : Shared) (H : Hp) (C : Addr) (cl : List (Str × Addr)) (fp : List Addr), QG (X.blk s H scope (compEnvC scope cl C X.env) fp) ρ tg g ag is) (ht : ∀ (s : Shared) (H : Hp) (C : Addr) (cl : List (Str × Addr)) (fp : List Addr), QTs (X.blk s H scope (compEnvC scope cl C X.env) fp) ρ ifs tt at')
    (hi1 : ∀ (s : Shared) (H : Hp) (C : Addr) (cl : List (Str × Addr)) (fp : List Addr), QI (X.blk s H scope (compEnvC scope cl C X.env) fp) ρ tg1 iter1 wi1 ai1)
    (hg1 : ∀ (s : Shared) (H : Hp) (C : Addr) (cl : List (Str × Addr)) (fp : List Addr), QG (X.blk s H scope (compEnvC scope cl C X.env) fp) ρ tg1 g1 ag1 is1) (ht1 : ∀ (s : Shared) (H : Hp) (C : Addr) (cl : List (Str × Addr)) (fp : List Addr), QTs (X.blk s H scope (compEnvC scope cl C X.env) fp) ρ ifs1 tt1 at1)
    (he : ∀ (s : Shared) (H : Hp) (C : Addr) (cl : List (Str × Addr)) (fp : List Addr), QE (X.blk s H scope (compEnvC scope cl C X.env) fp) ρ elt te ae) (hsub : ∀ j ∈ is, j ∈ own.map (·.2)) (hsub1 : ∀ j ∈ is1, j ∈ vs1) (s0 : Shared) (hc : X.calm = true := by rfl) (hs : ∀ x, foldedSetIterable iter X.env x = pure x := by intro _; rfl) (hs1 : ∀ env x, foldedSetIterable iter1 env x = pure x := by intro _ _; rfl) :
    QE X ρ (.ListComp elt [⟨tg, iter, ifs, 0⟩, ⟨tg1, iter1, ifs1, 0⟩] scope pos) (tLc2 wi g tt wi1 g1 tt1 te (own.map (·.2)) vs1) (aLc2 ai ag at' ai1 ag1 at1 ae (own.map (·.2)) vs1) :=
  ⟨pe_lc2 hc hN hi.pe ok hv (fun s H C cl fp => (hg s H C cl fp).pe) (fun s H C cl fp => (ht s H C cl fp).pe) (fun s H C cl fp => (hi1 s H C cl fp).pe) (fun s H C cl fp => (hg1 s H C cl fp).pe) (fun s H C cl fp => (ht1 s H C cl fp).pe) (fun s H C cl fp => (he s H C cl fp).pe) hs hs1,
   rd_lc2 hi.rd (hg s0 X.H_0 0 [] []).rd hsub (ht s0 X.H_0 0 [] []).rd (hi1 s0 X.H_0 0 [] []).rd (hg1 s0 X.H_0 0 [] []).rd hsub1 hv (ht1 s0 X.H_0 0 [] []).rd (he s0 X.H_0 0 [] []).rd⟩
theorem q_comp2 (vs1 : List Nat) {elt iter iter1 : Expr} {ifs ifs1 : List Expr} {scope : Scope} {own : List (Str × Nat)} {wi wi1 : TI} {ai ai1 : AI} {g g1 : TG} {ag ag1 : AG} {is is1 : List Nat} {tt tt1 : TT} {at' at1 : AT} (hN : X.N.Nodup) (hi : QI X ρ tg iter wi ai) (ok : BlkOk X.N X.env.scope scope own)
    (hg : ∀ (s : Shared) (H : Hp) (C : Addr) (cl : List (Str × Addr)) (fp : List Addr), QG (X.blk s H scope (compEnvC scope cl C X.env) fp) ρ tg g ag is) (ht : ∀ (s : Shared) (H : Hp) (C : Addr) (cl : List (Str × Addr)) (fp : List Addr), QTs (X.blk s H scope (compEnvC scope cl C X.env) fp) ρ ifs tt at')
    (hi1 : ∀ (s : Shared) (H : Hp) (C : Addr) (cl : List (Str × Addr)) (fp : List Addr), QI (X.blk s H scope (compEnvC scope cl C X.env) fp) ρ tg1 iter1 wi1 ai1) (hg1 : ∀ (s : Shared) (H : Hp) (C : Addr) (cl : List (Str × Addr)) (fp : List Addr), QG (X.blk s H scope (compEnvC scope cl C X.env) fp) ρ tg1 g1 ag1 is1) (ht1 : ∀ (s : Shared) (H : Hp) (C : Addr) (cl : List (Str × Addr)) (fp : List Addr), QTs (X.blk s H scope (compEnvC scope cl C X.env) fp) ρ ifs1 tt1 at1)
    (he : ∀ (s : Shared) (H : Hp) (C : Addr) (cl : List (Str × Addr)) (fp : List Addr), QE (X.blk s H scope (compEnvC scope cl C X.env) fp) ρ elt te ae) (s0 : Shared) (hsub : ∀ j ∈ is, j ∈ own.map (·.2) := by decide) (hsub1 : ∀ j ∈ is1, j ∈ vs1 := by decide) (hv : ∀ i ∈ vs1, i ∈ own.map (·.2) := by decide) (hc : X.calm = true := by rfl) (hs : ∀ x, foldedSetIterable iter X.env x = pure x := by intro _; rfl) (hs1 : ∀ env x, foldedSetIterable iter1 env x = pure x := by intro _ _; rfl) :
    QE X ρ (.ListComp elt [⟨tg, iter, ifs, 0⟩, ⟨tg1, iter1, ifs1, 0⟩] scope pos) (tLc2 wi g tt wi1 g1 tt1 te (own.map (·.2)) vs1) (aLc2 ai ag at' ai1 ag1 at1 ae (own.map (·.2)) vs1) := ⟨pe_lc2 hc hN hi.pe ok hv (fun s H C cl fp => (hg s H C cl fp).pe) (fun s H C cl fp => (ht s H C cl fp).pe) (fun s H C cl fp => (hi1 s H C cl fp).pe) (fun s H C cl fp => (hg1 s H C cl fp).pe) (fun s H C cl fp => (ht1 s H C cl fp).pe) (fun s H C cl fp => (he s H C cl fp).pe) hs hs1, (rd_lc2 hi.rd (hg s0 X.H_0 0 [] []).rd hsub (ht s0 X.H_0 0 [] []).rd (hi1 s0 X.H_0 0 [] []).rd (hg1 s0 X.H_0 0 [] []).rd hsub1 hv (ht1 s0 X.H_0 0 [] []).rd (he s0 X.H_0 0 [] []).rd)⟩
theorem qs_setLc2 {x : Str} {pos' spos : Pos} (i : Nat) (vs1 : List Nat) {elt iter iter1 : Expr} {ifs ifs1 : List Expr} {scope : Scope} {own : List (Str × Nat)} {wi wi1 : TI} {ai ai1 : AI} {g g1 : TG} {ag ag1 : AG} {is is1 : List Nat} {tt tt1 : TT} {at' at1 : AT} (hN : X.N.Nodup) (hi : QI X ρ tg iter wi ai) (ok : BlkOk X.N X.env.scope scope own)
    (hg : ∀ (s : Shared) (H : Hp) (C : Addr) (cl : List (Str × Addr)) (fp : List Addr), QG (X.blk s H scope (compEnvC scope cl C X.env) fp) ρ tg g ag is) (ht : ∀ (s : Shared) (H : Hp) (C : Addr) (cl : List (Str × Addr)) (fp : List Addr), QTs (X.blk s H scope (compEnvC scope cl C X.env) fp) ρ ifs tt at')
    (hi1 : ∀ (s : Shared) (H : Hp) (C : Addr) (cl : List (Str × Addr)) (fp : List Addr), QI (X.blk s H scope (compEnvC scope cl C X.env) fp) ρ tg1 iter1 wi1 ai1) (hg1 : ∀ (s : Shared) (H : Hp) (C : Addr) (cl : List (Str × Addr)) (fp : List Addr), QG (X.blk s H scope (compEnvC scope cl C X.env) fp) ρ tg1 g1 ag1 is1) (ht1 : ∀ (s : Shared) (H : Hp) (C : Addr) (cl : List (Str × Addr)) (fp : List Addr), QTs (X.blk s H scope (compEnvC scope cl C X.env) fp) ρ ifs1 tt1 at1)
    (he : ∀ (s : Shared) (H : Hp) (C : Addr) (cl : List (Str × Addr)) (fp : List Addr), QE (X.blk s H scope (compEnvC scope cl C X.env) fp) ρ elt te ae) (s0 : Shared) (hsub : ∀ j ∈ is, j ∈ own.map (·.2) := by decide) (hsub1 : ∀ j ∈ is1, j ∈ vs1 := by decide) (hv : ∀ i ∈ vs1, i ∈ own.map (·.2) := by decide)
    (hy : X.N[i]? = some x := by rfl) (hyl : X.env.scope.names.lookup x = some .local := by rfl) (hsw : swapsWith (.ListComp elt [⟨tg, iter, ifs, 0⟩, ⟨tg1, iter1, ifs1, 0⟩] scope pos) (some (.Name x pos')) spos.line X.env = pure true := by exact sw_true rfl rfl rfl (by decide +kernel)) (hc : X.calm = true := by rfl) (hs : ∀ x, foldedSetIterable iter X.env x = pure x := by intro _; rfl) (hs1 : ∀ env x, foldedSetIterable iter1 env x = pure x := by intro _ _; rfl) :
    QS X ρ (.Assign [.Name x pos'] (.ListComp elt [⟨tg, iter, ifs, 0⟩, ⟨tg1, iter1, ifs1, 0⟩] scope pos) spos) (tAsg (tLc2 wi g tt wi1 g1 tt1 te (own.map (·.2)) vs1) (gName i)) (aAsg (aLc2 ai ag at' ai1 ag1 at1 ae (own.map (·.2)) vs1) i) := ⟨ps_setLc2 hc hN hy hyl hsw hi.pe ok hv (fun s H C cl fp => (hg s H C cl fp).pe) (fun s H C cl fp => (ht s H C cl fp).pe) (fun s H C cl fp => (hi1 s H C cl fp).pe) (fun s H C cl fp => (hg1 s H C cl fp).pe) (fun s H C cl fp => (ht1 s H C cl fp).pe) (fun s H C cl fp => (he s H C cl fp).pe) hs hs1, rd_asg (rd_lc2 hi.rd (hg s0 X.H_0 0 [] []).rd hsub (ht s0 X.H_0 0 [] []).rd (hi1 s0 X.H_0 0 [] []).rd (hg1 s0 X.H_0 0 [] []).rd hsub1 hv (ht1 s0 X.H_0 0 [] []).rd (he s0 X.H_0 0 [] []).rd)⟩
theorem qs_setLc2F {x : Str} {pos' spos : Pos} (i : Nat) (vs1 : List Nat) {elt iter iter1 : Expr} {ifs ifs1 : List Expr} {scope : Scope} {own : List (Str × Nat)} {wi wi1 : TI} {ai ai1 : AI} {g g1 : TG} {ag ag1 : AG} {is is1 : List Nat} {tt tt1 : TT} {at' at1 : AT} (hN : X.N.Nodup) (hi : QI X ρ tg iter wi ai) (ok : BlkOk X.N X.env.scope scope own)
    (hg : ∀ (s : Shared) (H : Hp) (C : Addr) (cl : List (Str × Addr)) (fp : List Addr), QG (X.blk s H scope (compEnvC scope cl C X.env) fp) ρ tg g ag is) (ht : ∀ (s : Shared) (H : Hp) (C : Addr) (cl : List (Str × Addr)) (fp : List Addr), QTs (X.blk s H scope (compEnvC scope cl C X.env) fp) ρ ifs tt at')
    (hi1 : ∀ (s : Shared) (H : Hp) (C : Addr) (cl : List (Str × Addr)) (fp : List Addr), QI (X.blk s H scope (compEnvC scope cl C X.env) fp) ρ tg1 iter1 wi1 ai1) (hg1 : ∀ (s : Shared) (H : Hp) (C : Addr) (cl : List (Str × Addr)) (fp : List Addr), QG (X.blk s H scope (compEnvC scope cl C X.env) fp) ρ tg1 g1 ag1 is1) (ht1 : ∀ (s : Shared) (H : Hp) (C : Addr) (cl : List (Str × Addr)) (fp : List Addr), QTs (X.blk s H scope (compEnvC scope cl C X.env) fp) ρ ifs1 tt1 at1)
    (he : ∀ (s : Shared) (H : Hp) (C : Addr) (cl : List (Str × Addr)) (fp : List Addr), QE (X.blk s H scope (compEnvC scope cl C X.env) fp) ρ elt te ae) (s0 : Shared) (hsub : ∀ j ∈ is, j ∈ own.map (·.2) := by decide) (hsub1 : ∀ j ∈ is1, j ∈ vs1 := by decide) (hv : ∀ i ∈ vs1, i ∈ own.map (·.2) := by decide)
    (hy : X.N[i]? = some x := by rfl) (hyl : X.env.scope.names.lookup x = some .local := by rfl) (hsw : swapsWith (.ListComp elt [⟨tg, iter, ifs, 0⟩, ⟨tg1, iter1, ifs1, 0⟩] scope pos) (some (.Name x pos')) spos.line X.env = pure true := by exact sw_true rfl rfl rfl (by decide +kernel)) (hc : X.calm = true := by rfl) (hs : ∀ x, foldedSetIterable iter X.env x = pure x := by intro _; rfl) (hs1 : ∀ env x, foldedSetIterable iter1 env x = pure x := by intro _ _; rfl) :
    QS X ρ (.Assign [.Name x pos'] (.ListComp elt [⟨tg, iter, ifs, 0⟩, ⟨tg1, iter1, ifs1, 0⟩] scope pos) spos) (tAsg (tLc2 wi g tt wi1 g1 tt1 te (own.map (·.2)) vs1) (gName i)) (aAsgF (aLc2 ai ag at' ai1 ag1 at1 ae (own.map (·.2)) vs1) i) := ⟨ps_setLc2 hc hN hy hyl hsw hi.pe ok hv (fun s H C cl fp => (hg s H C cl fp).pe) (fun s H C cl fp => (ht s H C cl fp).pe) (fun s H C cl fp => (hi1 s H C cl fp).pe) (fun s H C cl fp => (hg1 s H C cl fp).pe) (fun s H C cl fp => (ht1 s H C cl fp).pe) (fun s H C cl fp => (he s H C cl fp).pe) hs hs1, rd_asgF (rd_lc2 hi.rd (hg s0 X.H_0 0 [] []).rd hsub (ht s0 X.H_0 0 [] []).rd (hi1 s0 X.H_0 0 [] []).rd (hg1 s0 X.H_0 0 [] []).rd hsub1 hv (ht1 s0 X.H_0 0 [] []).rd (he s0 X.H_0 0 [] []).rd)⟩
/-! ### rows: tuples of whole numbers of one length, in order -/
def rowD (r : List Int) : D := .tup (r.map .int)
def rowsD : List D → Option (List (List Int))
  | [] => some []
  | .tup es :: ds => match intsD es, rowsD ds with
    | some r, some rs => some (r :: rs)
    | _, _ => none
  | _ :: _ => none
theorem rowsD_ok : ∀ {ds : List D} {rs : List (List Int)}, rowsD ds = some rs → ds = rs.map rowD
  | [], _, h => by cases h; rfl
  | d :: ds, rs, h => by
    cases d with
    | tup es =>
      simp only [rowsD] at h
      split at h
      · rename_i r rs' h1 h2
        cases h
        rw [List.map_cons, rowsD_ok h2, rowD, ← intsD_ok h1]
      · cases h
    | _ => simp [rowsD] at h
theorem rowsD_map (rs : List (List Int)) : rowsD (rs.map rowD) = some rs := by
  induction rs with
  | nil => rfl
  | cons r rs ih => rw [List.map_cons, rowD, rowsD, intsD_map, ih]
theorem lex_code {B : Int} : ∀ {r q : List Int}, r.length = q.length → TS.Bd B r → TS.Bd B q → (HT.lexLt r q = true ↔ TS.code B r < TS.code B q)
  | [], [], _, _, _ => by simp [HT.lexLt, TS.code]
  | x :: r, y :: q, hl, hr, hq => by
    have hl' : r.length = q.length := by simpa using hl
    rw [HT.lexLt_cons]
    by_cases e : x = y
    · subst e
      rw [if_pos rfl, lex_code hl' hr.tail hq.tail, TS.code_same hl']
    · rw [if_neg e, decide_eq_true_iff]
      constructor
      · exact fun h => TS.code_lt hl' hr.tail hq.tail h
      · intro h
        by_cases z : x < y
        · exact z
        · have := TS.code_lt hl'.symm hq.tail hr.tail (by omega : y < x)
          omega
theorem code_inj {B : Int} {r q : List Int} (hl : r.length = q.length) (hr : TS.Bd B r) (hq : TS.Bd B q) (h : TS.code B r = TS.code B q) : r = q := by
  induction r generalizing q with
  | nil => cases q with
    | nil => rfl
    | cons _ _ => simp at hl
  | cons x r ih => cases q with
    | nil => simp at hl
    | cons y q =>
      have hl' : r.length = q.length := by simpa using hl
      have e : x = y := by
        rcases Int.lt_trichotomy x y with c | c | c
        · have := TS.code_lt hl' hr.tail hq.tail c; omega
        · exact c
        · have := TS.code_lt hl'.symm hq.tail hr.tail c; omega
      subst e
      congr 1
      refine ih hl' hr.tail hq.tail ?_
      have a1 := TS.code_same (B := B) (d := x) hl'
      have a2 := TS.code_same (B := B) (d := x) hl'.symm
      have n1 : ¬ TS.code B r < TS.code B q := fun z => by have := a1.mpr z; omega
      have n2 : ¬ TS.code B q < TS.code B r := fun z => by have := a2.mpr z; omega
      omega
end
section
variable {prog : Program} {w : World} {A : Around} {E : Value → Shared → Prop} {s : Shared}
theorem perm_few {α : Type} {xs ys : List α} (h : xs.Perm ys) (l : ys.length ≤ 1) : xs = ys := by
  match ys, l with
  | [], _ => exact List.Perm.eq_nil h
  | [y], _ => exact List.perm_singleton.mp h
/-- a list of one or none is sorted as it stands -/
theorem sort_few {a : Addr} {vs : List Value} {n : Nat} {Q : Value → Shared → Prop} (ho : s.heap.get? a = some (seqObj "list" vs.toArray n)) (l : vs.length ≤ 1) (h : ∀ out : Array Value, out.toList = vs → Q .none { s with heap := sortedHeap s.heap a vs out }) :
    wpAny (model prog w) A (call (.builtin "list.sort") [.ref a]) Q E s :=
  wpAny_call_entry slot_list_sort ⟨_, ho, rfl⟩ entry_list_sort (SK.plain_sort (r := fun _ => 0) ho (by omega) (fun z => absurd z (by omega)) fun ps out h1 h2 h3 => ⟨_, rfl, h out (perm_few (TS.out_rank (r := fun _ => 0) h1 h2 h3).1 l)⟩) (args_list_sort _)
theorem sorted_few {a : Addr} {L : List (Addr × List Int)} {es : Array (Int × Value)} {ep : Nat} {t : SetTable} {Q : Value → Shared → Prop} (R : SetTR prog w s.heap a L es ep t) (hh : A.handled = none) (l : L.length ≤ 1)
    (hQ : ∀ s' p (out : Array Value) (c : Nat), (∀ b o, s.heap.get? b = some o → s'.heap.get? b = some o) → s'.gens = s.gens → s'.os = s.os → s.heap.objs.size ≤ p → s'.heap.get? p = some (seqObj "list" out c) → out.toList = L.map (fun q => Value.ref q.1) → Q (.ref p) s') :
    wpAny (model prog w) A (call (.builtin "sorted") [.ref a]) Q E s := by
  obtain ⟨o, ho, hex, hd⟩ := R.ob
  have rows : es.toList.map (·.2) = L.map fun q => Value.ref q.1 := by rw [R.rows]; unfold rowsOf; rw [List.map_map]; rfl
  refine Calls.call_function_entry kind_sorted plain_sorted entry_sorted (args_sorted1 _) ?_
  unfold Builtin.«sorted»
  refine wpAny_bind (m := checkCount "sorted" 1 1 _) (wpAny_pure (wpAny_bind (collect_set (A := A.in1) hh ⟨o, ho, hex.1, hd⟩ R.fits (by have := R.size; have := R.few; unfold scanBound; omega) R.tab.ris R.led fun s1 vs k1 hz g1 o1 pm => ?_)))
  have ev : vs = L.map fun q => Value.ref q.1 := by rw [← rows]; exact perm_few pm (by rw [rows, List.length_map]; exact l)
  have lv : vs.length ≤ 1 := by rw [ev, List.length_map]; exact l
  have top : (s1.heap.push (seqObj "list" vs.toArray 0)).get? s1.heap.objs.size = some (seqObj "list" vs.toArray 0) := Heap.get?_push_size _ rfl
  refine wpAny_bind (wpAny_newList (wpAny_bind (wpAny_holding (sort_few (s := { s1 with heap := s1.heap.push (seqObj "list" vs.toArray 0) }) top lv fun out eo => ?_))) (by rw [sizeLine_eq]; omega))
  obtain ⟨c, hc⟩ := sortedHeap_at (vs := vs) (out := out) top
  refine wpAny_pure ⟨_, rfl, hQ _ s1.heap.objs.size out c (fun b u e => ?_) g1 o1 hz hc (eo.trans ev)⟩
  have lt := Heap.lt_size (k1 b u e)
  show (sortedHeap (s1.heap.push (seqObj "list" vs.toArray 0)) s1.heap.objs.size vs out).get? b = some u
  rw [sortedHeap_old (Nat.ne_of_lt lt) (by rw [size_push']; exact Nat.lt_succ_of_lt lt)]
  exact Heap.get?_push_of_some _ (k1 b u e)
end
section
variable {X : Cx} {a : Expr} {ta : TE} {aa : AE} {pos : Pos} {K : PySem.W.Frag}
/-- sorted of a set of rows: of length nought, or as the library has it -/
def rSortRows (K : PySem.W.Frag) (P : Program) (w : World) : List V → Hp → VK → Prop := fun vs H Q => rSortedT K P w vs H Q ∨
  ∃ (a : Addr) (L : List (Addr × List Int)), vs = [V.ref a] ∧ H a = some (SetTO P w a L) ∧ (∀ p ∈ L, SqT K H p.1 (p.2.map V.int)) ∧ (∀ p ∈ L, p.2 = []) ∧ ∀ p, H p = none → L.length ≤ 1 → Q (.ref p) (upd H p (.lst (L.map fun q => V.ref q.1)))
theorem cr_sortRows (hc : X.calm = true) : CallR X (.builtin "sorted") (rSortRows X.K X.prog X.w) := by
  intro pins s σ H vs us Q I r h
  rcases h with h | ⟨a, L, rfl, ha, hk, hn, q⟩
  · exact cr_sortedT hc pins s σ H vs us Q I r h
  · have R0 : SetT0 X.prog X.w s.heap a L := (I.hok a _ ha).1
    obtain ⟨es, ep, t, R⟩ := R0.full fun p hp => I.isT (hk p hp)
    have l1 : L.length ≤ 1 := by
      match L, hn, R.nd with
      | [], _, _ => exact Nat.zero_le _
      | [_], _, _ => exact Nat.le_refl _
      | x :: y :: _, hn, nd =>
        have e1 := hn x List.mem_cons_self
        have e2 := hn y (List.mem_cons_of_mem _ List.mem_cons_self)
        simp [e1, e2] at nd
    rw [Vals.ref1 r]
    refine sorted_few R (I.ok.hd hc) l1 fun s' p out c k g o hp hg hout => ?_
    have hz : (L.map fun q => V.ref q.1).length ≤ sizeLine := by rw [List.length_map, sizeLine_eq]; omega
    have hn' : H p = none := I.hok.fresh hp
    have J : Inv X pins σ (upd H p (.lst (L.map fun q => V.ref q.1))) { s with heap := s'.heap, gens := s'.gens, drawn := s'.drawn, toks := s'.toks } :=
      I.call (ch := []) (Un.laid k hp hn') (I.hok.laid k hp ⟨hz, out.toList, c, by rw [hout]; exact vals_of_refs L, hg⟩) (by rw [g]; exact I.bare) fun _ z => nomatch z
    obtain ⟨h', g', d', tk', os'⟩ := s'
    cases (show os' = s.os from o)
    exact ⟨.ref p, _, J, rfl, q p hn' l1⟩
def aSortRows (r : Ret) (Γ : Sl) (M : Mem) (Q : Ret → Sl → Mem → Prop) : Prop := match sqOf r Γ M with
  | some (.lst ds) => match rowsD ds with
    | some rs => (rs.length < 64 ∧ ∃ n, ∀ r ∈ rs, r.length = n ∧ TS.Bd 64 r) ∧ ∀ os : List (List Int), os.Pairwise (fun r q => HT.lexLt r q = true) → (∀ r, r ∈ os ↔ r ∈ rs) → Q (.tmp (.lst (os.map rowD))) Γ M
    | none => False
  | _ => False
theorem rep_rows {G : Hp} : ∀ {rs : List (List Int)} {vs : List V}, RepL K G (rs.map rowD) vs → ∃ ks : List (Addr × List Int), vs = ks.map (fun p => V.ref p.1) ∧ ks.map (·.2) = rs ∧ ∀ p ∈ ks, SqT K G p.1 (p.2.map V.int) := by
  intro rs
  induction rs with
  | nil => intro vs h; exact ⟨[], repL_nil.mp h, rfl, by simp⟩
  | cons r rs ih =>
    intro vs h
    obtain ⟨v, vt, rfl, h1, h2⟩ := repL_cons.mp h
    obtain ⟨ks, rfl, rfl, h3⟩ := ih h2
    obtain ⟨p, xs, rfl, hp, rl⟩ := rep_tup.mp h1
    rw [repL_map_int.mp rl] at hp
    exact ⟨(p, r) :: ks, rfl, rfl, fun q hq => by
      rcases List.mem_cons.mp hq with rfl | hq
      · exact hp
      · exact h3 q hq⟩
theorem rows_rep {G : Hp} : ∀ {ks : List (Addr × List Int)}, (∀ p ∈ ks, SqT K G p.1 (p.2.map V.int)) → RepL K G ((ks.map (·.2)).map rowD) (ks.map fun p => V.ref p.1)
  | [], _ => repL_nil.mpr rfl
  | p :: ks, h => repL_cons.mpr ⟨_, _, rfl, rep_tup.mpr ⟨p.1, _, rfl, h p List.mem_cons_self, repL_map_int.mpr rfl⟩, rows_rep fun q hq => h q (List.mem_cons_of_mem _ hq)⟩
theorem q_sortRows {P : Program} {w : World} {p p2 pos2 : Pos} (hm : X.mg "sorted" = none) (hm2 : X.mg "set" = none) (hu : X.A.units + 64 < cLine) (ha : QE X ρ a ta aa) (hc : X.calm = true := by rfl) (hg : Gl X "sorted" := by rfl) (hg2 : Gl X "set" := by rfl)
    (na : starEach [a] X.env = (false, eval a X.env) :: starEach [] X.env := by rfl) (na2 : starEach [.Call (.Name "set" p2) [a] [] pos2] X.env = (false, eval (.Call (.Name "set" p2) [a] [] pos2) X.env) :: starEach [] X.env := by rfl) (hK : X.K = K := by rfl) (hP : X.prog = P := by rfl) (hW : X.w = w := by rfl) :
    QE X ρ (.Call (.Name "sorted" p) [.Call (.Name "set" p2) [a] [] pos2] [] pos) (tCB (rSortRows K P w) (tCons (tCB (rSetOfT K P w) (tCons ta tNil)) tNil)) (aCall1 aSortRows aa) := by
  subst hK; subst hW; subst hP
  refine ⟨pe_callB (cr_sortRows hc) hg hm (by decide +kernel) (pa_cons (pe_callTy (cr_setOfT hc hu) hg2 hm2 (by decide +kernel) (pa_cons ha.pe pa_nil na) (by decide) (by decide) na) pa_nil na2) (by decide) (by decide) na2, ?_⟩
  intro B σ H G Γ M Q R k h q
  refine ha.rd B σ H G Γ M _ _ k h fun v H1 G1 Γ1 M1 r k1 e1 rr h1 => ?_
  unfold aSortRows at h1
  split at h1
  · rename_i ds hs
    split at h1
    · rename_i rs hr
      obtain ⟨⟨few, n, hn⟩, h1⟩ := h1
      obtain ⟨l, xs, ev, hl, rl⟩ := sqOf_ok k1 rr hs
      rw [rowsD_ok hr] at rl
      obtain ⟨ks, rfl, rfl, hk⟩ := rep_rows rl
      rw [List.length_map] at few
      have hn' : ∀ p ∈ ks, p.2.length = n ∧ TS.Bd 64 p.2 := fun p hp => hn p.2 (List.mem_map.mpr ⟨p, hp, rfl⟩)
      refine ⟨l, ks, by rw [ev], SqL.of hl, fun p hp => ex_t k1.ex (hk p hp), few, fun p0 L hp0 sub all => ?_⟩
      obtain ⟨k2, e2, _⟩ := k1.tmp (o := SetTO X.prog X.w p0 L) hp0
      have hkL : ∀ p ∈ L, SqT X.K G1 p.1 (p.2.map V.int) := fun p hp => hk p (sub p hp)
      have mem : ∀ r, r ∈ L.map (·.2) ↔ r ∈ ks.map (·.2) := fun r => by
        constructor
        · intro hr
          obtain ⟨p, hp, rfl⟩ := List.mem_map.mp hr
          exact List.mem_map.mpr ⟨p, sub p hp, rfl⟩
        · intro hr
          obtain ⟨p, hp, rfl⟩ := List.mem_map.mp hr
          exact all p hp
      have fin : ∀ (L' : List (Addr × List Int)) (p1 : Addr), upd H1 p0 (SetTO X.prog X.w p0 L) p1 = none → (∀ p ∈ L', p ∈ L) → (L'.map (·.2)).Pairwise (fun r q => HT.lexLt r q = true) → (∀ r, r ∈ L'.map (·.2) ↔ r ∈ L.map (·.2)) → R (.ref p1) (upd (upd H1 p0 (SetTO X.prog X.w p0 L)) p1 (.lst (L'.map fun q => V.ref q.1))) := fun L' p1 hp1 s' pw m' =>
        (q.es (e1.trans e2)).newL k2 (rows_rep fun p hp => hkL p (s' p hp)) (h1 _ pw fun r => (m' r).trans (mem r)) p1 hp1
      by_cases hz : n = 0
      · refine .inr ⟨p0, L, rfl, upd_same, fun p hp => ex_t k2.ex (hkL p hp), fun p hp => List.length_eq_zero_iff.mp ((hn' p (sub p hp)).1.trans hz), fun p1 hp1 l1 => fin L p1 hp1 (fun _ h => h) ?_ fun _ => Iff.rfl⟩
        match L, l1 with
        | [], _ => exact .nil
        | [x], _ => exact List.pairwise_singleton _ _
      · refine .inl ⟨p0, L, n, 64, rfl, upd_same, fun p hp => ex_t k2.ex (hkL p hp), by omega, fun p hp => hn' p (sub p hp), fun L' p1 pm nd _ pw hp1 => fin L' p1 hp1 (fun p hp => pm.mem_iff.mp hp) ?_ fun r => (pm.map (·.2)).mem_iff⟩
        rw [List.pairwise_map]
        have nd' := List.pairwise_map.mp nd
        refine (pw.and nd').imp_of_mem fun {x y} hx hy ⟨le, ne⟩ => ?_
        have bx := hn' x (sub x (pm.mem_iff.mp hx))
        have bY := hn' y (sub y (pm.mem_iff.mp hy))
        have hl : x.2.length = y.2.length := bx.1.trans bY.1.symm
        refine (lex_code hl bx.2 bY.2).mpr ?_
        have : TS.code 64 x.2 ≠ TS.code 64 y.2 := fun e => ne (code_inj hl bx.2 bY.2 e)
        omega
    · exact h1.elim
  · exact h1.elim
end
def e_aLc2 := @aLc2.eq_def
def e_aSortRows := @aSortRows.eq_def
end Gw

/-! dicts whose keys are rows (tuples of whole numbers), one level below the abstract states -/
namespace Gw
open PySem L2 PyProof.Rows
abbrev RK (P : Program) (w : World) : HeapKind P w (List Int) := tupleKind (intKind P w)
theorem hash_row (P : Program) (w : World) (r : List Int) : (RK P w).hash r = hashRow r := rfl
theorem DcT.at {h h' : Heap} {a : Addr} {L : List RE} (t : DcT h a L) (k : ∀ o, h.get? a = some o → h'.get? a = some o) : DcT h' a L := by
  obtain ⟨xs, pr, o, es, ep, ho, r⟩ := t.ex
  exact ⟨⟨xs, pr, o, es, ep, k o ho, r⟩, t.few, t.sys⟩
theorem dcO_ok {P : Program} {w : World} {H : Hp} {h : Heap} {a : Addr} {L : List RE} (t : DcT h a L) : ObjOk P w H h a (DcO a L) := by
  refine ⟨t, ?_, fun h1 h2 p k => DcT.at p k⟩
  obtain ⟨xs, pr, o, es, ep, ho, r⟩ := t.ex
  exact ⟨o, ho⟩
def getR : List RE → List Int → Option V
  | [], _ => none
  | p :: L, k => if p.1 = k then some p.2.2 else getR L k
def putR : List RE → List Int → Addr → V → List RE
  | [], k, b, v => [(k, b, v)]
  | p :: L, k, b, v => if p.1 = k then (p.1, p.2.1, v) :: L else p :: putR L k b v
theorem getR_val {L : List RE} {xs : List REv} (pr : Paired ReIs L xs) (k : List Int) : RelO (getR L k) ((atKey xs k).map (·.2)) := by
  induction pr with
  | nil => exact True.intro
  | @cons p q L xs h _ ih =>
    obtain ⟨h1, _, h3⟩ := h
    by_cases e : p.1 = k
    · have e' : q.1 = k := h1 ▸ e
      simp only [getR, e, if_true, atKey, List.find?_cons, e', decide_true, Option.map_some]
      exact h3
    · have e' : ¬ q.1 = k := h1 ▸ e
      have g : getR (p :: L) k = getR L k := by simp only [getR, e, if_false]
      have a : atKey (q :: xs) k = atKey xs k := by simp only [atKey, List.find?_cons, e', decide_false]
      rw [g, a]
      exact ih
theorem map_putAt {k : List Int} {v : Value} : ∀ {xs : List REv}, k ∉ xs.map (·.1) → xs.map (putAt k v) = xs
  | [], _ => rfl
  | x :: xs, h => by
    simp only [List.map_cons, List.mem_cons, not_or] at h
    rw [List.map_cons, map_putAt h.2, putAt, if_neg (fun e => h.1 e.symm)]
theorem at_none {k : List Int} : ∀ {xs : List REv}, atKey xs k = none ↔ k ∉ xs.map (·.1)
  | [] => by simp [atKey]
  | x :: xs => by
    by_cases e : x.1 = k
    · simp [atKey, e]
    · have : atKey (x :: xs) k = atKey xs k := by simp only [atKey, List.find?_cons, e, decide_false]
      rw [this, at_none, List.map_cons, List.mem_cons, not_or]
      exact ⟨fun h => ⟨fun z => e z.symm, h⟩, fun h => h.2⟩
theorem stored_cons {k : List Int} {b : Addr} {v : Value} {x : REv} {xs : List REv} (nd : ((x :: xs).map (·.1)).Nodup) : storedH (x :: xs) k b v = if x.1 = k then (x.1, x.2.1, v) :: xs else x :: storedH xs k b v := by
  rw [List.map_cons, List.nodup_cons] at nd
  by_cases e : x.1 = k
  · have a : atKey (x :: xs) k = some x.2 := by simp only [atKey, List.find?_cons, e, decide_true, Option.map_some]
    rw [storedH_old a, List.map_cons, putAt, if_pos e, if_pos e, map_putAt (e ▸ nd.1)]
  · have a : atKey (x :: xs) k = atKey xs k := by simp only [atKey, List.find?_cons, e, decide_false]
    rw [if_neg e]
    unfold storedH
    rw [a]
    split
    · rw [List.map_cons, putAt, if_neg e]
    · rfl
theorem putR_val {L : List RE} {xs : List REv} (pr : Paired ReIs L xs) {k : List Int} {b : Addr} {v : V} {u : Value} (rv : RelV v u) (nd : (xs.map (·.1)).Nodup) : Paired ReIs (putR L k b v) (storedH xs k b u) := by
  induction pr with
  | nil => exact .cons ⟨rfl, rfl, rv⟩ .nil
  | @cons p q L xs h t ih =>
    rw [stored_cons nd]
    rw [List.map_cons, List.nodup_cons] at nd
    obtain ⟨h1, h2, h3⟩ := h
    by_cases e : p.1 = k
    · have e' : q.1 = k := h1 ▸ e
      simp only [putR, e, if_true, e']
      exact .cons ⟨rfl, h2, rv⟩ t
    · have e' : ¬ q.1 = k := h1 ▸ e
      simp only [putR, e, if_false, e']
      exact .cons ⟨h1, h2, h3⟩ (ih nd.2)
theorem putR_len {k : List Int} {b : Addr} {v : V} : ∀ {L : List RE}, (putR L k b v).length ≤ L.length + 1
  | [] => Nat.le_refl _
  | p :: L => by
    unfold putR
    split
    · simp
    · have := putR_len (k := k) (b := b) (v := v) (L := L)
      simp only [List.length_cons]; omega
section
variable {X : Cx} {o i e f value : Expr} {pos pos' apos cpos : Pos} {td ty tv tx : TE} {pins : List (Addr × Obj)} {σ : L2.St} {H : Hp} {s : Shared} {a : Addr} {L : List RE} {K : PySem.W.Frag}
theorem dc_rd (I : Inv X pins σ H s) (d : Rd H a (DcO a L)) (hk : KeyR X.K H L) : DcT s.heap a L ∧ ∃ xs, Paired ReIs L xs ∧ s.heap.DictOfH (RK X.prog X.w) a xs := by
  have t : DcT s.heap a L := (show ObjOk X.prog X.w H s.heap a (DcO a L) from d.ok I.hok).1
  obtain ⟨xs, pr, o, es, ep, ho, hx, hd, he, nd⟩ := t.ex
  refine ⟨t, xs, pr, o, es, ep, ho, hx, hd, he, fun x hx => ?_, nd⟩
  have all : ∀ {L : List RE} {xs : List REv}, Paired ReIs L xs → KeyR X.K H L → ∀ x ∈ xs, (RK X.prog X.w).is s.heap x.1 x.2.1 := by
    intro L xs pr
    induction pr with
    | nil => intro _ x hx; cases hx
    | @cons p q L xs h _ ih =>
      intro hk x hx
      rcases List.mem_cons.mp hx with rfl | hx
      · have := I.isT (hk p List.mem_cons_self)
        rw [h.1, h.2.1] at this
        exact this
      · exact ih (fun p hp => hk p (List.mem_cons_of_mem _ hp)) x hx
  exact all pr hk x hx
theorem dc_dict (I : Inv X pins σ H s) (d : Rd H a (DcO a L)) : s.TypeIs (.ref a) "dict" ∧ ∀ b, Value.ref a = .ref b → ∃ ob, s.heap.get? b = some ob ∧ ob.dict = none := by
  have t : DcT s.heap a L := (show ObjOk X.prog X.w H s.heap a (DcO a L) from d.ok I.hok).1
  obtain ⟨xs, pr, o, es, ep, ho, hx, hd, he, nd⟩ := t.ex
  exact ⟨⟨o, ho, hx.1⟩, fun b e => by cases e; exact ⟨o, ho, hx.2.1⟩⟩
/-! ### {} -/
def tRNew : TE := fun _ H Q => ∀ p, H p = none → Q (.ref p) (upd H p (DcO p []))
theorem pe_rnew : PE X (.Dict [] [] pos) tRNew := ⟨fun pins s σ H Q I h => wpAny_Dict_empty
  ⟨.ref s.heap.objs.size, _, I.laid (a := s.heap.objs.size) (o := DcO s.heap.objs.size []) (t' := s.toks) (fun _ _ q => Heap.get?_push_of_some _ q) (Nat.le_refl _)
    (dcO_ok ⟨⟨[], .nil, _, #[], 0, Heap.get?_push_size _ rfl, ⟨rfl, rfl, rfl⟩, rfl, rfl, List.nodup_nil⟩, Nat.zero_le _, beq_eq_false_iff_ne.mpr (Ne.symm (Nat.ne_of_lt I.big))⟩), rfl, h _ (I.hok.fresh (Nat.le_refl _))⟩⟩
/-! ### d[k] -/
def tRGet (K : PySem.W.Frag) (td ty : TE) : TE := fun σ H Q => td σ H fun x H1 => ty σ H1 fun y H2 => ∃ a L k b v, x = .ref a ∧ y = .ref b ∧ Rd H2 a (DcO a L) ∧ KeyR K H2 L ∧ SqT K H2 b (k.map V.int) ∧ getR L k = some v ∧ Q v H2
theorem pe_rget (hu : X.A.units + 1 < cLine) (ho : PE X o td) (hi : PE X i ty) (hs : NoSl i) : PE X (.Subscript o i pos) (tRGet X.K td ty) := ⟨fun pins s σ H Q I h => by
  refine subD_of PySem.F.slot_dict_getitem.lookup hs (thn (ho.run pins s σ H _ I h) fun u s1 ⟨x, H1, I1, rx, q1⟩ => thn (hi.run pins s1 σ H1 _ I1 q1) fun iv s2 ⟨y, H2, I2, ry, a, L, k, b, v, ex, ey, d, hk, hb, g, q2⟩ => ?_)
  subst ex; subst ey
  cases rx; cases ry
  obtain ⟨t, xs, pr, dd⟩ := dc_rd I2 d hk
  obtain ⟨u', hu', ru⟩ := RelO.some_of (v := v) (o := (atKey xs k).map (·.2)) (by rw [← g]; exact getR_val pr k)
  obtain ⟨p, hp, rfl⟩ := Option.map_eq_some_iff.mp hu'
  exact ⟨(dc_dict I2 d).1, wpAny_getItem_heap (tupleKind_room_in1 hu) (I2.isT hb) dd hp ⟨v, H2, I2.tok _, ru, q2⟩⟩⟩
/-! ### d.get(k, x) -/
def tRGet2 (K : PySem.W.Frag) (td ty tx : TE) : TE := fun σ H Q => td σ H fun x H1 => ∃ a L0, x = .ref a ∧ Rd H1 a (DcO a L0) ∧ ty σ H1 fun y H2 => tx σ H2 fun z H3 => ∃ L k b, y = .ref b ∧ Rd H3 a (DcO a L) ∧ KeyR K H3 L ∧ SqT K H3 b (k.map V.int) ∧ Q ((getR L k).getD z) H3
theorem pe_rget2 (hu : X.A.units + 1 < cLine) (ho : PE X o td) (he : PE X e ty) (hf : PE X f tx) (m : M2 X o "get" apos e f cpos) : PE X (.Call (.Attribute o "get" apos) [e, f] [] cpos) (tRGet2 X.K td ty tx) := ⟨fun pins s σ H Q I h => by
  refine wpAny_Call_method m.base m.few m.line PySem.F.plainAttrs_dict PySem.F.slot_dict_get PySem.F.type_dict_get (thn (ho.run pins s σ H _ I h) fun u s1 ⟨x, H1, I1, rx, a, L0, ex, d0, q1⟩ => ?_)
  subst ex
  cases rx
  refine ⟨(dc_dict I1 d0).1, (dc_dict I1 d0).2, ?_⟩
  rw [m.trees]
  refine Calls.callWith_builtin rfl (Calls.evalArgs_plain (Calls.spliced_cons (thn (he.run pins s1 σ H1 _ I1 q1) fun iv s2 ⟨y, H2, I2, ry, q2⟩ =>
    Calls.spliced_cons (thn (hf.run pins s2 σ H2 _ I2 q2) fun fv s3 ⟨z, H3, I3, rz, L, k, b, ey, d, hk, hb, q3⟩ => Calls.spliced_nil ?_))))
  subst ey
  cases ry
  obtain ⟨t, xs, pr, dd⟩ := dc_rd I3 d hk
  refine call_meetsIn PySem.F.slot_dict_get dd.typeIs PySem.F.entry_dict_get (PySem.F.args_dict_get_3 _ _ _) (meetsH_dict_get_default (RK X.prog X.w) a b t.sys fv) ⟨tupleKind_room_in1 hu, k, xs, I3.isT hb, dd, ?_⟩
  exact ⟨_, H3, I3.tok _, (getR_val pr k).getD rz, q3⟩⟩
/-! ### k in d -/
def tRIn (K : PySem.W.Frag) (f : Bool → Bool) (ty td : TE) : TE := fun σ H Q => ty σ H fun y H1 => td σ H1 fun x H2 => ∃ a L k b, x = .ref a ∧ y = .ref b ∧ Rd H2 a (DcO a L) ∧ KeyR K H2 L ∧ SqT K H2 b (k.map V.int) ∧ Q (.bl (f (getR L k).isSome)) H2
theorem pc_rin (hu : X.A.units + 1 < cLine) (hi : PE X i ty) (ho : PE X o td) : PC X .In i o (tRIn X.K id ty td) := ⟨fun pins s σ H Q I h => by
  refine thn (hi.run pins s σ H _ I h) fun iv s1 ⟨y, H1, I1, ry, q1⟩ => thn (ho.run pins s1 σ H1 _ I1 q1) fun u s2 ⟨x, H2, I2, rx, a, L, k, b, ex, ey, d, hk, hb, q2⟩ => ?_
  subst ex; subst ey
  cases rx; cases ry
  obtain ⟨t, xs, pr, dd⟩ := dc_rd I2 d hk
  have e : (getR L k).isSome = (atKey xs k).isSome := by have := (getR_val pr k).isSome_eq; rwa [Option.isSome_map] at this
  exact wpAny_in_heap (tupleKind_room_in1 hu) (I2.isT hb) t.sys dd ⟨_, H2, I2.tok _, by rw [← e]; rfl, q2⟩⟩
theorem pc_rnotin (hu : X.A.units + 1 < cLine) (hi : PE X i ty) (ho : PE X o td) : PC X .NotIn i o (tRIn X.K not ty td) := ⟨fun pins s σ H Q I h => by
  refine thn (hi.run pins s σ H _ I h) fun iv s1 ⟨y, H1, I1, ry, q1⟩ => thn (ho.run pins s1 σ H1 _ I1 q1) fun u s2 ⟨x, H2, I2, rx, a, L, k, b, ex, ey, d, hk, hb, q2⟩ => ?_
  subst ex; subst ey
  cases rx; cases ry
  obtain ⟨t, xs, pr, dd⟩ := dc_rd I2 d hk
  have e : (getR L k).isSome = (atKey xs k).isSome := by have := (getR_val pr k).isSome_eq; rwa [Option.isSome_map] at this
  exact wpAny_notIn_heap (tupleKind_room_in1 hu) (I2.isT hb) t.sys dd ⟨_, H2, I2.tok _, by rw [← e]; rfl, q2⟩⟩
/-! ### d[k] = v -/
def sRPut (K : PySem.W.Frag) (td ty tv : TE) : TS := fun D σ H => tv σ H fun v H1 => td σ H1 fun x H2 => ty σ H2 fun y H3 => ∃ a L k b, x = .ref a ∧ y = .ref b ∧ H3 a = some (DcO a L) ∧ KeyR K H3 L ∧ SqT K H3 b (k.map V.int) ∧ L.length < sizeLine ∧ D.nx σ (upd H3 a (DcO a (putR L k b v)))
theorem ps_rput (hu : X.A.units + 1 < cLine) (ho : PE X o td) (hi : PE X i ty) (hv : PE X value tv) (hs : swapsWith value (some (.Subscript o i pos')) pos.line X.env = pure false) :
    PS X (.Assign [.Subscript o i pos'] value pos) (sRPut X.K td ty tv) := ⟨fun pins s σ H D I h => by
  refine wpAny_Assign_Subscript (thn (hv.run pins s σ H _ I h) fun r s1 ⟨v, H1, I1, rv, q1⟩ => thn (ho.run pins s1 σ H1 _ I1 q1) fun u s2 ⟨x, H2, I2, rx, q2⟩ => thn (hi.run pins s2 σ H2 _ I2 q2) fun iv s3 ⟨y, H3, I3, ry, a, L, k, b, ex, ey, d, hk, hb, hl, q3⟩ => ?_) hs
  subst ex; subst ey
  cases rx; cases ry
  obtain ⟨t, xs, pr, dd⟩ := dc_rd I3 (.inl d) hk
  have hz : xs.length ≤ sizeLine := by rw [← Paired.length pr]; exact t.few
  have nd : (xs.map (·.1)).Nodup := let ⟨_, _, _, _, _, _, _, _, n⟩ := dd; n
  refine wpAny_setItem_heap (hsz := hz) (tupleKind_room_in1 hu) (I3.isT hb) dd fun h' dd' sb => ⟨σ, _, d_write I3 (by rw [d]; exact True.intro) sb ?_ ?_, q3⟩
  · obtain ⟨o', _, _, ho', _⟩ := dd'; exact ⟨o', ho'⟩
  · obtain ⟨o', es, ep, h1, h2, h3, h4, _, h5⟩ := dd'
    exact dcO_ok ⟨⟨_, putR_val pr rv nd, o', es, ep, h1, h2, h3, h4, h5⟩, Nat.le_trans putR_len hl, t.sys⟩⟩
/-! ### for k, v in d.items() -/
def ItR (d : Addr) (o : Obj) (L : List RE) : It where
  go i H := H d = some (.frz o (DcO d L)) ∧ i < L.length
  yld i H x H' := ∃ T k b v, L[i]? = some (k, b, v) ∧ x = .ref T ∧ H T = none ∧ H' = upd H T (.tup [.ref b, v])
  stop i H := H d = some (.frz o (DcO d L)) ∧ L.length ≤ i
theorem dc_lock {d : Addr} {ob : Obj} (I : Inv X pins σ H s) (h : H d = some (.frz ob (DcO d L))) : (d == sysModules) = false ∧ ∃ xs es ep, s.heap.get? d = some ob ∧ ob.ExactDict ∧ ob.data = .dict es ep ∧ es.toList = xs.map entR ∧ Paired ReIs L xs := by
  obtain ⟨h1, t, _⟩ := (show ObjOk X.prog X.w H s.heap d (.frz ob (DcO d L)) from I.hok d _ h)
  have t : DcT s.heap d L := t
  obtain ⟨xs, pr, o', es, ep, ho, hx, hd, he, _⟩ := t.ex
  rw [h1] at ho
  cases ho
  exact ⟨t.sys, xs, es, ep, h1, hx, hd, he, pr⟩
theorem paired_at {xs : List REv} (pr : Paired ReIs L xs) {j : Nat} {p : RE} (h : L[j]? = some p) : ∃ q, xs[j]? = some q ∧ ReIs p q := by
  induction pr generalizing j with
  | nil => cases h
  | @cons p' q' L xs hh _ ih => cases j with
    | zero => cases h; exact ⟨q', rfl, hh⟩
    | succ j => exact ih h
theorem turn_rows {P : Program} {w : World} {d it : Addr} {ob : Obj} {es : Array DictEntry} {ep : Nat} {elts : List Expr} {kk : Nat} {tpos : Pos} (hod : ob.data = .dict es ep) :
    Turn P w K (.Tuple elts kk tpos) (ItR d ob L) [it] it (fun i h => ∃ ok ov, IsItemIter h it d i L.length ep ok ov) where
  mem := List.mem_singleton_self it
  obj := fun i h ⟨ok, ov, e⟩ b hb => by
    cases List.mem_singleton.mp hb
    exact ⟨_, e, fun v z => nomatch z⟩
  keep := fun i h h' ⟨ok, ov, e⟩ k => ⟨ok, ov, k it (List.mem_singleton_self it) _ e⟩
  item := by
    intro X hP hw hK hc i pins s σ H E I hf ⟨ok, ov, st⟩ ⟨hd, hi⟩
    subst hP; subst hw; subst hK
    obtain ⟨sys, xs, es', ep', hg, hx, hdt, he, pr⟩ := dc_lock I hd
    rw [hod] at hdt
    cases hdt
    have sz : es.size = L.length := by rw [← Array.length_toList, he, List.length_map, Paired.length pr]
    obtain ⟨q, hq, hk, hb, hv⟩ := paired_at pr (List.getElem?_eq_getElem hi)
    have ent : es[i]'(by omega) = entR q := by
      have : es.toList[i]? = some (entR q) := by rw [he, List.getElem?_map, hq]; rfl
      rw [Array.getElem?_toList] at this
      exact Array.getElem_eq_iff.mpr this
    have lt : it < s.heap.objs.size := Heap.lt_size st
    rw [← sz] at st
    refine DT.nextI st ⟨ob, hg, hx, hod⟩ (by omega) fun h' ho hT hz hkp => ⟨_, rfl, wpAny_letOwnedTupleGo_items (s := { s with heap := h' }) ho fun h2 ho2 sb => ?_⟩
    rw [ent] at hT
    have hT2 : h2.get? s.heap.objs.size = some { cls := .type "tuple", data := .seq #[.ref q.2.1, q.2.2] } := (sb.2 _ (Nat.ne_of_gt lt)).trans hT
    have new : ObjOk X.prog X.w (upd H s.heap.objs.size (.tup [.ref L[i].2.1, L[i].2.2])) h2 s.heap.objs.size (.tup [.ref L[i].2.1, L[i].2.2]) :=
      ⟨by show 2 ≤ sizeLine; decide, [.ref q.2.1, q.2.2], .cons (by rw [hb]; rfl) (.cons hv .nil), ⟨_, hT2, rfl, _, rfl⟩⟩
    have J := I.turnedNew (t' := s.toks) (ch := [it]) (fun b u hb' e => (sb.2 b fun z => hb' (List.mem_singleton.mpr z)).trans (hkp b u (fun z => hb' (List.mem_singleton.mpr z)) e)) hf (Nat.le_refl _) new
    refine ⟨.ref s.heap.objs.size, _, J, rfl, ⟨_, L[i].1, L[i].2.1, L[i].2.2, List.getElem?_eq_getElem hi, rfl, I.hok.fresh (Nat.le_refl _), rfl⟩, ⟨_, _, by rw [← sz]; exact ho2⟩, fun b hb' => ?_⟩
    cases List.mem_singleton.mp hb'
    rw [upd_ne (Nat.ne_of_lt lt)]
    exact (hf it (List.mem_singleton_self it)).1
  done := by
    intro X hP hw hK hc i pins s σ H E I hf ⟨ok, ov, st⟩ ⟨hd, hi⟩
    subst hP; subst hw; subst hK
    obtain ⟨sys, xs, es', ep', hg, hx, hdt, he, pr⟩ := dc_lock I hd
    rw [hod] at hdt
    cases hdt
    have sz : es.size = L.length := by rw [← Array.length_toList, he, List.length_map, Paired.length pr]
    rw [← sz] at st
    obtain ⟨f0, f1, f2, f3, f4, f5⟩ := hf it (List.mem_singleton_self it)
    exact DT.endI (I.ok.hd hc) st ⟨ob, hg, hx, hod⟩ (by omega) fun h' eb => ⟨rfl, I.turned (t' := s.toks) (fun b u hb e => eb b u hb e) f0 f1 f3 f4 f5⟩
  self := fun A i s Q E ⟨_, _, e⟩ h => PySem.W.kcp_self e h
def iRItems (td : TE) : TI := fun σ H R => td σ H fun x H1 => ∃ d ob L, x = .ref d ∧ H1 d = some (.frz ob (DcO d L)) ∧ R (ItR d ob L) H1
theorem pi_ritems {elts : List Expr} {kk : Nat} {tpos : Pos} (he : PE X e td) (hbase : attributeBase e "items" X.env (eval e X.env) = eval e X.env := by rfl) (hline : (apos.endLine == cpos.line) = true := by rfl) :
    PI X (.Tuple elts kk tpos) (.Call (.Attribute e "items" apos) [] [] cpos) (iRItems td) := ⟨fun pins s σ H R I h => by
  refine wpAny_Call_method (T := "dict") (id := "dict.items") hbase rfl hline F.plainAttrs_dict F.slot_dict_items F.type_dict_items (thn (he.run pins s σ H _ I h) fun u s1 ⟨x, H1, I1, rx, d, ob, L, ex, hd, q⟩ => ?_)
  subst ex
  cases rx
  obtain ⟨sys, xs, es, ep, hg, hx, hdt, hes, pr⟩ := dc_lock I1 hd
  have sz : es.size = L.length := by rw [← Array.length_toList, hes, List.length_map, Paired.length pr]
  have raw : DT.Raw s1.heap d es ep := ⟨ob, hg, hx, hdt⟩
  refine ⟨raw.typeIs, fun b e => by cases e; exact ⟨ob, hg, hx.2.1⟩, ?_⟩
  have I2 : Inv X pins σ H1 { s1 with heap := s1.heap.push { cls := .type "dict_items", data := .fields #[.ref d] } } := I1.kept (t' := s1.toks) fun b u z => Heap.get?_push_of_some _ z
  have fin : wpAny (model X.prog X.w) X.A (pyIter (.ref s1.heap.objs.size)) (PIE X pins σ (.Tuple elts kk tpos) R) X.xe { s1 with heap := s1.heap.push { cls := .type "dict_items", data := .fields #[.ref d] } } := by
    refine DT.iterI (d := d) ⟨_, Heap.get?_push_size _ rfl, rfl, rfl⟩ (raw.push _) (pi_one (tk := s1.toks) I2 _ (turn_rows hdt) ⟨.none, .none, ?_⟩ q)
    rw [← sz]
    exact Heap.get?_push_size _ rfl
  show wpAny _ _ (callWith cpos (.builtin "dict.items") [.ref d] [] []) _ X.xe s1
  exact method_meetsIn F.slot_dict_items F.entry_dict_items rfl (PySem.evalArgs_none ⟨rfl, raw.typeIs, F.args_dict_items_1 _, _, DT.meetsItems sys, ⟨raw, fin⟩⟩)⟩
theorem walk_rows {d : Addr} {ob : Obj} : Walk (ItR d ob L) L.length (fun H => H d = some (.frz ob (DcO d L))) (fun i H x H' => ∃ T k b v, L[i]? = some (k, b, v) ∧ x = .ref T ∧ H T = none ∧ H' = upd H T (.tup [.ref b, v])) :=
  ⟨fun _ _ hi q => ⟨q, hi⟩, fun _ q => ⟨q, Nat.le_refl _⟩, fun _ _ _ _ _ _ y => y⟩
/-! ### sorted(d) -/
theorem perm_unmap {α β : Type} {f : α → β} : ∀ {ys zs : List β}, ys.Perm zs → ∀ {xs : List α}, zs = xs.map f → ∃ xs' : List α, xs'.Perm xs ∧ ys = xs'.map f := by
  intro ys zs pm
  induction pm with
  | nil => intro xs e; exact ⟨xs, .refl _, e⟩
  | cons y _ ih =>
    intro xs e
    cases xs with
    | nil => cases e
    | cons x xs =>
      simp only [List.map_cons, List.cons.injEq] at e
      obtain ⟨xs', p, e'⟩ := ih e.2
      exact ⟨x :: xs', p.cons x, by rw [List.map_cons, e.1, e']⟩
  | swap y z l =>
    intro xs e
    match xs, e with
    | x1 :: x2 :: xs, e =>
      simp only [List.map_cons, List.cons.injEq] at e
      exact ⟨x2 :: x1 :: xs, List.Perm.swap x1 x2 xs, by rw [List.map_cons, List.map_cons, e.1, e.2.1, e.2.2]⟩
  | trans _ _ ih1 ih2 =>
    intro xs e
    obtain ⟨xs2, p2, e2⟩ := ih2 e
    obtain ⟨xs1, p1, e1⟩ := ih1 e2
    exact ⟨xs1, p1.trans p2, e1⟩
theorem vals_keys : ∀ (L : List RE), Vals (L.map fun q => V.ref q.2.1) (L.map fun q => Value.ref q.2.1)
  | [] => .nil
  | p :: L => .cons rfl (vals_keys L)
theorem keys_of {xs : List REv} (pr : Paired ReIs L xs) : xs.map (fun x => Value.ref x.2.1) = L.map fun q => Value.ref q.2.1 := by
  induction pr with
  | nil => rfl
  | cons h _ ih => rw [List.map_cons, List.map_cons, ih, h.2.1]
theorem names_of {xs : List REv} (pr : Paired ReIs L xs) : xs.map (·.1) = L.map (·.1) := by
  induction pr with
  | nil => rfl
  | cons h _ ih => rw [List.map_cons, List.map_cons, ih, h.1]
def rSortKeys (K : PySem.W.Frag) : List V → Hp → VK → Prop := fun vs H Q => ∃ (a : Addr) (L : List RE) (n : Nat), vs = [V.ref a] ∧ Rd H a (DcO a L) ∧ KeyR K H L ∧ L.length < 64 ∧ (∀ p ∈ L, p.1.length = n ∧ TS.Bd 64 p.1) ∧
  ∀ (L' : List RE) (p : Addr), L'.Perm L → (L'.map (·.1)).Pairwise (fun r q => HT.lexLt r q = true) → H p = none → Q (.ref p) (upd H p (.lst (L'.map fun q => V.ref q.2.1)))
theorem cr_sortKeys (hc : X.calm = true) : CallR X (.builtin "sorted") (rSortKeys X.K) := by
  intro pins s σ H vs us Q I r h
  obtain ⟨a, L, n, rfl, d, hk, few, hn, q⟩ := h
  rw [Vals.ref1 r]
  have t : DcT s.heap a L := (show ObjOk X.prog X.w H s.heap a (DcO a L) from d.ok I.hok).1
  obtain ⟨xs, pr, o, es, ep, ho, hx, hd, he, nd⟩ := t.ex
  rw [names_of pr] at nd
  have sz : es.size = L.length := by rw [← Array.length_toList, he, List.length_map, Paired.length pr]
  refine Calls.call_function_entry kind_sorted plain_sorted entry_sorted (args_sorted1 _) ?_
  unfold Builtin.«sorted»
  refine wpAny_bind (m := checkCount "sorted" 1 1 _) (wpAny_pure (wpAny_bind (PySem.W.kdu_collect (A := X.A.in1) (kdl_raw t.sys hx hd) (I.ok.hd hc) ho (by rw [sz]; exact t.few) fun h' tk acc kp it => ?_)))
  have ea : acc.toList = L.map fun p => Value.ref p.2.1 := by
    rw [← keys_of pr]
    apply List.ext_getElem?
    intro j
    rw [List.getElem?_map]
    by_cases hj : j < es.size
    · have la : j < acc.toList.length := by rw [Array.length_toList, it.1]; exact hj
      obtain ⟨en, h1, h2⟩ := it.2 j (acc.toList[j]) (by rw [← Array.getElem?_toList]; exact List.getElem?_eq_getElem la)
      rw [← Array.getElem?_toList, he, List.getElem?_map] at h1
      cases hx : xs[j]? with
      | none => rw [hx] at h1; cases h1
      | some x =>
        rw [hx] at h1
        cases h1
        rw [List.getElem?_eq_getElem la, h2]
        rfl
    · rw [List.getElem?_eq_none (by rw [Array.length_toList, it.1]; omega), List.getElem?_eq_none (by rw [← Paired.length pr]; omega)]
      rfl
  have lv : acc.toList.length = L.length := by rw [ea, List.length_map]
  have I1 : Inv X pins σ H { s with heap := h', toks := tk } := I.kept kp
  have top : (h'.push (seqObj "list" acc.toList.toArray 0)).get? h'.objs.size = some (seqObj "list" acc.toList.toArray 0) := Heap.get?_push_size _ rfl
  have tk' : ∀ p ∈ L, TS.TupInts (h'.push (seqObj "list" acc.toList.toArray 0)) (.ref p.2.1) p.1 := fun p hp => tupInts_of (P := X.prog) (w := X.w) (isT_keep (I1.isT (hk p hp)) fun b u e => Heap.get?_push_of_some _ e)
  -- the end, once the list is sorted
  have fin : ∀ (out : Array Value) (L' : List RE), L'.Perm L → out.toList = L'.map (fun p => Value.ref p.2.1) → (L'.map (·.1)).Pairwise (fun r q => HT.lexLt r q = true) →
      ∃ x H', Inv X pins σ H' { s with heap := sortedHeap (h'.push (seqObj "list" acc.toList.toArray 0)) h'.objs.size acc.toList out, toks := tk } ∧ RelV x (.ref h'.objs.size) ∧ Q x H' := fun out L' pm eo pw => by
    obtain ⟨c, hc'⟩ := sortedHeap_at (vs := acc.toList) (out := out) top
    have hz : (L'.map fun q => V.ref q.2.1).length ≤ sizeLine := by rw [List.length_map, pm.length_eq, sizeLine_eq]; omega
    have kk : ∀ b u, h'.get? b = some u → (sortedHeap (h'.push (seqObj "list" acc.toList.toArray 0)) h'.objs.size acc.toList out).get? b = some u := fun b u e => by
      have lt := Heap.lt_size e
      rw [sortedHeap_old (Nat.ne_of_lt lt) (by rw [size_push']; exact Nat.lt_succ_of_lt lt)]
      exact Heap.get?_push_of_some _ e
    exact ⟨.ref h'.objs.size, _, I1.laid (t' := tk) (o := .lst (L'.map fun q => V.ref q.2.1)) kk (Nat.le_refl _) ⟨hz, out.toList, c, by rw [eo]; exact vals_keys L', hc'⟩, rfl, q L' _ pm pw (I1.hok.fresh (Nat.le_refl _))⟩
  refine wpAny_bind (wpAny_newList ?_ (by rw [lv, sizeLine_eq]; omega))
  by_cases hz : n = 0
  · have l1 : L.length ≤ 1 := by
      match L, hn, nd with
      | [], _, _ => exact Nat.zero_le _
      | [_], _, _ => exact Nat.le_refl _
      | x :: y :: _, hn, nd =>
        have e1 : x.1 = [] := List.length_eq_zero_iff.mp ((hn x (by simp)).1.trans hz)
        have e2 : y.1 = [] := List.length_eq_zero_iff.mp ((hn y (by simp)).1.trans hz)
        simp [e1, e2] at nd
    refine wpAny_bind (wpAny_holding (sort_few (s := { s with heap := h'.push (seqObj "list" acc.toList.toArray 0), toks := tk }) top (by rw [lv]; exact l1) fun out eo => wpAny_pure ⟨_, rfl, fin out L (.refl _) (eo.trans ea) ?_⟩))
    match L, l1 with
    | [], _ => exact .nil
    | [x], _ => exact List.pairwise_singleton _ _
  · have ok : TS.TupsOk (h'.push (seqObj "list" acc.toList.toArray 0)) n 64 acc.toList := fun v hv => by
      rw [ea] at hv
      obtain ⟨p, hp, rfl⟩ := List.mem_map.mp hv
      exact ⟨p.1, tk' p hp, hn p hp⟩
    refine wpAny_bind (wpAny_holding (TS.call_sort_tups (s := { s with heap := h'.push (seqObj "list" acc.toList.toArray 0), toks := tk }) top (by rw [lv]; exact few) (by omega) ok fun out a1 a2 => ?_))
    obtain ⟨L', pm, eo⟩ := perm_unmap a1 ea
    refine wpAny_pure ⟨_, rfl, fin out L' pm eo ?_⟩
    rw [eo] at a2
    have nd' : (L'.map (·.1)).Nodup := (pm.map (·.1)).nodup_iff.mpr nd
    rw [List.pairwise_map]
    refine ((List.pairwise_map.mp a2).and (List.pairwise_map.mp nd')).imp_of_mem fun {x y} hx' hy' ⟨le, ne⟩ => ?_
    have mx := pm.mem_iff.mp hx'
    have my := pm.mem_iff.mp hy'
    rw [(tk' x mx).ints, (tk' y my).ints] at le
    have hl : x.1.length = y.1.length := (hn x mx).1.trans (hn y my).1.symm
    refine (lex_code hl (hn x mx).2 (hn y my).2).mpr ?_
    have : TS.code 64 x.1 ≠ TS.code 64 y.1 := fun e => ne (code_inj hl (hn x mx).2 (hn y my).2 e)
    omega
end
end Gw

/-! dicts keyed by rows: the abstract readings -/
namespace Gw
open PySem L2 PyProof.Rows
variable {ρ : Ent}
def keyT : D → Option (List Int)
  | .tup ds => intsD ds
  | _ => none
def getT : List (List Int) → List D → List Int → Option D
  | k :: ks, d :: ds, x => if k = x then some d else getT ks ds x
  | _, _, _ => none
def putT : List (List Int) → List D → List Int → D → List (List Int) × List D
  | k :: ks, e :: ds, x, d => if k = x then (k :: ks, d :: ds) else (k :: (putT ks ds x d).1, e :: (putT ks ds x d).2)
  | _, _, x, d => ([x], [d])
def itemsT : List (List Int) → List D → List D
  | k :: ks, d :: ds => .tup [rowD k, d] :: itemsT ks ds
  | _, _ => []
section
variable {X : Cx} {a b c e : Expr} {ta tb tc te : TE} {aa ab ac ae : AE} {pos : Pos} {K : PySem.W.Frag} {B : Ent} {σ : L2.St} {H G H1 G1 H2 G2 H0 : Hp} {Γ Γ1 Γ2 : Sl} {M M1 M2 : Mem}
theorem rep_keyT {d : D} {v : V} {k : List Int} (h : Rep K G d v) (e : keyT d = some k) : ∃ b, v = .ref b ∧ SqT K G b (k.map V.int) := by
  cases d with
  | tup ds =>
    obtain ⟨b, xs, rfl, hb, hr⟩ := rep_tup.mp h
    rw [intsD_ok e] at hr
    rw [repL_map_int.mp hr] at hb
    exact ⟨b, rfl, hb⟩
  | _ => cases e
theorem getT_ok {k : List Int} : ∀ {L : List RE} {ds : List D}, RepL K G ds (L.map (·.2.2)) → (∀ d, getT (L.map (·.1)) ds k = some d → ∃ v, getR L k = some v ∧ Rep K G d v) ∧ (getT (L.map (·.1)) ds k = none → getR L k = none)
  | [], ds, h => ⟨fun d e => by simp [getT] at e, fun _ => rfl⟩
  | p :: L, [], h => by cases repL_nil.mp h
  | p :: L, e :: ds, h => by
    obtain ⟨x, r, e1, h1, h2⟩ := repL_cons.mp h
    simp only [List.map_cons, List.cons.injEq] at e1
    obtain ⟨rfl, rfl⟩ := e1
    have ih := getT_ok (k := k) h2
    simp only [List.map_cons, getT, getR]
    by_cases z : p.1 = k
    · simp only [z, if_true]
      exact ⟨fun d e => by cases e; exact ⟨_, rfl, h1⟩, fun e => by cases e⟩
    · simp only [z, if_false]
      exact ih
theorem putT_ok {k : List Int} {bb : Addr} {v : V} {d : D} (rv : Rep K G d v) : ∀ {L : List RE} {ds : List D}, RepL K G ds (L.map (·.2.2)) → (putR L k bb v).map (·.1) = (putT (L.map (·.1)) ds k d).1 ∧ RepL K G (putT (L.map (·.1)) ds k d).2 ((putR L k bb v).map (·.2.2))
  | [], ds, h => by
    refine ⟨by simp [putR, putT], ?_⟩
    have : putT ([] : List (List Int)) ds k d = ([k], [d]) := by cases ds <;> rfl
    rw [List.map_nil, this]
    exact RepL.one rv
  | p :: L, [], h => by cases repL_nil.mp h
  | p :: L, e :: ds, h => by
    obtain ⟨x, r, e1, h1, h2⟩ := repL_cons.mp h
    simp only [List.map_cons, List.cons.injEq] at e1
    obtain ⟨rfl, rfl⟩ := e1
    obtain ⟨i1, i2⟩ := putT_ok (k := k) (bb := bb) rv h2
    simp only [List.map_cons, putT, putR]
    by_cases z : p.1 = k
    · simp only [z, if_true, List.map_cons]
      exact ⟨trivial, repL_cons.mpr ⟨_, _, rfl, rv, h2⟩⟩
    · simp only [z, if_false, List.map_cons]
      exact ⟨by rw [i1], repL_cons.mpr ⟨_, _, rfl, h1, i2⟩⟩
theorem putR_keys {k : List Int} {bb : Addr} {v : V} (hb : SqT K G bb (k.map V.int)) : ∀ {L : List RE}, KeyR K G L → KeyR K G (putR L k bb v)
  | [], _ => fun p hp => by cases List.mem_singleton.mp hp; exact hb
  | q :: L, h => fun p hp => by
    unfold putR at hp
    split at hp
    · rcases List.mem_cons.mp hp with rfl | hp
      · exact h q List.mem_cons_self
      · exact h p (List.mem_cons_of_mem _ hp)
    · rcases List.mem_cons.mp hp with rfl | hp
      · exact h p List.mem_cons_self
      · exact putR_keys hb (fun r hr => h r (List.mem_cons_of_mem _ hr)) p hp
/-! ### which dict -/
def dcTOf (r : Ret) (Γ : Sl) (M : Mem) : Option (List (List Int) × List D) := match r with
  | .dat (.dcT ks ds) => some (ks, ds)
  | .dat (.ref a) => match M.lookup a with
    | some (.dcT ks ds) => some (ks, ds)
    | _ => none
  | .tmp (.dcT ks ds) => some (ks, ds)
  | .var i => match Γ[i]? with
    | some (.own (.dcT ks ds)) => some (ks, ds)
    | some (.dat (.dcT ks ds)) => some (ks, ds)
    | _ => none
  | _ => none
/-- the dict at l, seen -/
structure SeeT (K : PySem.W.Frag) (H G : Hp) (l : Addr) (L : List RE) (t : List (List Int) × List D) : Prop where
  rd : Rd H l (DcO l L)
  ks : L.map (·.1) = t.1
  key : KeyR K G L
  val : RepL K G t.2 (L.map (·.2.2))
theorem seeT_dat {ks : List (List Int)} {ds : List D} {v : V} (o : Ok K ρ B σ H G Γ M) (h : Rep K G (.dcT ks ds) v) : ∃ l L, v = .ref l ∧ SeeT K H G l L (ks, ds) := by
  obtain ⟨l, od, L, e, h1, h2, h3, h4⟩ := rep_dcT.mp h
  exact ⟨l, L, e, .inr ⟨od, o.ex _ _ h1⟩, h2, h3, h4⟩
theorem seeT_cel {ks : List (List Int)} {ds : List D} {l : Addr} (h : Cel K H G l (.dcT ks ds)) : ∃ L, H l = some (DcO l L) ∧ SeeT K H G l L (ks, ds) := by
  obtain ⟨_, u, hu, L, rfl, h1, h2, h3⟩ := h
  exact ⟨L, hu, .inl hu, h1, h2, h3⟩
theorem dcTOf_ok {r : Ret} {v : V} {t : List (List Int) × List D} (o : Ok K ρ B σ H G Γ M) (rr : RepR K B σ H0 H G Γ M r v) (h : dcTOf r Γ M = some t) : ∃ l L, v = .ref l ∧ SeeT K H G l L t := by
  have cel : ∀ {l : Addr} {ks : List (List Int)} {ds : List D}, v = .ref l → Cel K H G l (.dcT ks ds) → ∃ l L, v = .ref l ∧ SeeT K H G l L (ks, ds) := fun {l ks ds} ev hc => by
    obtain ⟨L, _, s⟩ := seeT_cel hc
    exact ⟨l, L, ev, s⟩
  cases r with
  | dat d =>
    cases d with
    | dcT ks ds => cases h; exact seeT_dat o rr
    | ref l =>
      simp only [dcTOf] at h
      split at h
      · rename_i ks ds e1
        cases h
        exact cel (by have := rr; simp only [RepR, Rep] at this; exact this) (o.ms l _ (lookup_mem e1))
      · cases h
    | _ => cases h
  | tmp c =>
    cases c with
    | lst ds => cases h
    | dct ks ds => cases h
    | dcT ks ds =>
      cases h
      obtain ⟨p, ev, _, _, hc, _⟩ := rr
      exact cel ev hc
  | var i =>
    simp only [dcTOf] at h
    split at h
    · rename_i ks ds e1
      cases h
      obtain ⟨p, s1, _, _, hc⟩ := o.own i _ e1
      exact cel (by have := (show σ[i]? = some (some v) from rr); rw [s1] at this; cases this; rfl) hc
    · rename_i ks ds e1
      cases h
      obtain ⟨v', h1, h2⟩ := o.dat i _ e1
      have : v' = v := by have := (show σ[i]? = some (some v) from rr); rw [h1] at this; cases this; rfl
      subst this
      exact seeT_dat o h2
    · cases h
/-! ### {} -/
def aTNew (Γ : Sl) (M : Mem) (Q : Ret → Sl → Mem → Prop) : Prop := Q (.tmp (.dcT [] [])) Γ M
theorem q_tnew : QE X ρ (.Dict [] [] pos) tRNew aTNew := ⟨pe_rnew, fun B σ H G Γ M Q R k h q p hp => by
  obtain ⟨k2, e2, hm, hn, hb, hg⟩ := k.tmp (o := DcO p []) hp
  exact q _ _ _ Γ M (.tmp (.dcT [] [])) k2 e2 ⟨p, rfl, hp, hb, ⟨hg, _, upd_same, [], rfl, rfl, fun _ z => (List.not_mem_nil z).elim, repL_nil.mpr rfl⟩, hm, hn⟩ h⟩
/-! ### d[k] -/
def aTGet (ad ay : AE) (Γ : Sl) (M : Mem) (Q : Ret → Sl → Mem → Prop) : Prop := ad Γ M fun r Γ1 M1 => ay Γ1 M1 fun ry Γ2 M2 => match ry with
  | .dat y => match keyT y with
    | some k => match dcTOf r Γ2 M2 with
      | some t => match getT t.1 t.2 k with
        | some d => Q (.dat d) Γ2 M2
        | none => False
      | none => False
    | none => False
  | _ => False
theorem rd_tget (ha : RdE K ρ ta aa) (hb : RdE K ρ tb ab) : RdE K ρ (tRGet K ta tb) (aTGet aa ab) := by
  intro B σ H G Γ M Q R k h q
  refine ha B σ H G Γ M _ _ k h fun v H1 G1 Γ1 M1 r1 k1 e1 rr1 h1 => ?_
  refine hb B σ H1 G1 Γ1 M1 _ _ k1 h1 fun u H2 G2 Γ2 M2 r2 k2 e2 rr2 h2 => ?_
  split at h2
  · rename_i y
    split at h2
    · rename_i key hy
      obtain ⟨bb, rfl, hb'⟩ := rep_keyT (show Rep K G2 y u from rr2) hy
      split at h2
      · rename_i t ht
        obtain ⟨l, L, rfl, s⟩ := dcTOf_ok k2 (rr1.es e2) ht
        split at h2
        · rename_i d hd
          rw [← s.ks] at hd
          obtain ⟨w, hw, rw'⟩ := (getT_ok s.val).1 d hd
          exact ⟨l, L, key, bb, w, rfl, rfl, s.rd, s.key.mono k2.ex, ex_t k2.ex hb', hw, q w H2 G2 Γ2 M2 (.dat d) k2 (e1.trans e2) rw' h2⟩
        · exact h2.elim
      · exact h2.elim
    · exact h2.elim
  · exact h2.elim
theorem q_tget (hu : X.A.units + 64 < cLine) (ha : QE X ρ a ta aa) (hb : QE X ρ b tb ab) (hs : NoSl b := by exact fun _ _ => rfl) (hK : X.K = K := by rfl) : QE X ρ (.Subscript a b pos) (tRGet K ta tb) (aTGet aa ab) := by
  subst hK; exact ⟨pe_rget (by omega) ha.pe hb.pe hs, rd_tget ha.rd hb.rd⟩
/-! ### d.get(k, x) -/
def aTGet2 (ad ay az : AE) (Γ : Sl) (M : Mem) (Q : Ret → Sl → Mem → Prop) : Prop := ad Γ M fun r Γ1 M1 => (dcTOf r Γ1 M1).isSome = true ∧ ay Γ1 M1 fun ry Γ2 M2 => az Γ2 M2 fun rz Γ3 M3 => match ry with
  | .dat y => match rz with
    | .dat z => match keyT y with
      | some k => match dcTOf r Γ3 M3 with
        | some t => Q (.dat ((getT t.1 t.2 k).getD z)) Γ3 M3
        | none => False
      | none => False
    | _ => False
  | _ => False
theorem rd_tget2 (ha : RdE K ρ ta aa) (hb : RdE K ρ tb ab) (hc : RdE K ρ tc ac) : RdE K ρ (tRGet2 K ta tb tc) (aTGet2 aa ab ac) := by
  intro B σ H G Γ M Q R k h q
  refine ha B σ H G Γ M _ _ k h fun v H1 G1 Γ1 M1 r1 k1 e1 rr1 h1 => ?_
  obtain ⟨hs, h1⟩ := h1
  obtain ⟨t1, ht1⟩ := Option.isSome_iff_exists.mp hs
  obtain ⟨l1, L1, rfl, s1⟩ := dcTOf_ok k1 rr1 ht1
  refine ⟨l1, L1, rfl, s1.rd, ?_⟩
  refine hb B σ H1 G1 Γ1 M1 _ _ k1 h1 fun u H2 G2 Γ2 M2 r2 k2 e2 rr2 h2 => ?_
  refine hc B σ H2 G2 Γ2 M2 _ _ k2 h2 fun w H3 G3 Γ3 M3 r3 k3 e3 rr3 h3 => ?_
  split at h3
  · rename_i y
    split at h3
    · rename_i z
      split at h3
      · rename_i key hy
        obtain ⟨bb, rfl, hb'⟩ := rep_keyT (show Rep K G2 y u from rr2) hy
        split at h3
        · rename_i t ht
          obtain ⟨l, L, el, s⟩ := dcTOf_ok k3 ((rr1.es e2).es e3) ht
          cases el
          have ok := getT_ok (k := key) s.val
          rw [s.ks] at ok
          have hb3 : SqT K H3 bb (key.map V.int) := ex_t k3.ex (ex_t e3.g hb')
          cases hg : getT t.1 t.2 key with
          | some d =>
            obtain ⟨x, hx, rx⟩ := ok.1 d hg
            rw [hg] at h3
            exact ⟨L, key, bb, rfl, s.rd, s.key.mono k3.ex, hb3, by rw [hx]; exact q x H3 G3 Γ3 M3 (.dat d) k3 ((e1.trans e2).trans e3) rx h3⟩
          | none =>
            rw [hg] at h3
            exact ⟨L, key, bb, rfl, s.rd, s.key.mono k3.ex, hb3, by rw [ok.2 hg]; exact q w H3 G3 Γ3 M3 (.dat z) k3 ((e1.trans e2).trans e3) rr3 h3⟩
        · exact h3.elim
      · exact h3.elim
    · exact h3.elim
  · exact h3.elim
theorem q_tget2 {apos cpos : Pos} (hu : X.A.units + 64 < cLine) (ha : QE X ρ a ta aa) (hb : QE X ρ b tb ab) (hc : QE X ρ c tc ac) (m : L2.M2 X a "get" apos b c cpos := by exact ⟨rfl, rfl, rfl, rfl⟩) (hK : X.K = K := by rfl) : QE X ρ (.Call (.Attribute a "get" apos) [b, c] [] cpos) (tRGet2 K ta tb tc) (aTGet2 aa ab ac) := by
  subst hK; exact ⟨pe_rget2 (by omega) ha.pe hb.pe hc.pe m, rd_tget2 ha.rd hb.rd hc.rd⟩
/-! ### d[k] = v -/
def aTPut (ae ao ai : AE) (A : AEnds) (Γ : Sl) (M : Mem) : Prop := ae Γ M fun r Γ0 M0 => frz r Γ0 fun d Γ1 => ao Γ1 M0 fun ro Γ2 M2 => ai Γ2 M2 fun ri Γ3 M3 => match ri with
  | .dat y => match keyT y with
    | some k => match cget ro Γ3 M3 with
      | some (.dcT ks ds) => ks.length < sizeLine ∧ cput ro (.dcT (putT ks ds k d).1 (putT ks ds k d).2) Γ3 M3 fun Γ4 M4 => A.nx Γ4 M4
      | _ => False
    | none => False
  | _ => False
theorem qs_tput {o i : Expr} {to ti : TE} {ao ai : AE} {pos' : Pos} (hu : X.A.units + 64 < cLine) (h : QE X ρ a ta aa) (ho : QE X ρ o to ao) (hi : QE X ρ i ti ai) (hs : swapsWith a (some (.Subscript o i pos')) pos.line X.env = pure false := by rfl) (hK : X.K = K := by rfl) :
    QS X ρ (.Assign [.Subscript o i pos'] a pos) (sRPut K to ti ta) (aTPut aa ao ai) := by
  subst hK
  refine ⟨ps_rput (by omega) ho.pe hi.pe h.pe hs, fun B σ H G Γ M A E k hh s => h.rd B σ H G Γ M _ _ k hh fun v H1 G1 Γ1 M1 r k1 e1 rr h1 => ?_⟩
  obtain ⟨G2, Γ2, d, k2, e2, rp, h2⟩ := frz_ok (H0 := H) k1 e1 rr h1
  refine ho.rd B σ H1 G2 Γ2 M1 _ _ k2 h2 fun ov H3 G3 Γ3 M3 ro k3 e3 rro h3 => ?_
  refine hi.rd B σ H3 G3 Γ3 M3 _ _ k3 h3 fun iv H4 G4 Γ4 M4 ri k4 e4 rri h4 => ?_
  split at h4
  · rename_i y
    split at h4
    · rename_i key hy
      obtain ⟨bb, rfl, hb'⟩ := rep_keyT (show Rep X.K G4 y iv from rri) hy
      split at h4
      · rename_i ks ds hd
        have rro' := rro.es e4
        obtain ⟨l, o', rfl, hl, L, rfl, hks, hkey, hval⟩ := cget_ok k4 rro' hd
        have rp4 : Rep X.K G4 d v := (rp.mono e3.g).mono e4.g
        have pt := putT_ok (k := key) (bb := bb) rp4 hval
        rw [hks] at pt
        obtain ⟨Γ5, M5, k5, e6, hq⟩ := cput_ok (c' := .dcT _ _) (o' := DcO l (putR L key bb v)) k4 rro' hd ⟨_, rfl, pt.1, putR_keys hb' hkey, pt.2⟩ h4.2
        exact ⟨l, L, key, bb, rfl, rfl, hl, hkey.mono k4.ex, ex_t k4.ex hb', by rw [← List.length_map (f := (·.1)), hks]; exact h4.1, s.nx σ _ G4 Γ5 M5 k5 hq⟩
      · exact h4.elim
    · exact h4.elim
  · exact h4.elim
/-! ### for k, v in d.items() -/
def aTItems (aa : AE) (Γ : Sl) (M : Mem) (Q : List D → Sl → Mem → Prop) : Prop := aa Γ M fun r Γ1 M1 => match r with
  | .dat (.dcT ks ds) => Q (itemsT ks ds) Γ1 M1
  | _ => False
theorem itemsT_at : ∀ {L : List RE} {ds : List D} {i : Nat} {d : D}, RepL K G ds (L.map (·.2.2)) → (itemsT (L.map (·.1)) ds)[i]? = some d → ∃ p e, L[i]? = some p ∧ d = .tup [rowD p.1, e] ∧ Rep K G e p.2.2
  | [], _, _, _, _, h => by simp [itemsT] at h
  | p :: L, [], _, _, hr, _ => by cases repL_nil.mp hr
  | p :: L, e :: ds, 0, d, hr, h => by
    obtain ⟨x, r, e1, h1, h2⟩ := repL_cons.mp hr
    simp only [List.map_cons, List.cons.injEq] at e1
    obtain ⟨rfl, rfl⟩ := e1
    simp only [List.map_cons, itemsT, List.getElem?_cons_zero, Option.some.injEq] at h
    exact ⟨p, e, rfl, h.symm, h1⟩
  | p :: L, e :: ds, i + 1, d, hr, h => by
    obtain ⟨x, r, e1, h1, h2⟩ := repL_cons.mp hr
    simp only [List.map_cons, List.cons.injEq] at e1
    obtain ⟨rfl, rfl⟩ := e1
    simp only [List.map_cons, itemsT, List.getElem?_cons_succ] at h
    obtain ⟨q, e', hq, r1, r2⟩ := itemsT_at h2 h
    exact ⟨q, e', hq, r1, r2⟩
theorem itemsT_len : ∀ {L : List RE} {ds : List D}, RepL K G ds (L.map (·.2.2)) → (itemsT (L.map (·.1)) ds).length = L.length
  | [], _, _ => by simp [itemsT]
  | p :: L, [], hr => by cases repL_nil.mp hr
  | p :: L, e :: ds, hr => by
    obtain ⟨x, r, e1, h1, h2⟩ := repL_cons.mp hr
    simp only [List.map_cons, List.cons.injEq] at e1
    obtain ⟨rfl, rfl⟩ := e1
    simp only [List.map_cons, itemsT, List.length_cons, itemsT_len h2]
theorem walkD_rows {p : Addr} {o : Obj} {L : List RE} {ds : List D} (h : G p = some (.frz o (DcO p L))) (hk : KeyR K G L) (r : RepL K G ds (L.map (·.2.2))) : WalkD K (ItR p o L) G (itemsT (L.map (·.1)) ds) := by
  refine ⟨fun H => H p = some (.frz o (DcO p L)), _, (itemsT_len r) ▸ walk_rows, fun H e => e _ _ h, fun i H x H' d hd e y => .inr ?_⟩
  obtain ⟨T, k, b, v, hL, rfl, hT, rfl⟩ := y
  obtain ⟨q, e', hq, rfl, re⟩ := itemsT_at r hd
  rw [hL] at hq
  cases hq
  exact ⟨T, _, _, rfl, hT, rfl, rfl, repL_cons.mpr ⟨_, _, rfl, rep_tup.mpr ⟨b, _, rfl, hk _ (List.mem_of_getElem? hL), repL_map_int.mpr rfl⟩, RepL.one re⟩⟩
theorem qi_titems {elts : List Expr} {kk : Nat} {tpos apos cpos : Pos} (h : QE X ρ a ta aa) (hbase : attributeBase a "items" X.env (eval a X.env) = eval a X.env := by rfl) (hline : (apos.endLine == cpos.line) = true := by rfl) :
    QI X ρ (.Tuple elts kk tpos) (.Call (.Attribute a "items" apos) [] [] cpos) (iRItems ta) (aTItems aa) := ⟨pi_ritems h.pe hbase hline, fun B σ H G Γ M Q R k hh q => h.rd B σ H G Γ M _ _ k hh fun v H1 G1 Γ1 M1 r k1 e1 rr h1 => by
  split at h1
  · rename_i ks ds
    obtain ⟨l, od, L, rfl, h2, h3, h4, h5⟩ := rep_dcT.mp (show Rep X.K G1 (.dcT ks ds) v from rr)
    subst h3
    exact ⟨l, od, L, rfl, k1.ex _ _ h2, q _ H1 G1 Γ1 M1 _ k1 e1 (walkD_rows h2 h4 h5) h1⟩
  · exact h1.elim⟩
/-! ### k in d, k not in d -/
def aTIn (f : Bool → Bool) (ay ad : AE) (Γ : Sl) (M : Mem) (Q : Ret → Sl → Mem → Prop) : Prop := ay Γ M fun ry Γ1 M1 => ad Γ1 M1 fun r Γ2 M2 => match ry with
  | .dat y => match keyT y with
    | some k => match dcTOf r Γ2 M2 with
      | some t => Q (.dat (.bl (f (getT t.1 t.2 k).isSome))) Γ2 M2
      | none => False
    | none => False
  | _ => False
theorem rd_tin {f : Bool → Bool} (ha : RdE K ρ ta aa) (hb : RdE K ρ tb ab) : RdE K ρ (tRIn K f ta tb) (aTIn f aa ab) := by
  intro B σ H G Γ M Q R k h q
  refine ha B σ H G Γ M _ _ k h fun v H1 G1 Γ1 M1 r1 k1 e1 rr1 h1 => ?_
  refine hb B σ H1 G1 Γ1 M1 _ _ k1 h1 fun u H2 G2 Γ2 M2 r2 k2 e2 rr2 h2 => ?_
  split at h2
  · rename_i y
    split at h2
    · rename_i key hy
      obtain ⟨bb, rfl, hb'⟩ := rep_keyT (show Rep K G1 y v from rr1) hy
      split at h2
      · rename_i t ht
        obtain ⟨l, L, rfl, s⟩ := dcTOf_ok k2 rr2 ht
        have ok := getT_ok (k := key) s.val
        rw [s.ks] at ok
        have e : (getR L key).isSome = (getT t.1 t.2 key).isSome := by
          cases hg : getT t.1 t.2 key with
          | some d => obtain ⟨x, hx, _⟩ := ok.1 d hg; rw [hx]; rfl
          | none => rw [ok.2 hg]; rfl
        refine ⟨l, L, key, bb, rfl, rfl, s.rd, s.key.mono k2.ex, ex_t k2.ex (ex_t e2.g hb'), ?_⟩
        rw [e]
        exact q _ H2 G2 Γ2 M2 (.dat (.bl _)) k2 (e1.trans e2) (by simp only [RepR, Rep]) h2
      · exact h2.elim
    · exact h2.elim
  · exact h2.elim
theorem q_tin (hu : X.A.units + 64 < cLine) (ha : QE X ρ a ta aa) (hb : QE X ρ b tb ab) (hm : behindInMarks .In b = false := by rfl) (hK : X.K = K := by rfl) : QE X ρ (.Compare a [.In] [b] pos) (tRIn K id ta tb) (aTIn id aa ab) := by
  subst hK; exact ⟨pe_cmp (pc_rin (by omega) ha.pe hb.pe) hm, rd_tin ha.rd hb.rd⟩
theorem q_tnotin (hu : X.A.units + 64 < cLine) (ha : QE X ρ a ta aa) (hb : QE X ρ b tb ab) (hm : behindInMarks .NotIn b = false := by rfl) (hK : X.K = K := by rfl) : QE X ρ (.Compare a [.NotIn] [b] pos) (tRIn K not ta tb) (aTIn not aa ab) := by
  subst hK; exact ⟨pe_cmp (pc_rnotin (by omega) ha.pe hb.pe) hm, rd_tin ha.rd hb.rd⟩
theorem qt_tin (hu : X.A.units + 64 < cLine) (ha : QE X ρ a ta aa) (hb : QE X ρ b tb ab) (hm : behindInMarks .In b = false := by rfl) (hK : X.K = K := by rfl) : QT X ρ (.Compare a [.In] [b] pos) (tB (tRIn K id ta tb)) (aTst (aTIn id aa ab)) := by
  subst hK; exact ⟨pt_cmp (pc_rin (by omega) ha.pe hb.pe) hm, rd_tst (rd_tin ha.rd hb.rd)⟩
theorem qt_tnotin (hu : X.A.units + 64 < cLine) (ha : QE X ρ a ta aa) (hb : QE X ρ b tb ab) (hm : behindInMarks .NotIn b = false := by rfl) (hK : X.K = K := by rfl) : QT X ρ (.Compare a [.NotIn] [b] pos) (tB (tRIn K not ta tb)) (aTst (aTIn not aa ab)) := by
  subst hK; exact ⟨pt_cmp (pc_rnotin (by omega) ha.pe hb.pe) hm, rd_tst (rd_tin ha.rd hb.rd)⟩
/-! ### sorted(d) -/
def aSortT (r : Ret) (Γ : Sl) (M : Mem) (Q : Ret → Sl → Mem → Prop) : Prop := match dcTOf r Γ M with
  | some t => (t.1.length < 64 ∧ ∃ n, ∀ r ∈ t.1, r.length = n ∧ TS.Bd 64 r) ∧ ∀ os : List (List Int), os.Pairwise (fun r q => HT.lexLt r q = true) → os.Perm t.1 → Q (.tmp (.lst (os.map rowD))) Γ M
  | none => False
theorem keys_rep {L : List RE} (h : KeyR K G L) : RepL K G ((L.map (·.1)).map rowD) (L.map fun q => V.ref q.2.1) := by
  induction L with
  | nil => exact repL_nil.mpr rfl
  | cons p L ih => exact repL_cons.mpr ⟨_, _, rfl, rep_tup.mpr ⟨p.2.1, _, rfl, h p List.mem_cons_self, repL_map_int.mpr rfl⟩, ih fun q hq => h q (List.mem_cons_of_mem _ hq)⟩
theorem q_sortT {p : Pos} (hm : X.mg "sorted" = none) (ha : QE X ρ a ta aa) (hc : X.calm = true := by rfl) (hg : Gl X "sorted" := by rfl) (na : starEach [a] X.env = (false, eval a X.env) :: starEach [] X.env := by rfl) (hK : X.K = K := by rfl) :
    QE X ρ (.Call (.Name "sorted" p) [a] [] pos) (tCB (rSortKeys K) (tCons ta tNil)) (aCall1 aSortT aa) := by
  subst hK
  refine q_callB1 (cr_sortKeys hc) ?_ hm ha hg (na := na)
  intro B σ H H1 G Γ M rx x Q R k r1 h q
  unfold aSortT at h
  split at h
  · rename_i t ht
    obtain ⟨⟨few, n, hn⟩, h⟩ := h
    obtain ⟨l, L, rfl, s⟩ := dcTOf_ok k r1 ht
    rw [← s.ks] at few hn
    refine ⟨l, L, n, rfl, s.rd, s.key.mono k.ex, by rw [List.length_map] at few; exact few, fun p hp => hn p.1 (List.mem_map.mpr ⟨p, hp, rfl⟩), fun L' p1 pm pw hp1 => ?_⟩
    refine q.newL k (keys_rep fun p hp => s.key p (pm.mem_iff.mp hp)) (h _ pw ?_) p1 hp1
    rw [← s.ks]
    exact pm.map (·.1)
  · exact h.elim
end
def e_aTNew := @aTNew.eq_def
def e_aTGet := @aTGet.eq_def
def e_aTGet2 := @aTGet2.eq_def
def e_aTPut := @aTPut.eq_def
def e_aTItems := @aTItems.eq_def
def e_aTIn := @aTIn.eq_def
def e_aSortT := @aSortT.eq_def
def e_dcTOf := @dcTOf.eq_def
end Gw

/-! dict(pairs), keys rows -/
namespace Gw
open PySem L2 PyProof.Rows
variable {ρ : Ent}
def putAllR (L ps : List RE) : List RE := ps.foldl (fun acc p => putR acc p.1 p.2.1 p.2.2) L
theorem stored_names {k : List Int} {b : Addr} {v : Value} : ∀ {xs : List REv}, (xs.map (·.1)).Nodup → ((storedH xs k b v).map (·.1)).Nodup ∧ ∀ x, x ∈ (storedH xs k b v).map (·.1) → x = k ∨ x ∈ xs.map (·.1)
  | [], _ => by simp [storedH, atKey]
  | x :: xs, nd => by
    rw [stored_cons nd]
    rw [List.map_cons, List.nodup_cons] at nd
    obtain ⟨i1, i2⟩ := stored_names (k := k) (b := b) (v := v) nd.2
    split
    · rename_i e
      refine ⟨by rw [List.map_cons, List.nodup_cons]; exact nd, fun y hy => .inr (by simpa using hy)⟩
    · rename_i e
      rw [List.map_cons, List.nodup_cons]
      refine ⟨⟨fun hm => ?_, i1⟩, fun y hy => ?_⟩
      · rcases i2 _ hm with z | z
        · exact e z
        · exact nd.1 z
      · rcases List.mem_cons.mp hy with rfl | hy
        · exact .inr (by simp)
        · rcases i2 y hy with z | z
          · exact .inl z
          · exact .inr (List.mem_cons_of_mem _ z)
theorem putAll_val {ps : List RE} {qs : List REv} (pr : Paired ReIs ps qs) : ∀ {L : List RE} {xs : List REv}, Paired ReIs L xs → (xs.map (·.1)).Nodup → Paired ReIs (putAllR L ps) (storedAllH xs qs) := by
  induction pr with
  | nil => intro L xs h _; exact h
  | @cons p q ps qs h _ ih =>
    intro L xs hL nd
    obtain ⟨h1, h2, h3⟩ := h
    have step := putR_val (k := p.1) (b := p.2.1) hL h3 nd
    show Paired ReIs (putAllR (putR L p.1 p.2.1 p.2.2) ps) (storedAllH (storedH xs q.1 q.2.1 q.2.2) qs)
    rw [← h1, ← h2]
    exact ih step (stored_names nd).1
theorem putAll_len : ∀ {ps L : List RE}, (putAllR L ps).length ≤ L.length + ps.length
  | [], L => Nat.le_refl _
  | p :: ps, L => by
    have a := putAll_len (ps := ps) (L := putR L p.1 p.2.1 p.2.2)
    have b := putR_len (k := p.1) (b := p.2.1) (v := p.2.2) (L := L)
    show (putAllR (putR L p.1 p.2.1 p.2.2) ps).length ≤ _
    simp only [List.length_cons]
    omega
section
variable {X : Cx} {a : Expr} {ta : TE} {aa : AE} {pos : Pos} {K : PySem.W.Frag} {pins : List (Addr × Obj)} {σ : L2.St} {H G : Hp} {s : Shared}
theorem read_pairs (I : Inv X pins σ H s) : ∀ {ts : List (Addr × RE)}, (∀ t ∈ ts, SqT X.K H t.1 [.ref t.2.2.1, t.2.2.2]) → ∃ xs : List REv, Paired ReIs (ts.map (·.2)) xs ∧ ∀ (j : Nat) (t : Addr × RE) (x : REv), ts[j]? = some t → xs[j]? = some x → s.heap.IsTuple t.1 #[.ref x.2.1, x.2.2]
  | [], _ => ⟨[], .nil, fun j t x h => by simp at h⟩
  | t :: ts, h => by
    obtain ⟨xs, pr, ix⟩ := read_pairs I fun t' ht' => h t' (List.mem_cons_of_mem _ ht')
    obtain ⟨its, rv, it, _⟩ := I.tuple (h t List.mem_cons_self)
    obtain ⟨u1, us, rfl, r1, rv⟩ : ∃ u1 us, its = u1 :: us ∧ RelV (.ref t.2.2.1) u1 ∧ Vals [t.2.2.2] us := by cases rv with | cons a b => exact ⟨_, _, rfl, a, b⟩
    obtain ⟨u2, rfl, r2⟩ := vals1 rv
    cases r1
    refine ⟨(t.2.1, t.2.2.1, u2) :: xs, .cons ⟨rfl, rfl, r2⟩ pr, fun j t' x h1 h2 => ?_⟩
    cases j with
    | zero => cases h1; cases h2; exact it
    | succ j => exact ix j t' x h1 h2
def rDictR (K : PySem.W.Frag) : List V → Hp → VK → Prop := fun xs H Q => ∃ (l : Addr) (ts : List (Addr × RE)), xs = [.ref l] ∧ SqL K H l (ts.map fun t => V.ref t.1) ∧ (∀ t ∈ ts, SqT K H t.1 [.ref t.2.2.1, t.2.2.2]) ∧ KeyR K H (ts.map (·.2)) ∧
  ∀ p, H p = none → Q (.ref p) (upd H p (DcO p (putAllR [] (ts.map (·.2)))))
theorem cr_dictR (hc : X.calm = true) (hu : X.A.units + 64 < cLine) : CallR X (.type "dict") (rDictR X.K) := by
  rintro pins s σ H xs us Q I r ⟨l, ts, rfl, hl, ht, hk, q⟩
  rw [Vals.ref1 r]
  obtain ⟨its, rv, pl, hz⟩ := I.list hl
  obtain ⟨vs, pr, ix⟩ := read_pairs I ht
  rw [List.length_map] at hz
  have ei : its = ts.map fun t => Value.ref t.1 := by
    have go : ∀ {ts : List (Addr × RE)} {its : List Value}, Vals (ts.map fun t => V.ref t.1) its → its = ts.map fun t => Value.ref t.1 := by
      intro ts
      induction ts with
      | nil => intro its h; cases h; rfl
      | cons t ts ih => intro its h; cases h with | cons a b => cases a; rw [ih b]; rfl
    exact go rv
  have lv : vs.length = ts.length := by rw [← Paired.length pr, List.length_map]
  have hi : PairItems s.heap its.toArray (fun j => ((ts[j]?).map (·.1)).getD 0) (vs.map fun x => (Value.ref x.2.1, x.2.2)) := by
    refine ⟨by rw [List.size_toArray, ei, List.length_map, List.length_map, lv], fun j k v e => ?_⟩
    rw [List.getElem?_map, Option.map_eq_some_iff] at e
    obtain ⟨x, hx, e⟩ := e
    cases e
    have hj : j < ts.length := by rw [← lv]; exact (List.getElem?_eq_some_iff.mp hx).1
    have et := List.getElem?_eq_getElem hj
    refine ⟨?_, ?_⟩
    · rw [List.getElem?_toArray, ei, List.getElem?_map]; dsimp only; rw [et]; rfl
    · dsimp only; rw [et]; exact .inl (ix j _ x et hx)
  have keys : ∀ {L : List RE} {ws : List REv}, Paired ReIs L ws → KeyR X.K H L → ∀ x ∈ ws, (RK X.prog X.w).is s.heap x.1 x.2.1 := by
    intro L ws pr
    induction pr with
    | nil => intro _ x hx; cases hx
    | @cons p q L ws h _ ih =>
      intro hk x hx
      rcases List.mem_cons.mp hx with rfl | hx
      · have := I.isT (hk p List.mem_cons_self)
        rw [h.1, h.2.1] at this
        exact this
      · exact ih (fun p hp => hk p (List.mem_cons_of_mem _ hp)) x hx
  refine call_dict_pairsH (knd := RK X.prog X.w) (ps := vs) (PairArg.list l its.toArray _ (vs.map fun x => (Value.ref x.2.1, x.2.2))) (I.ok.hd hc) (tupleKind_room_in1 (A := X.A.in1) (by show X.A.units + 1 + 1 < cLine; omega)) ⟨?_, hi⟩ ?_ ?_ (by rw [List.length_map, lv]; exact hz) fun h' tk dd kp => ?_
  · exact pl
  · refine ⟨(List.length_map _).symm, fun i key v e => ?_⟩
    have e : (vs.map fun x => (Value.ref x.2.1, x.2.2))[i]? = some (key, v) := e
    rw [List.getElem?_map, Option.map_eq_some_iff] at e
    obtain ⟨x, hx, e⟩ := e
    cases e
    exact ⟨x.1, x.2.1, hx, rfl⟩
  · intro h' kp x hx
    have kx := keys pr hk x hx
    obtain ⟨o, items, n, ho, r⟩ := kx
    exact ⟨o, items, n, kp _ o (Nat.ne_of_lt (Heap.lt_size ho)) (by simp) ho, r⟩
  · obtain ⟨o, es, ep, h1, h2, h3, h4, _, h5⟩ := dd
    have few : (putAllR [] (ts.map (·.2))).length ≤ sizeLine := Nat.le_trans putAll_len (by simp; omega)
    exact ⟨.ref _, _, I.laid (t' := tk) (o := DcO s.heap.objs.size (putAllR [] (ts.map (·.2)))) (fun b u e => kp b u (by simp) e) (Nat.le_refl _) (dcO_ok ⟨⟨_, putAll_val pr .nil List.nodup_nil, o, es, ep, h1, h2, h3, h4, h5⟩, few, beq_eq_false_iff_ne.mpr (Ne.symm (Nat.ne_of_lt I.big))⟩), rfl, q _ (I.hok.fresh (Nat.le_refl _))⟩
/-! ### the reading -/
def pairsT : List D → Option (List (List Int × D))
  | [] => some []
  | d :: ds => match d with
    | .tup [k, e] => match keyT k, pairsT ds with
      | some r, some ps => some ((r, e) :: ps)
      | _, _ => none
    | _ => none
def putAllT (t : List (List Int) × List D) (ps : List (List Int × D)) : List (List Int) × List D := ps.foldl (fun t p => putT t.1 t.2 p.1 p.2) t
theorem pairsT_ok : ∀ {ds : List D} {ps : List (List Int × D)} {xs : List V}, pairsT ds = some ps → RepL K G ds xs → ∃ ts : List (Addr × RE), xs = ts.map (fun t => V.ref t.1) ∧ (∀ t ∈ ts, SqT K G t.1 [.ref t.2.2.1, t.2.2.2]) ∧ KeyR K G (ts.map (·.2)) ∧ Paired (fun (p : List Int × D) (t : Addr × RE) => p.1 = t.2.1 ∧ Rep K G p.2 t.2.2.2) ps ts
  | [], ps, xs, h, r => by
    cases h
    exact ⟨[], repL_nil.mp r, by simp, fun _ z => (List.not_mem_nil z).elim, .nil⟩
  | d :: ds, ps, xs, h, r => by
    obtain ⟨x, xr, rfl, h1, h2⟩ := repL_cons.mp r
    unfold pairsT at h
    split at h
    · rename_i k e
      split at h
      · rename_i row ps' hk hp
        cases h
        obtain ⟨ts, rfl, t1, t2, t3⟩ := pairsT_ok hp h2
        obtain ⟨t, ys, rfl, hT, ry⟩ := rep_tup.mp h1
        obtain ⟨y1, yr, rfl, r1, ry⟩ := repL_cons.mp ry
        obtain ⟨y2, yr2, rfl, r2, ry⟩ := repL_cons.mp ry
        cases repL_nil.mp ry
        obtain ⟨b, rfl, hb⟩ := rep_keyT r1 hk
        refine ⟨(t, row, b, y2) :: ts, rfl, fun t' ht' => ?_, fun p hp' => ?_, .cons ⟨rfl, r2⟩ t3⟩
        · rcases List.mem_cons.mp ht' with rfl | ht'
          · exact hT
          · exact t1 t' ht'
        · rcases List.mem_cons.mp hp' with rfl | hp'
          · exact hb
          · exact t2 p hp'
      · cases h
    · cases h
theorem putAllT_ok {ps : List (List Int × D)} {ts : List (Addr × RE)} (pr : Paired (fun (p : List Int × D) (t : Addr × RE) => p.1 = t.2.1 ∧ Rep K G p.2 t.2.2.2) ps ts) : ∀ {L : List RE} {t : List (List Int) × List D}, L.map (·.1) = t.1 → KeyR K G L → RepL K G t.2 (L.map (·.2.2)) → KeyR K G (ts.map (·.2)) →
    (putAllR L (ts.map (·.2))).map (·.1) = (putAllT t ps).1 ∧ KeyR K G (putAllR L (ts.map (·.2))) ∧ RepL K G (putAllT t ps).2 ((putAllR L (ts.map (·.2))).map (·.2.2)) := by
  induction pr with
  | nil => intro L t h1 h2 h3 _; exact ⟨h1, h2, h3⟩
  | @cons p q ps ts h _ ih =>
    intro L t h1 h2 h3 h4
    obtain ⟨e1, rv⟩ := h
    have st := putT_ok (k := q.2.1) (bb := q.2.2.1) rv h3
    rw [h1] at st
    have kb : SqT K G q.2.2.1 (q.2.1.map V.int) := h4 q.2 (by simp)
    have f1 : putAllR L ((q :: ts).map (·.2)) = putAllR (putR L q.2.1 q.2.2.1 q.2.2.2) (ts.map (·.2)) := rfl
    have f2 : putAllT t (p :: ps) = putAllT (putT t.1 t.2 q.2.1 p.2) ps := by rw [← e1]; rfl
    rw [f1, f2]
    exact ih st.1 (putR_keys kb h2) st.2 fun r hr => h4 r (by simp only [List.map_cons]; exact List.mem_cons_of_mem _ hr)
def aDictT (r : Ret) (Γ : Sl) (M : Mem) (Q : Ret → Sl → Mem → Prop) : Prop := match sqOf r Γ M with
  | some (.lst ds) => match pairsT ds with
    | some ps => Q (.tmp (.dcT (putAllT ([], []) ps).1 (putAllT ([], []) ps).2)) Γ M
    | none => False
  | _ => False
theorem q_dictT {p : Pos} (hu : X.A.units + 64 < cLine) (hm : X.mg "dict" = none) (ha : QE X ρ a ta aa) (hc : X.calm = true := by rfl) (hg : Gl X "dict" := by rfl) (na : starEach [a] X.env = (false, eval a X.env) :: starEach [] X.env := by rfl) (hK : X.K = K := by rfl) :
    QE X ρ (.Call (.Name "dict" p) [a] [] pos) (tCB (rDictR K) (tCons ta tNil)) (aCall1 aDictT aa) := by
  subst hK
  refine q_callT1 (cr_dictR hc hu) ?_ hm ha hg (na := na)
  intro B σ H H1 G Γ M rx x Q R k r1 h q
  unfold aDictT at h
  split at h
  · rename_i ds hs
    split at h
    · rename_i ps hp
      obtain ⟨l, xs, rfl, hl, rl⟩ := sqOf_ok k r1 hs
      obtain ⟨ts, rfl, t1, t2, t3⟩ := pairsT_ok hp rl
      refine ⟨l, ts, rfl, SqL.of hl, fun t ht => ex_t k.ex (t1 t ht), t2.mono k.ex, fun p0 hp0 => ?_⟩
      obtain ⟨k2, e2, hm', hn, hb, hg'⟩ := k.tmp (o := DcO p0 (putAllR [] (ts.map (·.2)))) hp0
      obtain ⟨o1, o2, o3⟩ := putAllT_ok t3 (L := []) (t := ([], [])) rfl (fun _ z => (List.not_mem_nil z).elim) (repL_nil.mpr rfl) t2
      exact q _ _ _ Γ M (.tmp (.dcT _ _)) k2 e2 ⟨p0, rfl, hp0, hb, ⟨hg', _, upd_same, _, rfl, o1, o2, o3⟩, hm', hn⟩ h
    · exact h.elim
  · exact h.elim
end
def e_aDictT := @aDictT.eq_def
end Gw

/-! {k: v for .. in ..}, keys rows -/
namespace Gw
open PySem L2 PyProof.Rows
variable {ρ : Ent}
section
variable {X : Cx} {kx vx tg iter : Expr} {ifs : List Expr} {scope : Scope} {own : List (Str × Nat)} {pos : Pos} {wi : TI} {g : TG} {tt : TT} {tk tv : TE} {pins : List (Addr × Obj)} {σ : L2.St} {H : Hp} {s : Shared}
/-- what one turn adds -/
def stepR (K : PySem.W.Frag) (p : Addr) (g : TG) (tt : TT) (tk tv : TE) (vs : List Nat) (σ : L2.St) (x : V) (H : Hp) (Nx : Hp → Prop) : Prop := g x (wipe σ vs) H fun σ2 H2 => wipe σ2 vs = wipe σ vs ∧ tt σ2 H2 fun b H3 =>
  if b = true then tk σ2 H3 fun y H4 => tv σ2 H4 fun z H5 => ∃ L k b, y = .ref b ∧ H5 p = some (DcO p L) ∧ KeyR K H5 L ∧ SqT K H5 b (k.map V.int) ∧ L.length < sizeLine ∧ Nx (upd H5 p (DcO p (putR L k b z))) else Nx H3
def tDcR (K : PySem.W.Frag) (wi : TI) (g : TG) (tt : TT) (tk tv : TE) (vs : List Nat) : TE := fun σ H Q => wi σ H fun J H1 => ∀ p, H1 p = none → ∃ W : Nat → Nat → Hp → Prop, (∃ m, W 0 m (upd H1 p (DcO p []))) ∧ ∀ i m H, W i m H →
  (J.stop i H ∧ Q (.ref p) H) ∨ (J.go i H ∧ ∃ Nx : Hp → Prop, (∀ H', Nx H' → ∃ m', m' < m ∧ W (i + 1) m' H') ∧ ∀ x H', J.yld i H x H' → stepR K p g tt tk tv vs σ x H' Nx)
theorem set_row {p b : Addr} {L : List RE} {k : List Int} {v : V} {r : Value} {E : Value → Shared → Prop} {Q : Unit → Shared → Prop} (hu : X.A.units + 1 < cLine) (I : Inv X pins σ H s) (d : H p = some (DcO p L)) (hk : KeyR X.K H L) (hb : SqT X.K H b (k.map V.int)) (hl : L.length < sizeLine) (rv : RelV v r)
    (h : ∀ s', Inv X pins σ (upd H p (DcO p (putR L k b v))) s' → Q () s') : wpAny (model X.prog X.w) X.A (dictSet p (.ref b) r) Q E s := by
  obtain ⟨t, xs, pr, dd⟩ := dc_rd I (.inl d) hk
  have nd : (xs.map (·.1)).Nodup := let ⟨_, _, _, _, _, _, _, _, n⟩ := dd; n
  have few : xs.length ≤ sizeLine := by rw [← Paired.length pr]; exact t.few
  refine wpAny_dictSet_heap (knd := RK X.prog X.w) (hsz := few) (show X.A.units < cLine by omega) (I.isT hb) dd fun h' dd' sb => h _ (d_write I (by rw [d]; exact True.intro) sb ?_ ?_)
  · obtain ⟨o, _, _, ho, _⟩ := dd'; exact ⟨o, ho⟩
  · obtain ⟨o, es, ep, h1, h2, h3, h4, _, h5⟩ := dd'
    exact dcO_ok ⟨⟨_, putR_val pr rv nd, o, es, ep, h1, h2, h3, h4, h5⟩, Nat.le_trans putR_len hl, t.sys⟩
/-- the block's loop -/
theorem loopR {s3 s4 : Shared} {H3 : Hp} {ce : Env} {fp : List Addr} {it p : Addr} {tn : Nat → Heap → Prop} {J : It} {W : Nat → Nat → Hp → Prop} {vs : List Nat} {Qd : Hp → Prop} {R : Result → Shared → Prop} {m0 : Nat} (hc : X.calm = true) (hu : X.A.units + 1 < cLine)
    (T : Turn X.prog X.w X.K tg J fp it tn) (pg : PG (X.blk s3 H3 scope ce fp) tg g) (pt : PTs (X.blk s3 H3 scope ce fp) ifs tt) (pk : PE (X.blk s3 H3 scope ce fp) kx tk) (pv : PE (X.blk s3 H3 scope ce fp) vx tv)
    (fpY : ∀ {σ' : L2.St} {H' : Hp} {s' : Shared}, Inv (X.blk s3 H3 scope ce fp) [] σ' H' s' → (∀ b ∈ fp, H' b = none) → ∀ b ∈ fp, FpOk (X.blk s3 H3 scope ce fp) [] H' b)
    (turn : ∀ i m H, W i m H → (J.stop i H ∧ Qd H) ∨ (J.go i H ∧ ∃ Nx : Hp → Prop, (∀ H', Nx H' → ∃ m', m' < m ∧ W (i + 1) m' H') ∧ ∀ x H', J.yld i H x H' → stepR X.K p g tt tk tv vs σ x H' Nx))
    (I0 : Inv (X.blk s3 H3 scope ce fp) [] (wipe σ vs) H3 s4) (st0 : tn 0 s4.heap) (nf0 : ∀ b ∈ fp, H3 b = none) (w0 : W 0 m0 H3)
    (hend : ∀ H' s', Inv (X.blk s3 H3 scope ce fp) [] (wipe σ vs) H' s' → Qd H' → R (.ok .next) s') :
    codeAny (model X.prog X.w) X.A (.compLoop (.DictComp kx vx [⟨tg, iter, ifs, 0⟩] scope pos) 0 (.ref it) (.ref p) ce) R s4 := by
  refine compLoop_anyD (fun n s' => ∃ i H', Inv (X.blk s3 H3 scope ce fp) [] (wipe σ vs) H' s' ∧ tn i s'.heap ∧ (∀ b ∈ fp, H' b = none) ∧ W i n H') ?_ m0 ⟨0, H3, I0, st0, nf0, w0⟩
  rintro n sa ⟨i, Ha, Ia, sta, nfa, wa⟩
  rcases turn i n Ha wa with ⟨stop, qd⟩ | ⟨go, Nx, hNx, step⟩
  · refine thnF (T.done (X.blk s3 H3 scope ce fp) rfl rfl rfl hc i [] sa _ Ha (fun _ _ => False) Ia (fpY Ia nfa) sta stop) fun r sb hb => ?_
    rw [hb.1]
    exact hend Ha sb hb.2 qd
  refine thnF (T.item (X.blk s3 H3 scope ce fp) rfl rfl rfl hc i [] sa _ Ha (fun _ _ => False) Ia (fpY Ia nfa) sta go) fun r sb ⟨u, er, hb⟩ => ?_
  rw [er]
  refine thnF hb fun _ sc ⟨x, Hc, Ic, rx, yc, stc, nfc⟩ => ?_
  refine thnF (pg.run _ sc _ Hc x u _ (Ic.pinned (fpY Ic nfc) (T.obj _ _ stc)) rx (step x Hc yc)) fun _ sd ⟨σd, Hd, Id, wd, qd⟩ => ?_
  -- back at the head of the loop
  have back : ∀ {s' : Shared} {H' : Hp}, Inv (X.blk s3 H3 scope ce fp) ([] ++ pinsAt fp sc.heap) σd H' s' → Nx H' → ∃ m, m < n ∧ ∃ i H', Inv (X.blk s3 H3 scope ce fp) [] (wipe σ vs) H' s' ∧ tn i s'.heap ∧ (∀ b ∈ fp, H' b = none) ∧ W i m H' := fun {s' H'} I' nx => by
    obtain ⟨m', lt, w'⟩ := hNx H' nx
    have still : ∀ b ∈ fp, ∀ o, sc.heap.get? b = some o → s'.heap.get? b = some o ∧ H' b = none := fun b mb o e => by
      have z := I'.pin (b, o) (List.mem_append_right _ (List.mem_append_right _ (mem_pinsAt mb e)))
      exact ⟨z.1, z.2.1⟩
    have J' := (I'.unpinned (pins := [])).weak (σ' := wipe σ vs) (by rw [← wd, wipe_length]) fun j v e => by rw [← wd] at e; exact (wipe_some e).1
    refine ⟨m', lt, i + 1, H', J', T.keep _ _ _ stc fun b mb o e => (still b mb o e).1, fun b mb => ?_, w'⟩
    obtain ⟨o, e, _⟩ := T.obj _ _ stc b mb
    exact (still b mb o e).2
  refine thnF (pt.run _ sd σd Hd _ Id qd) fun t se ⟨He, Ie, qe⟩ => ?_
  cases t with
  | false => exact back Ie qe
  | true =>
    refine thnF (pk.run _ se σd He _ Ie qe) fun uk sf ⟨y, Hf, If, ry, qf⟩ => ?_
    refine thnF (pv.run _ sf σd Hf _ If qf) fun uv sg ⟨z, Hg, Ig, rz, L, k, b, ey, d, hk, hb', hl, nx⟩ => ?_
    subst ey
    cases ry
    exact set_row (X := X.blk s3 H3 scope ce fp) hu Ig d hk hb' hl rz fun sh Ih => back Ih nx
theorem pe_dcR (hc : X.calm = true) (hu : X.A.units + 1 < cLine) (hN : X.N.Nodup) (hi : PI X tg iter wi) (ok : BlkOk X.N X.env.scope scope own)
    (hg : ∀ (s : Shared) (H : Hp) (C : Addr) (cl : List (Str × Addr)) (fp : List Addr), PG (X.blk s H scope (compEnvC scope cl C X.env) fp) tg g) (ht : ∀ (s : Shared) (H : Hp) (C : Addr) (cl : List (Str × Addr)) (fp : List Addr), PTs (X.blk s H scope (compEnvC scope cl C X.env) fp) ifs tt)
    (hk : ∀ (s : Shared) (H : Hp) (C : Addr) (cl : List (Str × Addr)) (fp : List Addr), PE (X.blk s H scope (compEnvC scope cl C X.env) fp) kx tk) (hv : ∀ (s : Shared) (H : Hp) (C : Addr) (cl : List (Str × Addr)) (fp : List Addr), PE (X.blk s H scope (compEnvC scope cl C X.env) fp) vx tv)
    (hs : ∀ x, foldedSetIterable iter X.env x = pure x := by intro _; rfl) : PE X (.DictComp kx vx [⟨tg, iter, ifs, 0⟩] scope pos) (tDcR X.K wi g tt tk tv (own.map (·.2))) := ⟨fun pins s σ H Q I h => by
  rw [arm_eval_DictComp]
  have outs : ∀ y ∈ scope.names, y.2 = .free → ∃ c, X.env.cells.lookup y.1 = some c := fun y m f => (ok.free y m f).elim (fun z => I.ok.has _ (.inl z)) fun z => I.ok.has _ (.inr z)
  refine wpAny_comprehension_free (use := none) rfl hs (closure_ok outs) ok.kind (fun y m f => by rw [ok.uniq y m, f]) (thn (hi.run pins s σ H _ I h) fun _ _ ha => thn ha fun _ sb hb => ?_)
  obtain ⟨it, fp, tn, J, Hb, rfl, Ib, T, stb, fb, q⟩ := hb
  refine wpAny_newObj_type (newEnv_comp ?_)
  have np : Hb sb.heap.objs.size = none := Ib.hok.fresh (Nat.le_refl _)
  obtain ⟨W, ⟨m0, w0⟩, turn⟩ := q _ np
  -- the dict stands
  have I3 : Inv X pins σ (upd Hb sb.heap.objs.size (DcO sb.heap.objs.size [])) { sb with heap := sb.heap.push { cls := .type "dict", data := .dict #[] } } := Ib.laid (t' := sb.toks) (fun b o e => Heap.get?_push_of_some _ e) (Nat.le_refl _)
    (dcO_ok ⟨⟨[], .nil, _, #[], 0, Heap.get?_push_size _ rfl, ⟨rfl, rfl, rfl⟩, rfl, rfl, List.nodup_nil⟩, Nat.zero_le _, beq_eq_false_iff_ne.mpr (Ne.symm (Nat.ne_of_lt Ib.big))⟩)
  have f3 : ∀ b ∈ fp, FpOk X pins (upd Hb sb.heap.objs.size (DcO sb.heap.objs.size [])) b ∧ b < (sb.heap.push { cls := .type "dict", data := .dict #[] }).objs.size := fun b mb => by
    obtain ⟨o, e, _⟩ := T.obj _ _ stb b mb
    have lt := Heap.lt_size e
    exact ⟨⟨by rw [upd_ne (Nat.ne_of_lt lt)]; exact (fb b mb).1, (fb b mb).2⟩, by rw [Heap.size_push]; exact Nat.lt_succ_of_lt lt⟩
  have st3 : tn 0 (sb.heap.push { cls := .type "dict", data := .dict #[] }) := T.keep _ _ _ stb fun b _ o e => Heap.get?_push_of_some _ e
  generalize hs3 : ({ sb with heap := sb.heap.push { cls := .type "dict", data := .dict #[] } } : Shared) = s3 at *
  have h3 : s3.heap = sb.heap.push { cls := .type "dict", data := .dict #[] } := by rw [← hs3]
  rw [← h3] at f3 st3
  generalize upd Hb sb.heap.objs.size (DcO sb.heap.objs.size []) = H3 at *
  have I4 := block_start I3 ok hN f3
  have pg := hg s3 H3 s3.heap.objs.size (cellsFrom (s3.heap.objs.size + 1) scope.names (cloFrom X.env.cells scope.names [])) fp
  have pt := ht s3 H3 s3.heap.objs.size (cellsFrom (s3.heap.objs.size + 1) scope.names (cloFrom X.env.cells scope.names [])) fp
  have pk := hk s3 H3 s3.heap.objs.size (cellsFrom (s3.heap.objs.size + 1) scope.names (cloFrom X.env.cells scope.names [])) fp
  have pv := hv s3 H3 s3.heap.objs.size (cellsFrom (s3.heap.objs.size + 1) scope.names (cloFrom X.env.cells scope.names [])) fp
  have nf : ∀ b ∈ fp, H3 b = none := fun b mb => (f3 b mb).1.1
  have st4 : tn 0 (pushCells (s3.heap.push { cls := .type "dict", data := .dict #[] }) scope.names) := T.keep _ _ _ st3 fun b _ o e => pushCells_keeps _ _ _ _ (Heap.get?_push_of_some _ e)
  show codeAny _ _ (.compStart (.DictComp kx vx [⟨tg, iter, ifs, 0⟩] scope pos) 0 (.ref it) (.ref sb.heap.objs.size) (compEnvC scope (cellsFrom (s3.heap.objs.size + 1) scope.names (cloFrom X.env.cells scope.names [])) s3.heap.objs.size X.env)) (compPost (model X.prog X.w) X.A X.xe none (EP X pins σ Q) (.ref sb.heap.objs.size) s3.heap.objs.size) _
  have cL : (compEnvC scope (cellsFrom (s3.heap.objs.size + 1) scope.names (cloFrom X.env.cells scope.names [])) s3.heap.objs.size X.env).locals = s3.heap.objs.size := rfl
  generalize compEnvC scope (cellsFrom (s3.heap.objs.size + 1) scope.names (cloFrom X.env.cells scope.names [])) s3.heap.objs.size X.env = ce at *
  have loop := loopR (iter := iter) (pos := pos) (R := compPost (model X.prog X.w) X.A X.xe none (EP X pins σ Q) (.ref sb.heap.objs.size) s3.heap.objs.size) hc hu T pg pt pk pv
    (fun I' hn b mb => ⟨hn b mb, (I'.ok.exf b mb).1, I'.ok.exfs b mb, .inl mb, fun x c e => (I'.ok.exf b mb).2 x c e, fun z hz => absurd (show z ∈ ([] : List (Addr × Obj)) ++ [] from hz) (by simp)⟩) turn I4 st4 nf w0 fun H' s' I' qd => by
      have I7 : Inv X pins σ H' s' := I3.call' (ch := fp) I'.os I'.base I'.hok I'.bare fun b mb => ⟨(f3 b mb).1.2.2.2.1, (f3 b mb).1.2.1, (f3 b mb).1.2.2.2.2.1, (f3 b mb).1.2.2.2.2.2⟩
      have nC : H' s3.heap.objs.size = none := by have z : H' ce.locals = none := I'.free; rwa [cL] at z
      obtain ⟨m, hn, _⟩ := I'.loc
      have hn : s'.heap.Ns ce.locals m := hn
      rw [cL] at hn
      obtain ⟨f0, f1, _, f3', f4, f5⟩ := I3.fpOk (Nat.le_refl s3.heap.objs.size) nC
      exact ⟨m, hn, fun h2 same => ⟨.ref _, H', I7.turned (t' := s'.toks) (fun b o hb e => (same.2 b hb).trans e) f0 f1 f3' f4 f5, rfl, qd⟩⟩
  exact codeAny_compStart_dict loop (T.self X.A 0 _ _ _ st4 loop)⟩
end
/-! ### the reading -/
section
variable {X : Cx} {kx vx tg iter : Expr} {ifs : List Expr} {pos : Pos} {tk tv : TE} {ak av : AE} {K : PySem.W.Frag} {B : Ent} {σ σ' σ0 : L2.St} {H G H0 G0 H2 G2 : Hp} {Γ Γ' Γ0 Γ2 : Sl} {M M0 M2 : Mem} {p : Addr} {vs : List Nat} {c : Cell}
/-- a cell at p that grows, seen from an earlier state (0) -/
structure Grows (K : PySem.W.Frag) (ρ : Ent) (B : Ent) (p : Addr) (σ0 : L2.St) (H0 G0 : Hp) (Γ0 : Sl) (M0 : Mem) (vs : List Nat) (c : Cell) (σ : L2.St) (H G : Hp) (Γ : Sl) (M : Mem) : Prop where
  ok : Ok K ρ B σ H G Γ M
  g : Ex G0 G
  tmp : ∀ a o, H0 a = some o → G0 a = none → a ∉ dom M0 → ¬ owned σ0 Γ0 a → H a = some o ∧ G a = none ∧ a ∉ dom M ∧ ¬ owned σ Γ a
  nn : ∀ a, H a = none → H0 a = none
  wi : ∀ (j : Nat) (s : Slot), Γ[j]? = some s → s ≠ .non → j ∉ vs
  here : Cel K H G p c
  mp : p ∉ dom M
  op : ¬ owned σ Γ p
  base : B.H p = none ∧ H0 p = none
theorem Grows.es (w : Grows K ρ B p σ0 H0 G0 Γ0 M0 vs c σ H G Γ M) (k : Ok K ρ B σ H2 G2 Γ2 M2) (e : Es σ H G Γ M H2 G2 Γ2 M2) : Grows K ρ B p σ0 H0 G0 Γ0 M0 [] c σ H2 G2 Γ2 M2 := by
  obtain ⟨gp, o, hp, hc⟩ := w.here
  obtain ⟨p1, p2, p3, p4⟩ := e.tmp p _ hp gp w.mp w.op
  refine ⟨k, w.g.trans e.g, fun a o h g m n => ?_, fun a z => w.nn a (e.nn a z), fun j s _ _ => by simp, ⟨p2, o, p1, hc.mono e.g⟩, p3, p4, w.base⟩
  obtain ⟨a1, a2, a3, a4⟩ := w.tmp a o h g m n
  exact e.tmp a o a1 a2 a3 a4
theorem Grows.to (w : Grows K ρ B p σ0 H0 G0 Γ0 M0 vs c σ H G Γ M) (k : Ok K ρ B σ' H G Γ' M) (o : ∀ x, owned σ' Γ' x → owned σ Γ x) {us : List Nat} (hw : ∀ (j : Nat) (s : Slot), Γ'[j]? = some s → s ≠ .non → j ∉ us) : Grows K ρ B p σ0 H0 G0 Γ0 M0 us c σ' H G Γ' M := by
  refine ⟨k, w.g, fun a o' h g m n => ?_, w.nn, hw, w.here, w.mp, fun z => w.op (o _ z), w.base⟩
  obtain ⟨a1, a2, a3, a4⟩ := w.tmp a o' h g m n
  exact ⟨a1, a2, a3, fun z => a4 (o _ z)⟩
theorem Grows.put {c' : Cell} {u : HO} (w : Grows K ρ B p σ0 H0 G0 Γ0 M0 vs c σ H G Γ M) (hu : CellOk K G p c' u) : Grows K ρ B p σ0 H0 G0 Γ0 M0 vs c' σ (upd H p u) G Γ M := by
  obtain ⟨gp, o, hp, hc⟩ := w.here
  refine ⟨w.ok.updTmp' hp w.base.1 gp w.mp w.op, w.g, fun a o h g m n => ?_, fun a z => ?_, w.wi, ⟨gp, u, upd_same, hu⟩, w.mp, w.op, w.base⟩
  · obtain ⟨a1, a2, a3, a4⟩ := w.tmp a o h g m n
    exact ⟨by rw [upd_ne (ne_of_none h w.base.2)]; exact a1, a2, a3, a4⟩
  · by_cases e : a = p
    · subst e; exact w.base.2
    · rw [upd_ne e] at z; exact w.nn a z
theorem Grows.enter (w : Grows K ρ B p σ0 H0 G0 Γ0 M0 vs c σ H G Γ M) : Grows K ρ B p σ0 H0 G0 Γ0 M0 vs c (wipe σ vs) H G Γ M := by
  obtain ⟨k, o⟩ := w.ok.agree (σ' := wipe σ vs) (Γ' := Γ) (fun j s a b => ⟨a, wipe_out (w.wi j s a b)⟩) (by rw [wipe_length]; exact w.ok.len)
  exact w.to k o w.wi
theorem Grows.leave (w : Grows K ρ B p σ0 H0 G0 Γ0 M0 [] c σ' H G Γ M) (hw : wipe σ' vs = wipe σ vs) : Grows K ρ B p σ0 H0 G0 Γ0 M0 vs c σ H G (wipeS Γ vs) M := by
  have ag : ∀ j, j ∉ vs → σ[j]? = σ'[j]? := fun j hj => by rw [← wipe_out (σ := σ') hj, hw, wipe_out hj]
  have hl : σ'.length = σ.length := by rw [← wipe_length σ' vs, hw, wipe_length]
  obtain ⟨k, o⟩ := w.ok.agree (σ' := σ) (Γ' := wipeS Γ vs) (fun j s a b => ⟨(wipeS_some a b).1, ag j (wipeS_some a b).2⟩) (by rw [wipeS_length, w.ok.len, hl])
  exact w.to k o fun j s a b => (wipeS_some a b).2
def aDcL (g : AG) (tt : AT) (ak av : AE) (vs : List Nat) (k : List (List Int) × List D → Sl → Mem → Prop) : List D → List (List Int) × List D → Sl → Mem → Prop
  | [], t, Γ, M => k t Γ M
  | d :: ds, t, Γ, M => g d Γ fun Γ1 => tt Γ1 M fun b Γ2 M2 => if b = true then ak Γ2 M2 fun rk Γ3 M3 => match rk with
      | .dat y => match keyT y with
        | some key => av Γ3 M3 fun rv Γ4 M4 => frz rv Γ4 fun e Γ5 => t.1.length < sizeLine ∧ aDcL g tt ak av vs k ds (putT t.1 t.2 key e) (wipeS Γ5 vs) M4
        | none => False
      | _ => False
    else aDcL g tt ak av vs k ds t (wipeS Γ2 vs) M2
structure WitD (k : List (List Int) × List D → Sl → Mem → Prop) : Type where
def dcW (g : AG) (tt : AT) (ak av : AE) (vs : List Nat) (k : List (List Int) × List D → Sl → Mem → Prop) (_ : WitD k) (ds : List D) (t : List (List Int) × List D) (Γ : Sl) (M : Mem) : Prop := aDcL g tt ak av vs k ds t Γ M
def aDcR (ai : AI) (g : AG) (tt : AT) (ak av : AE) (vs : List Nat) (Γ : Sl) (M : Mem) (Q : Ret → Sl → Mem → Prop) : Prop := ai Γ M fun ds Γ1 M1 => dcW g tt ak av vs (fun t Γ2 M2 => Q (.tmp (.dcT t.1 t.2)) Γ2 M2) ⟨⟩ ds ([], []) (wipeS Γ1 vs) M1
theorem rd_dcR {wi : TI} {ai : AI} {g : TG} {ag : AG} {is : List Nat} {tt : TT} {at' : AT} (hi : RdI K ρ wi ai) (hg : RdG K ρ g ag is) (hsub : ∀ j ∈ is, j ∈ vs) (ht : RdT K ρ tt at') (hk : RdE K ρ tk ak) (hv : RdE K ρ tv av) : RdE K ρ (tDcR K wi g tt tk tv vs) (aDcR ai ag at' ak av vs) := by
  intro B σ H G Γ M Q R k h q
  refine hi B σ H G Γ M _ _ k h fun J H1 G1 Γ1 M1 ds k1 e1 w h1 p hp => ?_
  obtain ⟨GG, Y, wk, hGG, hY⟩ := w.w
  obtain ⟨k1t, e1t, hm1, hn1, hb1, hg1⟩ := k1.tmp (o := DcO p []) hp
  have start : Grows K ρ B p σ H1 G1 Γ1 M1 [] (.dcT [] []) σ (upd H1 p (DcO p [])) G1 Γ1 M1 := ⟨k1t, e1t.g, e1t.tmp, e1t.nn, fun j s _ _ => by simp, ⟨hg1, _, upd_same, [], rfl, rfl, fun _ z => (List.not_mem_nil z).elim, repL_nil.mpr rfl⟩, hm1, hn1, hb1, hp⟩
  refine turns_it wk (fun i H2 => ∃ G2 Γ2 M2 t, Grows K ρ B p σ H1 G1 Γ1 M1 vs (.dcT t.1 t.2) σ H2 G2 Γ2 M2 ∧ aDcL ag at' ak av vs (fun t Γ2 M2 => Q (.tmp (.dcT t.1 t.2)) Γ2 M2) (ds.drop i) t Γ2 M2) ?_ ?_ ?_ ?_
  · exact ⟨G1, wipeS Γ1 vs, M1, ([], []), start.leave rfl, h1⟩
  · rintro i H2 _ ⟨G2, Γ2, M2, t, gr, _⟩
    exact hGG H2 (gr.g.trans gr.ok.ex)
  · rintro i x H2 H2' hin ⟨G2, Γ2, M2, t, gr, h2⟩ y
    rw [List.drop_eq_getElem_cons hin] at h2
    obtain ⟨G3, k3, e3, rp⟩ := (hY i H2 x H2' _ (List.getElem?_eq_getElem hin) (gr.g.trans gr.ok.ex) y).ok gr.ok gr.g
    have gr3 := ((gr.es k3 e3).to k3 (fun _ z => z) gr.wi).enter
    refine hg B (wipe σ vs) H2' G3 Γ2 M2 _ x _ _ gr3.ok rp h2 fun σ2 Γ3 k4 w4 o4 h4 => ⟨by rw [w4 vs hsub, wipe_wipe], ?_⟩
    have hw2 : wipe σ2 vs = wipe σ vs := by rw [w4 vs hsub, wipe_wipe]
    have gr4 : Grows K ρ B p σ H1 G1 Γ1 M1 [] (.dcT t.1 t.2) σ2 H2' G3 Γ3 M2 := gr3.to k4 o4 fun j s _ _ => by simp
    refine ht B σ2 H2' G3 Γ3 M2 _ _ k4 h4 fun b H5 G5 Γ5 M5 k5 e5 h5 => ?_
    have gr5 := gr4.es k5 e5
    cases b with
    | false => exact ⟨G5, wipeS Γ5 vs, M5, t, gr5.leave hw2, by simpa using h5⟩
    | true =>
      refine hk B σ2 H5 G5 Γ5 M5 _ _ k5 (by simpa using h5) fun u H6 G6 Γ6 M6 r6 k6 e6 rr6 h6 => ?_
      split at h6
      · rename_i yk
        split at h6
        · rename_i key hkey
          obtain ⟨bb, rfl, hb⟩ := rep_keyT (show Rep K G6 yk u from rr6) hkey
          refine hv B σ2 H6 G6 Γ6 M6 _ _ k6 h6 fun v H7 G7 Γ7 M7 r7 k7 e7 rr7 h7 => ?_
          obtain ⟨G8, Γ8, e, k8, e8, rp8, hlen, h8⟩ := frz_ok (H0 := H6) k7 e7 rr7 h7
          have gr8 := ((gr5.es k6 e6).es k8 e8).leave hw2
          obtain ⟨gp, o, ho, L, rfl, hks, hK, hval⟩ := gr8.here
          have hb8 : SqT K G8 bb (key.map V.int) := ex_t e8.g hb
          have pt := putT_ok (k := key) (bb := bb) rp8 hval
          have hks : L.map (·.1) = t.1 := hks
          rw [hks] at pt
          refine ⟨L, key, bb, rfl, ho, hK.mono gr8.ok.ex, ex_t gr8.ok.ex hb8, by rw [← List.length_map (f := (·.1)), hks]; exact hlen, G8, wipeS Γ8 vs, M7, putT t.1 t.2 key e, gr8.put ⟨_, rfl, pt.1, putR_keys hb8 hK, pt.2⟩, h8⟩
        · exact h6.elim
      · exact h6.elim
  · rintro H2 ⟨G2, Γ2, M2, t, gr, h2⟩
    rw [List.drop_length] at h2
    exact q _ H2 G2 Γ2 M2 (.tmp (.dcT t.1 t.2)) gr.ok (e1.trans ⟨gr.g, gr.tmp, gr.nn⟩) ⟨p, rfl, e1.nn p hp, hb1, gr.here, gr.mp, gr.op⟩ h2
theorem q_dcR {scope : Scope} {own : List (Str × Nat)} {wi : TI} {ai : AI} {g : TG} {ag : AG} {is : List Nat} {tt : TT} {at' : AT} (hu : X.A.units + 64 < cLine) (hN : X.N.Nodup) (hi : QI X ρ tg iter wi ai) (ok : BlkOk X.N X.env.scope scope own)
    (hg : ∀ (s : Shared) (H : Hp) (C : Addr) (cl : List (Str × Addr)) (fp : List Addr), QG (X.blk s H scope (compEnvC scope cl C X.env) fp) ρ tg g ag is) (ht : ∀ (s : Shared) (H : Hp) (C : Addr) (cl : List (Str × Addr)) (fp : List Addr), QTs (X.blk s H scope (compEnvC scope cl C X.env) fp) ρ ifs tt at')
    (hk : ∀ (s : Shared) (H : Hp) (C : Addr) (cl : List (Str × Addr)) (fp : List Addr), QE (X.blk s H scope (compEnvC scope cl C X.env) fp) ρ kx tk ak) (hv : ∀ (s : Shared) (H : Hp) (C : Addr) (cl : List (Str × Addr)) (fp : List Addr), QE (X.blk s H scope (compEnvC scope cl C X.env) fp) ρ vx tv av)
    (s0 : Shared) (hsub : ∀ j ∈ is, j ∈ own.map (·.2) := by decide) (hc : X.calm = true := by rfl) (hs : ∀ x, foldedSetIterable iter X.env x = pure x := by intro _; rfl) (hK : X.K = K := by rfl) :
    QE X ρ (.DictComp kx vx [⟨tg, iter, ifs, 0⟩] scope pos) (tDcR K wi g tt tk tv (own.map (·.2))) (aDcR ai ag at' ak av (own.map (·.2))) := by
  subst hK
  exact ⟨pe_dcR hc (by omega) hN hi.pe ok (fun s H C cl fp => (hg s H C cl fp).pe) (fun s H C cl fp => (ht s H C cl fp).pe) (fun s H C cl fp => (hk s H C cl fp).pe) (fun s H C cl fp => (hv s H C cl fp).pe) hs,
    rd_dcR hi.rd (hg s0 X.H_0 0 [] []).rd hsub (ht s0 X.H_0 0 [] []).rd (hk s0 X.H_0 0 [] []).rd (hv s0 X.H_0 0 [] []).rd⟩
end
def e_aDcR := @aDcR.eq_def
end Gw

/-! {k: v}, the key a row -/
namespace Gw
open PySem L2 PyProof.Rows
variable {ρ : Ent}
section
variable {X : Cx} {a b : Expr} {ta tb : TE} {aa ab : AE} {pos : Pos} {K : PySem.W.Frag} {B : Ent} {σ : L2.St} {H G : Hp} {Γ : Sl} {M : Mem}
def tOneR (K : PySem.W.Frag) (ta tb : TE) : TE := fun σ H Q => ∀ p, H p = none → ta σ (upd H p (DcO p [])) fun y H1 => tb σ H1 fun z H2 => ∃ k c, y = .ref c ∧ H2 p = some (DcO p []) ∧ SqT K H2 c (k.map V.int) ∧ Q (.ref p) (upd H2 p (DcO p [(k, c, z)]))
theorem pe_oneR (hu : X.A.units + 1 < cLine) (ha : PE X a ta) (hb : PE X b tb) : PE X (.Dict [some a] [b] pos) (tOneR X.K ta tb) := ⟨fun pins s σ H Q I h => by
  have np := I.hok.fresh (Nat.le_refl s.heap.objs.size)
  have I1 := I.laid (a := s.heap.objs.size) (o := DcO s.heap.objs.size []) (h' := s.heap.push { cls := .type "dict", data := .dict #[] }) (t' := s.toks) (fun _ _ e => Heap.get?_push_of_some _ e) (Nat.le_refl _)
    (dcO_ok ⟨⟨[], .nil, _, #[], 0, Heap.get?_push_size _ rfl, ⟨rfl, rfl, rfl⟩, rfl, rfl, List.nodup_nil⟩, Nat.zero_le _, beq_eq_false_iff_ne.mpr (Ne.symm (Nat.ne_of_lt I.big))⟩)
  refine wpAny_Dict_any rfl rfl (by simp) (by simp) (pairTrees_cons_walk (thn (ha.run pins _ σ _ _ I1 (h _ np)) fun u s1 ⟨y, H1, J1, ry, q1⟩ => thn (hb.run pins s1 σ H1 _ J1 q1) fun v s2 ⟨z, H2, J2, rz, k, c, ey, d, hc, q2⟩ => pairTrees_nil_walk ?_))
  subst ey
  cases ry
  show wpAny _ _ (forIn [(Value.ref c, v)] PUnit.unit fun (x : Value × Value) (_ : PUnit) => (do dictSet s.heap.objs.size x.1 x.2; pure (ForInStep.yield PUnit.unit) : Sem (ForInStep PUnit))) _ _ _
  rw [List.forIn_cons]
  refine wpAny_bind (wpAny_bind (set_row (L := []) hu J2 d (fun _ z => (List.not_mem_nil z).elim) hc (by decide) rz fun s3 J3 => wpAny_pure ?_))
  show wpAny _ _ (forIn ([] : List (Value × Value)) PUnit.unit _) _ _ _
  rw [List.forIn_nil]
  exact wpAny_pure ⟨.ref s.heap.objs.size, _, J3, rfl, q2⟩⟩
/-- the dict stands, empty, while the pair is made -/
def aOneR (aa ab : AE) (Γ : Sl) (M : Mem) (Q : Ret → Sl → Mem → Prop) : Prop := aa Γ M fun rk Γ1 M1 => match rk with
  | .dat y => match keyT y with
    | some k => ab Γ1 M1 fun rv Γ2 M2 => match rv with
      | .dat d => Q (.tmp (.dcT [k] [d])) Γ2 M2
      | _ => False
    | none => False
  | _ => False
theorem rd_oneR (ha : RdE K ρ ta aa) (hb : RdE K ρ tb ab) : RdE K ρ (tOneR K ta tb) (aOneR aa ab) := by
  intro B σ H G Γ M Q R k h q p hp
  obtain ⟨k0, e0, hm0, hn0, hb0, hg0⟩ := k.tmp (o := DcO p []) hp
  refine ha B σ _ G Γ M _ _ k0 h fun u H1 G1 Γ1 M1 r1 k1 e1 rr1 h1 => ?_
  split at h1
  · rename_i y
    split at h1
    · rename_i key hkey
      obtain ⟨c, rfl, hc⟩ := rep_keyT (show Rep K G1 y u from rr1) hkey
      refine hb B σ H1 G1 Γ1 M1 _ _ k1 h1 fun v H2 G2 Γ2 M2 r2 k2 e2 rr2 h2 => ?_
      split at h2
      · rename_i d
        obtain ⟨a1, a2, a3, a4⟩ := e1.tmp p _ upd_same hg0 hm0 hn0
        obtain ⟨b1, b2, b3, b4⟩ := e2.tmp p _ a1 a2 a3 a4
        have hc2 := ex_t e2.g hc
        refine ⟨key, c, rfl, b1, ex_t k2.ex hc2, ?_⟩
        refine q _ _ G2 Γ2 M2 (.tmp (.dcT [key] [d])) (k2.updTmp' b1 hb0 b2 b3 b4) ⟨(e0.trans (e1.trans e2)).g, fun x o z g m n => ?_, fun x z => ?_⟩ ⟨p, rfl, hp, hb0, ⟨b2, _, upd_same, [(key, c, v)], rfl, rfl, fun q hq => by cases List.mem_singleton.mp hq; exact hc2, RepL.one rr2⟩, b3, b4⟩ h2
        · obtain ⟨c1, c2, c3, c4⟩ := (e0.trans (e1.trans e2)).tmp x o z g m n
          exact ⟨by rw [upd_ne (ne_of_none z hp)]; exact c1, c2, c3, c4⟩
        · by_cases e : x = p
          · subst e; exact hp
          · rw [upd_ne e] at z; exact (e0.trans (e1.trans e2)).nn x z
      · exact h2.elim
    · exact h1.elim
  · exact h1.elim
theorem q_oneR (hu : X.A.units + 64 < cLine) (ha : QE X ρ a ta aa) (hb : QE X ρ b tb ab) (hK : X.K = K := by rfl) : QE X ρ (.Dict [some a] [b] pos) (tOneR K ta tb) (aOneR aa ab) := by
  subst hK; exact ⟨pe_oneR (by omega) ha.pe hb.pe, rd_oneR ha.rd hb.rd⟩
end
def e_aOneR := @aOneR.eq_def
end Gw

namespace Gw
open PySem L2 PyProof.Rows
variable {ρ : Ent}
/-! ### a def may leave cells behind that nobody wants any more -/
def wk (Q : Ret → Mem → Prop) (r : Ret) (M : Mem) : Prop := ∃ M', List.Sublist M' M ∧ Q r M'
theorem wk_same {Q : Ret → Mem → Prop} {r : Ret} {M : Mem} (h : Q r M) : wk Q r M := ⟨M, .refl _, h⟩
theorem wk_tail {Q : Ret → Mem → Prop} {r : Ret} {p : Addr × Cell} {M : Mem} (h : Q r M) : wk Q r (p :: M) := ⟨M, .cons p (.refl _), h⟩
section
variable {P : Program} {w : World} {K : PySem.W.Frag} {mg : Str → Option Value} {base : Heap}
theorem dom_sub {M M' : Mem} (h : List.Sublist M' M) : List.Sublist (dom M') (dom M) := h.map _
theorem Post.sub {H G H' G' : Hp} {M M1 M2 : Mem} (h : List.Sublist M2 M1) (p : Post K H G M H' G' M1) : Post K H G M H' G' M2 := by
  obtain ⟨st, ex, nd, ms⟩ := p
  exact ⟨⟨st.g, st.fr, st.gn, fun a ha => st.mn a ((dom_sub h).subset ha), st.nn⟩, ex, (dom_sub h).nodup nd, fun a c hc => ms a c (h.subset hc)⟩
theorem RetOk.sub {H H' G' : Hp} {M1 M2 : Mem} {r : Ret} {v : V} (h : List.Sublist M2 M1) (p : RetOk K H H' G' M1 r v) : RetOk K H H' G' M2 r v := by
  cases r with
  | dat d => exact p
  | tmp c =>
    obtain ⟨q, e, hq, hc, hm⟩ := p
    exact ⟨q, e, hq, hc, fun z => hm ((dom_sub h).subset z)⟩
  | var i => exact p
theorem FnG.weaken {CX : CXT} {k : Nat} {f : Addr} {fd : FuncData} {ps : List Str} {sp sp' : Sp} (F : FnG P w K mg base CX k f fd ps sp) (h : ∀ vs H Q E, sp' vs H Q E → sp vs H Q E) : FnG P w K mg base CX k f fd ps sp' :=
  ⟨fun vs H Q E z => F.arity vs H Q E (h vs H Q E z), fun A o s H ar us vs Q E r gd env b rl z => F.go A o s H ar us vs Q E r gd env b rl (h vs H Q E z)⟩
theorem fn_okW {k : Nat} {x qual : Str} {st : Stmt} {f : Addr} {fd : FuncData} {N ps : List Str} {S : ASp} (F : Fun K x qual st f fd) (sc : FnScope N ps (defScope st)) (hn : Ar ps.length S) {as : AS}
    (hb : ∀ (ρ : Ent) (cd : Value) (A : Around) (outer : List Env) (s : Shared) (H : Hp) (E : XK), Room k (A.deeper (envOfC qual (defScope st) s.heap.objs.size f cd)) → A.guards = some [] → ∃ ts, QSs (cxOf CX0 P w K mg base N qual (defScope st) f cd A outer s H E).nox ρ (defBody st) ts as)
    (hr : ∀ ds M Q, S ds M Q → as (endsOf (wk Q)) (slots N.length ds) M) : FnG P w K mg base CX0 (k + 1) f fd ps (spA K ps.length S) := by
  have F0 := fn_ok (S := fun ds M Q' => ∃ Q, S ds M Q ∧ Q' = wk Q) F sc (fun ds M Q' ⟨Q, h, _⟩ => hn ds M Q h) hb (fun ds M Q' ⟨Q, h, e⟩ => by rw [e]; exact hr ds M Q h)
  refine F0.weaken ?_
  rintro vs H Q E ⟨G, M, ds, hl, ex, nd, ms, rl, Qa, hS, fin⟩
  refine ⟨G, M, ds, hl, ex, nd, ms, rl, wk Qa, ⟨Qa, hS, rfl⟩, ?_⟩
  rintro r M' v H' G' ⟨M2, hs, hq⟩ po ro
  exact fin r M2 v H' G' hq (po.sub hs) (ro.sub hs)
end
end Gw

namespace Gw
open PySem L2 PyProof.Rows
variable {ρ : Ent}
/-! ### x[i], y[j] = a, b -/
def aPutI (d : D) (ao ai : AE) (k : Sl → Mem → Prop) (Γ : Sl) (M : Mem) : Prop := ao Γ M fun ro Γ2 M2 => ai Γ2 M2 fun ri Γ3 M3 => match ri, lget ro Γ3 M3 with
  | .dat (.int i), some ds => match ixN ds.length i with
    | some j => lput ro (ds.set j d) Γ3 M3 k
    | none => False
  | _, _ => False
def aSetI2 (aa : AA) (ao ai ap aj : AE) (A : AEnds) (Γ : Sl) (M : Mem) : Prop := aa Γ M fun ds Γ1 M1 => match ds with
  | [d, e] => aPutI d ao ai (aPutI e ap aj A.nx) Γ1 M1
  | _ => False
section
variable {X : Cx} {a b o i p j : Expr} {to ti tp tj : TE} {ao ai ap aj : AE} {K : PySem.W.Frag} {B : Ent} {σ : L2.St} {H G : Hp} {Γ : Sl} {M : Mem}
theorem rd_putI {d : D} {v : V} {k : Sl → Mem → Prop} {Q : L2.St → Hp → Prop} (ho : RdE K ρ to ao) (hi : RdE K ρ ti ai) (ok : Ok K ρ B σ H G Γ M) (rp : Rep K G d v) (h : aPutI d ao ai k Γ M)
    (q : ∀ H' G' Γ' M', Ok K ρ B σ H' G' Γ' M' → Ex G G' → k Γ' M' → Q σ H') : gSub to ti rSetL v σ H Q := by
  refine ho B σ H G Γ M _ _ ok h fun ov H3 G3 Γ3 M3 ro k3 e3 rro h3 => ?_
  refine hi B σ H3 G3 Γ3 M3 _ _ k3 h3 fun iv H4 G4 Γ4 M4 ri k4 e4 rri h4 => ?_
  split at h4
  · rename_i n ds hd
    split at h4
    · rename_i m hm
      have rro' := rro.es e4
      obtain ⟨l, xs, rfl, hl, hx⟩ := lget_ok k4 rro' hd
      have ei : iv = .int n := by have := rri; simp only [RepR, Rep] at this; exact this
      have rp4 : Rep K G4 d v := (rp.mono e3.g).mono e4.g
      obtain ⟨Γ5, M5, k5, e5, hq⟩ := lput_ok k4 rro' hd (hx.set m rp4) h4
      exact ⟨l, xs, n, m, rfl, ei, hl, by rw [hx.length]; exact hm, q _ G4 Γ5 M5 k5 (e3.g.trans e4.g) hq⟩
    · exact h4.elim
  · exact h4.elim
theorem qs_setI2 {tr : TA} {ar : AA} {po pp pt spos : Pos} {kt k2 pt2} (ha : QA X ρ [a, b] tr ar) (ho : QE X ρ o to ao) (hi : QE X ρ i ti ai) (hp : QE X ρ p tp ap) (hj : QE X ρ j tj aj)
    (has : ∀ v, assign (.Subscript o i po) X.env v = (do
      let ov ← holding [v] (eval o X.env)
      let iv ← holding [v, ov] (eval i X.env)
      standAt po
      holding [v, ov, iv] (setItem ov iv v)
      release [v, ov, iv] []) := by intro _; rfl)
    (hbs : ∀ v, assign (.Subscript p j pp) X.env v = (do
      let ov ← holding [v] (eval p X.env)
      let iv ← holding [v, ov] (eval j X.env)
      standAt pp
      holding [v, ov, iv] (setItem ov iv v)
      release [v, ov, iv] []) := by intro _; rfl)
    (hs : swapsWithSole [.Tuple [.Subscript o i po, .Subscript p j pp] kt pt] (.Tuple [a, b] k2 pt2) spos.line X.env = pure false := by rfl) (hw : swappedStores [.Tuple [.Subscript o i po, .Subscript p j pp] kt pt] (.Tuple [a, b] k2 pt2) X.env = pure none := by rfl) (hc : X.calm = true := by rfl) (hK : X.K = K := by rfl) :
    QS X ρ (.Assign [.Tuple [.Subscript o i po, .Subscript p j pp] kt pt] (.Tuple [a, b] k2 pt2) spos) (tAsg (tTup tr) (gTup K 2 (gCons (gSub to ti rSetL) (gCons (gSub tp tj rSetL) gNil)))) (aSetI2 ar ao ai ap aj) := by
  subst hK
  refine ⟨ps_asg (pe_tup ha.pe) (pg_tup hc (pgs_cons (pg_sub ho.pe hi.pe set_list has) (pgs_cons (pg_sub hp.pe hj.pe set_list hbs) pgs_nil))) hs hw, fun B σ H G Γ M A E k h s => ?_⟩
  refine ha.rd B σ H G Γ M _ _ k h fun vs H1 G1 Γ1 M1 ds k1 e1 rl h1 => ?_
  split at h1
  · rename_i d e
    obtain ⟨v, r, rfl, rv, rl⟩ := repL_cons.mp rl
    obtain ⟨u, r, rfl, ru, rl⟩ := repL_cons.mp rl
    cases repL_nil.mp rl
    refine ⟨by show 2 ≤ sizeLine; decide, fun q hq => ?_⟩
    obtain ⟨k4, e4, _⟩ := k1.tmp (o := .tup [v, u]) hq
    refine ⟨q, [v, u], rfl, SqT.of upd_same, rfl, v, [u], rfl, ?_⟩
    refine rd_putI ho.rd hi.rd k4 rv h1 fun H5 G5 Γ5 M5 k5 g5 h5 => ?_
    refine ⟨u, [], rfl, rd_putI hp.rd hj.rd k5 (ru.mono g5) h5 fun H6 G6 Γ6 M6 k6 _ h6 => ?_⟩
    exact ⟨rfl, s.nx σ H6 G6 Γ6 M6 k6 h6⟩
  · exact h1.elim
end
/-! ### for .. in a list or a tuple -/
def aIAny (aa : AE) (Γ : Sl) (M : Mem) (Q : List D → Sl → Mem → Prop) : Prop := aISeq aa Γ M Q ∨ aITup aa Γ M Q
theorem qi_any {X : Cx} {a tg : Expr} {ta : TE} {aa : AE} {K : PySem.W.Frag} (h : QE X ρ a ta aa) (hK : X.K = K := by rfl) : QI X ρ tg a (fun σ H R => iList K ta σ H R ∨ iTup K ta σ H R) (aIAny aa) := by
  subst hK
  refine ⟨⟨fun pins s σ H R I z => z.elim ((pi_list h.pe).run pins s σ H R I) ((pi_tup h.pe).run pins s σ H R I)⟩, fun B σ H G Γ M Q R k z q => ?_⟩
  rcases z with z | z
  · exact .inl ((qi_list (tg := tg) h).rd B σ H G Γ M Q R k z q)
  · exact .inr ((qi_tup (tg := tg) h).rd B σ H G Γ M Q R k z q)
def e_aIAny := @aIAny.eq_def
/-! ### is True, is not False -/
def aIsB (f : Bool → Bool) (x : Ret) (y : Ret) (Γ : Sl) (M : Mem) (Q : Ret → Sl → Mem → Prop) : Prop := match x, y with
  | .dat (.bl a), .dat (.bl b) => Q (.dat (.bl (f (decide (a = b))))) Γ M
  | _, _ => False
theorem c_isB {X : Cx} : CmpR X ρ .Is rIsB (aIsB id) := ⟨op_isBl, by
  intro B σ H H1 H2 G Γ M rx ry x y Q R k r1 r2 h q
  unfold aIsB at h
  split at h
  · rename_i a b
    have e1 : x = .bl a := by have := r1; simp only [RepR, Rep] at this; exact this
    have e2 : y = .bl b := by have := r2; simp only [RepR, Rep] at this; exact this
    exact ⟨a, b, e1, e2, q _ H G Γ M (.dat (.bl _)) k .refl (by simp [RepR, Rep]) h⟩
  · exact h.elim⟩
theorem c_notB {X : Cx} : CmpR X ρ .IsNot rNotB (aIsB not) := ⟨op_notBl, by
  intro B σ H H1 H2 G Γ M rx ry x y Q R k r1 r2 h q
  unfold aIsB at h
  split at h
  · rename_i a b
    have e1 : x = .bl a := by have := r1; simp only [RepR, Rep] at this; exact this
    have e2 : y = .bl b := by have := r2; simp only [RepR, Rep] at this; exact this
    exact ⟨a, b, e1, e2, q _ H G Γ M (.dat (.bl _)) k .refl (by simp [RepR, Rep]) h⟩
  · exact h.elim⟩
def e_aIsB := @aIsB.eq_def
def e_aPutI := @aPutI.eq_def
def e_aSetI2 := @aSetI2.eq_def
end Gw

/-! sorted(d.items()), d a dict keyed by rows -/
namespace Gw
open PySem L2 PyProof.Rows
open PySem.W (EachIs AllAlike Sortable dataLe)
open L2.DX (itemsO itemsO_ok)
variable {ρ : Ent}
section
variable {X : Cx} {e : Expr} {td : TE} {apos cpos : Pos} {K : PySem.W.Frag} {B : Ent} {σ : L2.St} {H G H1 G1 : Hp} {Γ Γ1 : Sl} {M M1 : Mem} {pins : List (Addr × Obj)} {s : Shared}
/-! ### d.items() as a value -/
def tRItems (td : TE) : TE := fun σ H Q => td σ H fun x H1 => ∃ a L, x = .ref a ∧ Rd H1 a (DcO a L) ∧ ∀ p, H1 p = none → Q (.ref p) (upd H1 p (itemsO p a))
theorem pe_ritems (he : PE X e td) (hbase : attributeBase e "items" X.env (eval e X.env) = eval e X.env := by rfl) (hline : (apos.endLine == cpos.line) = true := by rfl) :
    PE X (.Call (.Attribute e "items" apos) [] [] cpos) (tRItems td) := ⟨fun pins s σ H Q I h => by
  refine wpAny_Call_method (T := "dict") (id := "dict.items") hbase rfl hline F.plainAttrs_dict F.slot_dict_items F.type_dict_items (thn (he.run pins s σ H _ I h) fun u s1 ⟨x, H1, I1, rx, d, L, ex, hd, q⟩ => ?_)
  subst ex
  cases rx
  have t : DcT s1.heap d L := (show ObjOk X.prog X.w H1 s1.heap d (DcO d L) from hd.ok I1.hok).1
  obtain ⟨xs, pr, ob, es, ep, hg, hx, hdt, hes, nd⟩ := t.ex
  have raw : DT.Raw s1.heap d es ep := ⟨ob, hg, hx, hdt⟩
  refine ⟨raw.typeIs, fun b e => by cases e; exact ⟨ob, hg, hx.2.1⟩, ?_⟩
  have hf : H1 s1.heap.objs.size = none := I1.hok.fresh (Nat.le_refl _)
  have fin : EP X pins σ Q (.ref s1.heap.objs.size) { s1 with heap := s1.heap.push { cls := .type "dict_items", data := .fields #[.ref d] } } :=
    ⟨.ref s1.heap.objs.size, upd H1 s1.heap.objs.size (itemsO s1.heap.objs.size d), I1.laid (t' := s1.toks) (fun b u z => Heap.get?_push_of_some _ z) (Nat.le_refl _) (itemsO_ok (Heap.get?_push_size _ rfl)), rfl, q _ hf⟩
  show wpAny _ _ (callWith cpos (.builtin "dict.items") [.ref d] [] []) _ X.xe s1
  exact method_meetsIn F.slot_dict_items F.entry_dict_items rfl (PySem.evalArgs_none ⟨rfl, raw.typeIs, F.args_dict_items_1 _, _, DT.meetsItems t.sys, ⟨raw, fin⟩⟩)⟩
/-! ### sorted of the view -/
def pairE (z : RE × D) : D := .tup [rowD z.1.1, z.2]
mutual
theorem reads_lt {h : Heap} : ∀ {v : Value} {d : PyData} {as : List Addr}, Reads h v d as → ∀ a ∈ as, a < h.objs.size
  | _, _, _, .none, a, ha => by cases ha
  | _, _, _, .bool _, a, ha => by cases ha
  | _, _, _, .int _ _, a, ha => by cases ha
  | _, _, _, .str _ _, a, ha => by cases ha
  | _, _, _, .list e _ _ r, a, ha => by
    rcases List.mem_cons.mp ha with rfl | ha
    · exact Heap.lt_size e
    · exact readsAll_lt r a ha
  | _, _, _, .tuple _ _ _ r, a, ha => readsAll_lt r a ha
  | _, _, _, .dict e _ _ r1 r2, a, ha => by
    rcases List.mem_append.mp ha with ha | ha
    · rcases List.mem_cons.mp ha with rfl | ha
      · exact Heap.lt_size e
      · exact readsAll_lt r1 a ha
    · exact readsAll_lt r2 a ha
theorem readsAll_lt {h : Heap} : ∀ {vs : List Value} {ds : List PyData} {as : List Addr}, ReadsAll h vs ds as → ∀ a ∈ as, a < h.objs.size
  | _, _, _, .nil, a, ha => by cases ha
  | _, _, _, .cons r1 r2, a, ha => by
    rcases List.mem_append.mp ha with ha | ha
    · exact reads_lt r1 a ha
    · exact readsAll_lt r2 a ha
end
theorem each_of {α : Type} {R : Value → α → Prop} {f : α → Value} : ∀ {xs : List α}, (∀ x ∈ xs, R (f x) x) → EachIs R (xs.map f) xs
  | [], _ => .nil
  | x :: xs, h => .cons (h x List.mem_cons_self) (each_of fun y hy => h y (List.mem_cons_of_mem _ hy))
theorem each_eq {α : Type} {f : α → Value} : ∀ {us : List Value} {xs : List α}, EachIs (fun v x => v = f x) us xs → us = xs.map f
  | _, _, .nil => rfl
  | _, _, .cons h r => by rw [h, each_eq r]; rfl
def rSortIt (K : PySem.W.Frag) : List V → Hp → VK → Prop := fun vs H Q => ∃ (p a : Addr) (zs : List (RE × D)), vs = [.ref p] ∧ H p = some (itemsO p a) ∧ Rd H a (DcO a (zs.map (·.1))) ∧ KeyR K H (zs.map (·.1)) ∧ (∀ z ∈ zs, Rep K H z.2 z.1.2.2 ∧ plain z.2 = true ∧ dep z.2 ≤ 60) ∧
  AllAlike (zs.map fun z => toPy (pairE z)) ∧ Sortable (zs.map fun z => toPy (pairE z)) ∧
  ∀ (ps : List (Addr × RE × D)) (l : Addr) (H2 : Hp), (ps.map (·.2)).Perm zs → (ps.map fun x => pairE x.2) = sortD (zs.map pairE) → Ex H H2 → (∀ x ∈ ps, H x.1 = none ∧ H2 x.1 = some (.tup [.ref x.2.1.2.1, x.2.1.2.2])) → H2 l = none → Q (.ref l) (upd H2 l (.lst (ps.map fun x => V.ref x.1)))
theorem cr_sortIt (hc : X.calm = true) (hu : X.A.units + 100 < cLine) : CallR X (.builtin "sorted") (rSortIt X.K) := by
  intro pins s σ H vs us Q I r h
  obtain ⟨p, a, zs, rfl, hp, d, hk, hv, hal, hso, q⟩ := h
  obtain rfl := Vals.ref1 r
  have view : s.heap.IsItemsView p a := (show ObjOk X.prog X.w H s.heap p (itemsO p a) from I.hok p _ hp).1
  have t : DcT s.heap a (zs.map (·.1)) := (show ObjOk X.prog X.w H s.heap a (DcO a _) from d.ok I.hok).1
  obtain ⟨xs, pr, o, es, ep, ho, hx, hd, he, nd⟩ := t.ex
  have sz : es.size = zs.length := by rw [← Array.length_toList, he, List.length_map, ← Paired.length pr, List.length_map]
  have zl : zs.length ≤ sizeLine := by have := t.few; rw [List.length_map] at this; exact this
  refine DT.sortedI (es := es) (ep := ep) (I.ok.hd hc) view ⟨o, ho, hx, hd⟩ (by rw [sz]; exact zl) fun h' tk as hk' hlt hl hG => ?_
  have lak : as.length = zs.length := by omega
  have nda : as.Nodup := List.Pairwise.imp (fun h => Nat.ne_of_lt h) hG.rise
  have pr' : ∀ (j : Nat) (b : Addr), as[j]? = some b → ∃ (z : RE × D) (x : REv), zs[j]? = some z ∧ ReIs z.1 x ∧ h'.get? b = some { cls := .type "tuple", data := .seq #[.ref x.2.1, x.2.2] } := by
    intro j b hj
    obtain ⟨en, he', hg⟩ := hG.pairs j b hj
    rw [← Array.getElem?_toList, he, List.getElem?_map] at he'
    obtain ⟨x, hx', rfl⟩ := Option.map_eq_some_iff.mp he'
    have jz : j < zs.length := by rw [← lak]; exact (List.getElem?_eq_some_iff.mp hj).1
    obtain ⟨y, hy, ry⟩ := paired_at pr (j := j) (p := zs[j].1) (by rw [List.getElem?_map, List.getElem?_eq_getElem jz]; rfl)
    rw [hx'] at hy
    cases hy
    exact ⟨zs[j], x, List.getElem?_eq_getElem jz, ry, hg⟩
  have I1 : Inv X pins σ H { s with heap := h', toks := tk } := I.kept hk'
  obtain ⟨H2, I2, g2, q2⟩ := L2.DX.takeT (P := fun b vs => ∃ (j : Nat) (z : RE × D), as[j]? = some b ∧ zs[j]? = some z ∧ vs = [.ref z.1.2.1, z.1.2.2]) I as H I1 nda fun b hb => by
    obtain ⟨j, hj⟩ := List.mem_iff_getElem?.mp hb
    obtain ⟨z, x, hz, rx, hg⟩ := pr' j b hj
    have hbl : s.heap.objs.size ≤ b := Nat.le_of_lt (hG.above b hb)
    exact ⟨hbl, I.hok.fresh hbl, _, ⟨j, z, hj, hz, rfl⟩, fun H3 => ⟨by show 2 ≤ sizeLine; decide, [.ref x.2.1, x.2.2], .cons (by rw [rx.2.1]; rfl) (.cons rx.2.2 .nil), ⟨_, hg, rfl, _, rfl⟩⟩⟩
  have at_ : ∀ (j : Nat) (b : Addr) (z : RE × D), as[j]? = some b → zs[j]? = some z → H b = none ∧ H2 b = some (.tup [.ref z.1.2.1, z.1.2.2]) := fun j b z hj hz => by
    obtain ⟨vs, ⟨i, z', hi, hz', rfl⟩, hH⟩ := q2 b (List.mem_of_getElem? hj)
    have eij : i = j := (List.getElem?_inj (List.getElem?_eq_some_iff.mp hi).1 nda).mp (hi.trans hj.symm)
    subst eij
    rw [hz] at hz'
    cases hz'
    exact ⟨I.hok.fresh (Nat.le_of_lt (hG.above b (List.mem_of_getElem? hj))), hH⟩
  have mem_ : ∀ y ∈ as.zip zs, ∃ j : Nat, as[j]? = some y.1 ∧ zs[j]? = some y.2 := fun y hy => by
    obtain ⟨j, hj⟩ := List.mem_iff_getElem?.mp hy
    exact ⟨j, List.getElem?_zip_eq_some.mp hj⟩
  have rp : ∀ y ∈ as.zip zs, Rep X.K H2 (pairE y.2) (.ref y.1) := fun y hy => by
    obtain ⟨j, hj, hz⟩ := mem_ y hy
    have hzm := List.mem_of_getElem? hz
    have ks := hk y.2.1 (List.mem_map.mpr ⟨y.2, hzm, rfl⟩)
    exact rep_tup.mpr ⟨y.1, _, rfl, SqT.of (at_ j _ _ hj hz).2, repL_cons.mpr ⟨_, _, rfl, rep_tup.mpr ⟨y.2.1.2.1, _, rfl, ex_t g2 ks, repL_map_int.mpr rfl⟩, repL_cons.mpr ⟨_, _, rfl, (hv y.2 hzm).1.mono g2, repL_nil.mpr rfl⟩⟩⟩
  have hob : (h'.push { cls := .type "list", data := .seq (as.map Value.ref).toArray }).get? h'.objs.size = some (seqObj "list" (as.map Value.ref).toArray 0) := Heap.get?_push_size _ rfl
  have zm : (as.zip zs).map (·.1) = as := List.map_fst_zip (by omega)
  have zm2 : (as.zip zs).map (·.2) = zs := List.map_snd_zip (by omega)
  have em : (as.zip zs).map (fun y => toPy (pairE y.2)) = zs.map fun z => toPy (pairE z) := by
    rw [show (fun y : Addr × RE × D => toPy (pairE y.2)) = (fun z => toPy (pairE z)) ∘ Prod.snd from rfl, ← List.map_map, zm2]
  have ev : as.map Value.ref = (as.zip zs).map fun y => Value.ref y.1 := by
    rw [show (fun y : Addr × RE × D => Value.ref y.1) = Value.ref ∘ Prod.fst from rfl, ← List.map_map, zm]
  have pl : ∀ z ∈ zs, plain (pairE z) = true := fun z hz => by
    have h1 := (hv z hz).2.1
    unfold pairE rowD
    rw [plain, plainL, plainL, plainL, plain, plainL_ints, h1]
    rfl
  have dpt : ∀ z ∈ zs, (toPy (pairE z)).depth ≤ 64 := fun z hz => by
    have h1 := (hv z hz).2.2
    have h2 := dep_ints z.1.1
    rw [dep_py]
    unfold pairE rowD
    rw [dep, depL, depL, depL, dep, h2]
    omega
  have kb : ∀ b u, h'.get? b = some u → (h'.push { cls := .type "list", data := .seq (as.map Value.ref).toArray }).get? b = some u := fun b u e => Heap.get?_push_of_some _ e
  have e1 : EachIs (fun v (y : Addr × RE × D) => v = Value.ref y.1) (as.map Value.ref) (as.zip zs) := by
    rw [ev]; exact each_of fun _ _ => rfl
  have e2 : EachIs (fun v (y : Addr × RE × D) => ∃ bs, Reads (h'.push { cls := .type "list", data := .seq (as.map Value.ref).toArray }) v (toPy (pairE y.2)) bs ∧ h'.objs.size ∉ bs) (as.map Value.ref) (as.zip zs) := by
    have gen : ∀ (P : Value → Addr × RE × D → Prop), (∀ y ∈ as.zip zs, P (.ref y.1) y) → EachIs P (as.map Value.ref) (as.zip zs) := fun P hP => by rw [ev]; exact each_of hP
    refine gen _ fun y hy => ?_
    obtain ⟨j, hj, hz⟩ := mem_ y hy
    obtain ⟨bs, rb⟩ := Dp.reads I2 _ _ _ ((rp y hy).dp (pl y.2 (List.mem_of_getElem? hz))) (rfl : RelV (V.ref y.1) (.ref y.1))
    exact ⟨bs, Reads.keeps kb rb, fun z => Nat.lt_irrefl _ (reads_lt rb _ z)⟩
  refine PySem.W.list_sort_data (s := { s with heap := h'.push { cls := .type "list", data := .seq (as.map Value.ref).toArray }, toks := tk }) (enc := fun y : Addr × RE × D => toPy (pairE y.2)) hob e1 e2 (by rw [em]; exact hal) (by rw [em]; exact hso) (by rw [List.length_zip]; omega) (fun y hy => ?_) fun out lo eo => ?_
  · obtain ⟨j, hj, hz⟩ := mem_ y hy
    have := dpt y.2 (List.mem_of_getElem? hz)
    show X.A.units + 1 + 1 + _ < cLine
    omega
  · have eout := each_eq eo
    have pm := List.mergeSort_perm (as.zip zs) (dataLe false fun y : Addr × RE × D => toPy (pairE y.2))
    generalize hps : (as.zip zs).mergeSort (dataLe false fun y : Addr × RE × D => toPy (pairE y.2)) = ps at eout pm
    have es' : (ps.map fun x => pairE x.2) = sortD (zs.map pairE) := by
      rw [← hps, List.map_mergeSort (s := leD) (fun a _ b _ => by rw [PySem.W.dataLe_eq]; rfl)]
      rw [show (fun y : Addr × RE × D => pairE y.2) = pairE ∘ Prod.snd from rfl, ← List.map_map, zm2]
      rfl
    obtain ⟨c, hc'⟩ := sortedHeap_at (vs := as.map Value.ref) (out := out.toArray) hob
    have kk : ∀ b u, h'.get? b = some u → (sortedHeap (h'.push { cls := .type "list", data := .seq (as.map Value.ref).toArray }) h'.objs.size (as.map Value.ref) out.toArray).get? b = some u := fun b u e => by
      have lt := Heap.lt_size e
      rw [sortedHeap_old (Nat.ne_of_lt lt) (by rw [size_push']; exact Nat.lt_succ_of_lt lt)]
      exact kb b u e
    have hn2 : H2 h'.objs.size = none := I2.hok.fresh (Nat.le_refl _)
    have hz : (ps.map fun x => V.ref x.1).length ≤ sizeLine := by rw [List.length_map, pm.length_eq, List.length_zip]; omega
    have vl : Vals (ps.map fun x => V.ref x.1) out := by
      rw [eout]
      clear hps es' pm eout hz
      induction ps with
      | nil => exact .nil
      | cons x ps ih => exact .cons rfl ih
    exact ⟨.ref h'.objs.size, _, I2.laid (t' := tk) (o := .lst (ps.map fun x => V.ref x.1)) kk (Nat.le_refl _) ⟨hz, out, c, vl, hc'⟩, rfl, q ps _ H2 (by have := pm.map (·.2); rw [zm2] at this; exact this) es' g2 (fun x hx => by
      obtain ⟨j, hj, hz⟩ := mem_ x (pm.mem_iff.mp hx)
      exact at_ j _ _ hj hz) hn2⟩
/-! ### the reading -/
def aSortIt (aa : AE) (Γ : Sl) (M : Mem) (Q : Ret → Sl → Mem → Prop) : Prop := aa Γ M fun r Γ1 M1 => match dcTOf r Γ1 M1 with
  | some t => (∀ d ∈ t.2, plain d = true ∧ dep d ≤ 60) ∧ AllAlike ((itemsT t.1 t.2).map toPy) ∧ Sortable ((itemsT t.1 t.2).map toPy) ∧ Q (.tmp (.lst (sortD (itemsT t.1 t.2)))) Γ1 M1
  | none => False
theorem items_zip : ∀ {L : List RE} {ds : List D}, L.length = ds.length → itemsT (L.map (·.1)) ds = (L.zip ds).map pairE
  | [], [], _ => rfl
  | p :: L, d :: ds, h => by
    rw [List.map_cons, itemsT, List.zip_cons_cons, List.map_cons, items_zip (by simpa using h)]
    rfl
  | [], _ :: _, h => by simp at h
  | _ :: _, [], h => by simp at h
theorem repL_zip2 : ∀ {L : List RE} {ds : List D}, RepL K G ds (L.map (·.2.2)) → ∀ z ∈ L.zip ds, Rep K G z.2 z.1.2.2
  | [], _, _, z, hz => by simp at hz
  | _ :: _, [], _, z, hz => by simp at hz
  | p :: L, d :: ds, h, z, hz => by
    obtain ⟨x, r, e, h1, h2⟩ := repL_cons.mp h
    simp only [List.map_cons, List.cons.injEq] at e
    obtain ⟨rfl, rfl⟩ := e
    rw [List.zip_cons_cons, List.mem_cons] at hz
    rcases hz with rfl | hz
    · exact h1
    · exact repL_zip2 h2 z hz
theorem repL_of {α : Type} {f : α → D} {g : α → V} : ∀ {xs : List α}, (∀ x ∈ xs, Rep K G (f x) (g x)) → RepL K G (xs.map f) (xs.map g)
  | [], _ => repL_nil.mpr rfl
  | x :: xs, h => repL_cons.mpr ⟨_, _, rfl, h x List.mem_cons_self, repL_of fun y hy => h y (List.mem_cons_of_mem _ hy)⟩
theorem q_sortIt {p pos : Pos} {aa : AE} (hu : X.A.units + 100 < cLine) (hm : X.mg "sorted" = none) (ha : QE X ρ e td aa) (hc : X.calm = true := by rfl) (hbase : attributeBase e "items" X.env (eval e X.env) = eval e X.env := by rfl) (hline : (apos.endLine == cpos.line) = true := by rfl) (hg : Gl X "sorted" := by rfl)
    (na : starEach [.Call (.Attribute e "items" apos) [] [] cpos] X.env = (false, eval (.Call (.Attribute e "items" apos) [] [] cpos) X.env) :: starEach [] X.env := by rfl) (hpl : (backTo pos (starEach [] X.env)).any (·.1) = false := by rfl) (hK : X.K = K := by rfl) :
    QE X ρ (.Call (.Name "sorted" p) [.Call (.Attribute e "items" apos) [] [] cpos] [] pos) (tCB (rSortIt K) (tCons (tRItems td) tNil)) (aSortIt aa) := by
  subst hK
  refine ⟨pe_callB (cr_sortIt hc hu) hg hm (by decide +kernel) (pa_cons (pe_ritems ha.pe hbase hline) pa_nil na) (by decide) (by decide) na hpl, ?_⟩
  intro B σ H G Γ M Q R k h q
  refine ha.rd B σ H G Γ M _ _ k h fun v H1 G1 Γ1 M1 r k1 e1 rr h1 => ?_
  split at h1
  · rename_i t ht
    obtain ⟨hp, hal, hso, h1⟩ := h1
    obtain ⟨l, L, rfl, s⟩ := dcTOf_ok k1 rr ht
    have ll : L.length = t.2.length := by rw [← s.val.length, List.length_map]
    refine ⟨l, L, rfl, s.rd, fun p hp' => ?_⟩
    obtain ⟨k2, e2, _⟩ := k1.tmp (o := itemsO p l) hp'
    have zm : (L.zip t.2).map (·.1) = L := List.map_fst_zip (by omega)
    have it := items_zip ll
    rw [s.ks] at it
    rw [it] at hal hso h1
    rw [List.map_map] at hal hso
    have g1 : Ex G1 (upd H1 p (itemsO p l)) := k2.ex
    refine ⟨p, l, L.zip t.2, rfl, upd_same, by rw [zm]; exact ex_rd (Ex.new hp') s.rd, by rw [zm]; exact s.key.mono g1, fun z hz => ⟨(repL_zip2 s.val z hz).mono g1, hp z.2 (List.of_mem_zip hz).2⟩, hal, hso, fun ps l' H2 pm es g2 at_ hn => ?_⟩
    obtain ⟨k3, e3⟩ := k2.grow (H' := H2) (T := ps.map (·.1)) g2 fun b hb => by
      obtain ⟨x, hx, rfl⟩ := List.mem_map.mp hb
      exact (at_ x hx).1
    refine (q.es ((e1.trans e2).trans e3)).newL k3 ?_ h1 l' hn
    rw [← es]
    refine repL_of fun x hx => ?_
    have hz := pm.mem_iff.mp (List.mem_map.mpr ⟨x, hx, rfl⟩)
    have hG : (fun b => if b ∈ ps.map (·.1) then H2 b else G1 b) x.1 = some (.tup [.ref x.2.1.2.1, x.2.1.2.2]) := by
      show (if x.1 ∈ ps.map (·.1) then H2 x.1 else G1 x.1) = _
      rw [if_pos (List.mem_map.mpr ⟨x, hx, rfl⟩)]
      exact (at_ x hx).2
    have kx := s.key x.2.1 (List.of_mem_zip hz).1
    exact rep_tup.mpr ⟨x.1, _, rfl, SqT.of hG, repL_cons.mpr ⟨_, _, rfl, rep_tup.mpr ⟨x.2.1.2.1, _, rfl, ex_t (e2.g.trans e3.g) kx, repL_map_int.mpr rfl⟩, repL_cons.mpr ⟨_, _, rfl, (repL_zip2 s.val x.2 hz).mono (e2.g.trans e3.g), repL_nil.mpr rfl⟩⟩⟩
  · exact h1.elim
/-! ### list(range(n)) -/
def aListRg (aa : AE) (Γ : Sl) (M : Mem) (Q : Ret → Sl → Mem → Prop) : Prop := aa Γ M fun r Γ1 M1 => match r with
  | .dat (.int n) => (-(2 ^ 62) ≤ n ∧ n ≤ 16777216) ∧ Q (.tmp (.lst (rngD 0 n.toNat))) Γ1 M1
  | _ => False
theorem q_listRg {p p2 pos pos2 : Pos} {a : Expr} {ta : TE} {aa : AE} (hm : X.mg "list" = none) (hm2 : X.mg "range" = none) (ha : QE X ρ a ta aa) (hc : X.calm = true := by rfl) (hg : Gl X "list" := by rfl) (hg2 : Gl X "range" := by rfl)
    (na : starEach [a] X.env = (false, eval a X.env) :: starEach [] X.env := by rfl) (nb : starEach [.Call (.Name "range" p2) [a] [] pos2] X.env = (false, eval (.Call (.Name "range" p2) [a] [] pos2) X.env) :: starEach [] X.env := by rfl) :
    QE X ρ (.Call (.Name "list" p) [.Call (.Name "range" p2) [a] [] pos2] [] pos) (tLstRg (tRg1 ta)) (aListRg aa) := by
  refine ⟨pe_listRg hc hg hm (prg_1 hg2 hm2 ha.pe na) nb, ?_⟩
  intro B σ H G Γ M Q R k h q
  refine ha.rd B σ H G Γ M _ _ k h fun v H1 G1 Γ1 M1 r k1 e1 rr h1 => ?_
  split at h1
  · rename_i n
    obtain ⟨⟨n0, n1⟩, h1⟩ := h1
    have ev : v = .int n := by have := rr; simp only [RepR, Rep] at this; exact this
    refine ⟨n, ev, ⟨by decide, by decide, n0, by omega, by omega⟩, ?_⟩
    refine (q.es e1).newL k1 ?_ h1
    unfold rngD rgV
    rw [show (n - 0).toNat = n.toNat by omega]
    exact repL_of fun i _ => by rw [Rep]
  · exact h1.elim
end
def e_aListRg := @aListRg.eq_def
def e_aSortIt := @aSortIt.eq_def
end Gw

/-! loops over a list of one's own things -/
namespace Gw
open PySem L2
theorem forA {α : Type} (enc : α → D) {g : AG} {body : AS} {A : AEnds} (I : List α → List α → Sl → Mem → Prop) (hn : ∀ dn Γ M, I dn [] Γ M → A.nx Γ M)
    (hc : ∀ dn x ls Γ M (K : Sl → Mem → Prop), I dn (x :: ls) Γ M → (∀ Γ' M', I (dn ++ [x]) ls Γ' M' → K Γ' M') → g (enc x) Γ fun Γ1 => body { A with nx := K, ct := K, bk := A.nx } Γ1 M) :
    ∀ (ls dn : List α) {Γ : Sl} {M : Mem}, I dn ls Γ M → aForL g body (ls.map enc) A Γ M
  | [], dn, Γ, M, h => hn dn Γ M h
  | x :: ls, dn, Γ, M, h => hc dn x ls Γ M _ h fun Γ' M' h' => forA enc I hn hc ls (dn ++ [x]) h'
theorem lcA {α : Type} (enc : α → D) {g : AG} {tt : AT} {ae : AE} {vs : List Nat} {k : List D → Sl → Mem → Prop} (I : List α → List α → List D → Sl → Mem → Prop) (hn : ∀ dn acc Γ M, I dn [] acc Γ M → k acc Γ M)
    (hc : ∀ dn x ls acc Γ M (K : List D → Sl → Mem → Prop), I dn (x :: ls) acc Γ M → (∀ acc' Γ' M', I (dn ++ [x]) ls acc' Γ' M' → K acc' Γ' M') → g (enc x) Γ fun Γ1 => tt Γ1 M fun b Γ2 M2 => if b = true then ae Γ2 M2 fun r Γ3 M3 => frz r Γ3 fun y Γ4 => acc.length < sizeLine ∧ K (acc ++ [y]) (wipeS Γ4 vs) M3
      else K acc (wipeS Γ2 vs) M2) : ∀ (ls dn : List α) (acc : List D) {Γ : Sl} {M : Mem}, I dn ls acc Γ M → aLcL g tt ae vs k (ls.map enc) acc Γ M
  | [], dn, acc, Γ, M, h => hn dn acc Γ M h
  | x :: ls, dn, acc, Γ, M, h => hc dn x ls acc Γ M _ h fun acc' Γ' M' h' => lcA enc I hn hc ls (dn ++ [x]) acc' h'
/-- a comprehension that only looks -/
theorem lcMapA {α : Type} (enc f : α → D) {g : AG} {ae : AE} {vs : List Nat} {k : List D → Sl → Mem → Prop} {Γ : Sl} {M : Mem} : ∀ (xs : List α) (acc : List D), acc.length + xs.length ≤ 16777216 →
    (∀ x ∈ xs, ∀ P : D → Sl → Mem → Prop, P (f x) Γ M → g (enc x) Γ fun Γ1 => ae Γ1 M fun r Γ3 M3 => frz r Γ3 fun y Γ4 => P y (wipeS Γ4 vs) M3) → k (acc ++ xs.map f) Γ M → aLcL g aYes ae vs k (xs.map enc) acc Γ M
  | [], acc, _, _, h => by simpa [aLcL] using h
  | x :: xs, acc, hl, hs, h => by
    rw [List.map_cons]
    unfold aLcL
    simp only [aYes, if_true]
    refine hs x List.mem_cons_self (fun y Γ' M' => acc.length < sizeLine ∧ aLcL g aYes ae vs k (xs.map enc) (acc ++ [y]) Γ' M') ⟨by rw [size_val]; simp at hl; omega, ?_⟩
    refine lcMapA enc f xs (acc ++ [f x]) (by simp at hl ⊢; omega) (fun e he => hs e (List.mem_cons_of_mem _ he)) ?_
    simpa using h
theorem lcFiltA {α : Type} (enc : α → D) (p : α → Bool) (f : α → D) {g : AG} {tt : AT} {ae : AE} {vs : List Nat} {k : List D → Sl → Mem → Prop} {Γ : Sl} {M : Mem} : ∀ (xs : List α) (acc : List D), acc.length + xs.length ≤ 16777216 →
    (∀ x ∈ xs, ∀ (P : D → Sl → Mem → Prop) (N : Sl → Mem → Prop), (p x = true → P (f x) Γ M) → (p x = false → N Γ M) → g (enc x) Γ fun Γ1 => tt Γ1 M fun b Γ2 M2 => if b = true then ae Γ2 M2 fun r Γ3 M3 => frz r Γ3 fun y Γ4 => P y (wipeS Γ4 vs) M3 else N (wipeS Γ2 vs) M2) →
    k (acc ++ (xs.filter p).map f) Γ M → aLcL g tt ae vs k (xs.map enc) acc Γ M
  | [], acc, _, _, h => by simpa [aLcL] using h
  | x :: xs, acc, hl, hs, h => by
    rw [List.map_cons]
    unfold aLcL
    refine hs x List.mem_cons_self (fun y Γ' M' => acc.length < sizeLine ∧ aLcL g tt ae vs k (xs.map enc) (acc ++ [y]) Γ' M') (fun Γ' M' => aLcL g tt ae vs k (xs.map enc) acc Γ' M') (fun e => ⟨by rw [size_val]; simp at hl; omega, ?_⟩) (fun e => ?_)
    · refine lcFiltA enc p f xs (acc ++ [f x]) (by simp at hl ⊢; omega) (fun e he => hs e (List.mem_cons_of_mem _ he)) ?_
      rw [List.filter_cons, if_pos e] at h
      simpa using h
    · refine lcFiltA enc p f xs acc (by simp at hl ⊢; omega) (fun e he => hs e (List.mem_cons_of_mem _ he)) ?_
      rw [List.filter_cons, if_neg (by rw [e]; decide)] at h
      exact h
theorem bls_fun {α : Type} {f : α → Bool} (xs : List α) : blsOf (xs.map fun x => .bl (f x)) = some (xs.map f) := by
  rw [show (xs.map fun x => D.bl (f x)) = (xs.map f).map D.bl by rw [List.map_map]; rfl, blsOf_map]
theorem all_funA {α : Type} {f : α → Bool} {xs : List α} {Γ : Sl} {M : Mem} {Q : Ret → Sl → Mem → Prop} (h : Q (.dat (.bl (xs.all f))) Γ M) : aAllB (·.all id) (.tmp (.lst (xs.map fun x => .bl (f x)))) Γ M Q := by
  unfold aAllB
  simp only [sqOf, bls_fun, List.all_map]
  exact h
theorem any_funA {α : Type} {f : α → Bool} {xs : List α} {Γ : Sl} {M : Mem} {Q : Ret → Sl → Mem → Prop} (h : Q (.dat (.bl (xs.any f))) Γ M) : aAllB (·.any id) (.tmp (.lst (xs.map fun x => .bl (f x)))) Γ M Q := by
  unfold aAllB
  simp only [sqOf, bls_fun, List.any_map]
  exact h
/-! ### the order of data -/
open PySem.W PyProof.Rows in
theorem lt_ints : ∀ r q : List Int, PyProof.Rows.lexLt itemOrd (keyToksAll (toPyL (r.map .int))) (keyToksAll (toPyL (q.map .int))) = HT.lexLt r q
  | [], [] => lex_irrefl _
  | [], y :: q => by
    have : rowLt (([] : List Int).map PyData.int) ((y :: q).map PyData.int) = decide (([] : List Int) < y :: q) := dataLt_ints [] (y :: q)
    simp only [List.map_cons, List.map_nil, toPyL, toPy]
    rw [toPyL_ints]
    refine Eq.trans this ?_
    simp [HT.lexLt]
  | x :: r, [] => by
    have : rowLt ((x :: r).map PyData.int) (([] : List Int).map PyData.int) = decide ((x :: r : List Int) < []) := dataLt_ints (x :: r) []
    simp only [List.map_cons, List.map_nil, toPyL, toPy]
    rw [toPyL_ints]
    refine Eq.trans this ?_
    simp [HT.lexLt]
  | x :: r, y :: q => by
    have ih := lt_ints r q
    simp only [List.map_cons, toPyL, toPy]
    rw [dataLt_cons (by simp [alike]), ih, dataLt_int, HT.lexLt_cons]
    simp only [PyData.eqv, beq_iff_eq]
open PySem.W PyProof.Rows in
theorem leD_trans (a b c : D) (h1 : leD a b = true) (h2 : leD b c = true) : leD a c = true := by
  unfold leD dataLt at *
  simp only [Bool.not_eq_true'] at *
  cases e : PyProof.Rows.lexLt itemOrd (keyToks (toPy c)) (keyToks (toPy a)) with
  | false => rfl
  | true =>
    rcases lex_negTrans (O := itemOrd) _ (keyToks (toPy b)) _ e with h | h
    · rw [h] at h2; cases h2
    · rw [h] at h1; cases h1
open PySem.W PyProof.Rows in
theorem leD_total (a b : D) : (leD a b || leD b a) = true := by
  unfold leD dataLt
  cases e1 : PyProof.Rows.lexLt itemOrd (keyToks (toPy b)) (keyToks (toPy a)) with
  | false => rfl
  | true =>
    cases e2 : PyProof.Rows.lexLt itemOrd (keyToks (toPy a)) (keyToks (toPy b)) with
    | false => rfl
    | true =>
      have := lex_trans (O := itemOrd) _ _ _ e1 e2
      rw [lex_irrefl] at this
      cases this
theorem lex_conn : ∀ {r q : List Int}, HT.lexLt r q = false → HT.lexLt q r = false → r = q
  | [], [], _, _ => rfl
  | [], _ :: _, h, _ => by cases h
  | _ :: _, [], _, h => by cases h
  | x :: r, y :: q, h, h' => by
    rw [HT.lexLt_cons] at h h'
    by_cases e : x = y
    · subst e
      rw [if_pos rfl] at h h'
      rw [lex_conn h h']
    · rw [if_neg e] at h
      rw [if_neg (fun z => e z.symm)] at h'
      have := of_decide_eq_false h
      have := of_decide_eq_false h'
      omega
end Gw

/-! repr of data in which dicts stand, however deep -/
namespace Gw
open PySem L2
variable {ρ : Ent}
def keyPy : L2.Key → PyData
  | .inl i => .int i
  | .inr x => .str x
mutual
def toPyN : D → PyData
  | .non => .none
  | .bl b => .bool b
  | .int i => .int i
  | .str x => .str x
  | .tup ds => .tuple (toPyNL ds)
  | .lst ds => .list (toPyNL ds)
  | .scr ds => .list (toPyNL ds)
  | .dct ks ds => .dict ((ks.map keyPy).zip (toPyNL ds))
  | .ref _ => .none
  | .exc _ _ _ => .none
  | .dcT _ _ => .none
def toPyNL : List D → List PyData
  | [] => []
  | d :: ds => toPyN d :: toPyNL ds
end
mutual
def plainN : D → Bool
  | .tup ds => plainNL ds
  | .lst ds => plainNL ds
  | .scr ds => plainNL ds
  | .dct _ ds => plainNL ds
  | .ref _ => false
  | .exc _ _ _ => false
  | .dcT _ _ => false
  | .non => true
  | .bl _ => true
  | .int _ => true
  | .str _ => true
def plainNL : List D → Bool
  | [] => true
  | d :: ds => plainN d && plainNL ds
end
theorem toPyNL_len : ∀ ds : List D, (toPyNL ds).length = ds.length
  | [] => rfl
  | d :: ds => by rw [toPyNL, List.length_cons, toPyNL_len ds]; rfl
/-- reads as d, and is shown so -/
def RKs (P : Program) (w : World) (h : Heap) (u : Value) (d : PyData) : Prop := (∃ as, Reads h u d as) ∧ ∃ bs, ReadAtMost h d.depth bs ∧ ReprK P w bs h d.depth u d.shown
def RKsL (P : Program) (w : World) (h : Heap) (us : List Value) (ds : List PyData) : Prop := (∃ as, ReadsAll h us ds as) ∧ ∃ bs, ReadAtMost h (PyData.depthAll ds) bs ∧ ReprAllK P w bs h (PyData.depthAll ds) us (PyData.shownAll ds)
section
variable {P : Program} {w : World} {h : Heap}
theorem RKsL.nil : RKsL P w h [] [] := ⟨⟨[], .nil⟩, [], (fun _ z => nomatch z), by simp only [PyData.shownAll]; exact .nil⟩
theorem RKsL.cons {u : Value} {d : PyData} {us : List Value} {ds : List PyData} (a : RKs P w h u d) (b : RKsL P w h us ds) : RKsL P w h (u :: us) (d :: ds) := by
  obtain ⟨⟨as, r⟩, b1, hb1, k1⟩ := a
  obtain ⟨⟨as2, r2⟩, b2, hb2, k2⟩ := b
  refine ⟨⟨as ++ as2, .cons r r2⟩, b1 ++ b2, ?_, ?_⟩
  · simp only [PyData.depthAll]
    exact (hb1.mono (Nat.le_max_left _ _)).append (hb2.mono (Nat.le_max_right _ _))
  · simp only [PyData.depthAll, PyData.shownAll]
    exact .cons ((k1.more fun b hb => List.mem_append_left _ hb).level_le (Nat.le_max_left _ _)) (k2.more_le (fun b hb => List.mem_append_right _ hb) (Nat.le_max_right _ _))
theorem keys_pairs {knd : KeyKind P w L2.Key} (hk : ∀ k v, knd.is k v = true → keyIs k v = true) : ∀ {es : List DictEntry} {kvs : List (L2.Key × Value)}, Pairs knd es kvs → (∀ t ∈ (kvs.map (·.1)).map keyPy, t.showable = true ∧ t.shown.length ≤ sizeLine) → RKsL P w h (es.map (·.key)) ((kvs.map (·.1)).map keyPy) ∧ es.map (·.val) = kvs.map (·.2)
  | _, _, .nil, _ => ⟨RKsL.nil, rfl⟩
  | _, _, .cons (e := e) (kv := kv) (es := es) (kvs := kvs) h1 h2 r, hz => by
    obtain ⟨i1, i2⟩ := keys_pairs hk r fun t ht => hz t (by simp only [List.map_cons]; exact List.mem_cons_of_mem _ ht)
    obtain ⟨s, z⟩ := hz (keyPy kv.1) (by simp)
    refine ⟨?_, by rw [List.map_cons, List.map_cons, h2, i2]⟩
    rw [List.map_cons, List.map_cons, List.map_cons]
    refine RKsL.cons ?_ i1
    rcases keyIs_shape (hk _ _ h1) with ⟨i, t, e1, e2⟩ | ⟨x, t, e1, e2⟩
    · rw [e1, e2]
      rw [e1] at s
      refine ⟨⟨_, .int i t⟩, [], (fun _ q => nomatch q), ?_⟩
      simp only [keyPy, PyData.shown]
      exact .of_is (ReprIs.int t (by simpa [keyPy, PyData.showable] using s)) _ _ _
    · rw [e1, e2]
      rw [e1] at z
      refine ⟨⟨_, .str x t⟩, [], (fun _ q => nomatch q), ?_⟩
      simp only [keyPy, PyData.shown]
      exact .of_is (ReprIs.str x t (by simpa only [keyPy, PyData.shown] using z)) _ _ _
end
section
variable {X : Cx} {pins : List (Addr × Obj)} {σ : L2.St} {H : Hp} {s : Shared}
/-- what a list, a tuple, a dict is shown as, from what stands in it -/
inductive Held (P : Program) (w : World) (h : Heap) (a : Addr) : PyData → Prop
  | lst {o : Obj} {us : List Value} {n : Nat} {ds : List PyData} (h1 : h.get? a = some o) (h2 : o.cls = .type "list") (h3 : o.data = .seq us.toArray n) (r : RKsL P w h us ds) : Held P w h a (.list ds)
  | tup {o : Obj} {us : List Value} {n : Nat} {ds : List PyData} (h1 : h.get? a = some o) (h2 : o.cls = .type "tuple") (h3 : o.data = .seq us.toArray n) (r : RKsL P w h us ds) : Held P w h a (.tuple ds)
  | dct {o : Obj} {es : Array DictEntry} {n : Nat} {kvs : List (PyData × PyData)} (h1 : h.get? a = some o) (h2 : o.cls = .type "dict") (h3 : o.data = .dict es n) (hs : (a == sysModules) = false) (r1 : RKsL P w h (es.toList.map (·.key)) (kvs.map (·.1))) (r2 : RKsL P w h (es.toList.map (·.val)) (kvs.map (·.2))) : Held P w h a (.dict kvs)
theorem Held.rk {P : Program} {w : World} {h : Heap} {a : Addr} {d : PyData} (x : Held P w h a d) : RKs P w h (.ref a) d := by
  cases x with
  | @lst o us n ds h1 h2 h3 r =>
    obtain ⟨⟨as, r⟩, bs, hb, hk⟩ := r
    have rd : Reads h (.ref a) (.list ds) (a :: as) := .list h1 h2 h3 r
    have hna : a ∉ bs := not_mem_of_deeper rd (by simp only [PyData.depth]; omega) hb
    refine ⟨⟨_, rd⟩, a :: bs, ReadAtMost.cons rd (by simp only [PyData.depth]; omega) hb, ?_⟩
    simp only [PyData.depth, PyData.shown]
    cases us with
    | nil =>
      cases r
      simp only [PyData.shownAll, listText_nil]
      exact ReprK.listEmpty h1 h2 h3
    | cons x l => exact ReprK.list h1 h2 h3 hna (by simpa using hk.length_eq) (fun i y e => hk.item i y (by simpa using e))
  | @tup o us n ds h1 h2 h3 r =>
    obtain ⟨⟨as, r⟩, bs, hb, hk⟩ := r
    have rd : Reads h (.ref a) (.tuple ds) as := .tuple h1 h2 h3 r
    have hna : a ∉ bs := not_mem_of_deeper rd (by simp only [PyData.depth]; omega) hb
    refine ⟨⟨_, rd⟩, a :: bs, ReadAtMost.cons rd (by simp only [PyData.depth]; omega) hb, ?_⟩
    simp only [PyData.depth, PyData.shown]
    exact ReprK.tuple h1 h2 h3 hna hk
  | @dct o es n kvs h1 h2 h3 hs r1 r2 =>
    obtain ⟨⟨as, r1⟩, b1, hb1, k1⟩ := r1
    obtain ⟨⟨as2, r2⟩, b2, hb2, k2⟩ := r2
    have rd : Reads h (.ref a) (.dict kvs) _ := .dict h1 h2 h3 r1 r2
    have hb : ReadAtMost h (PyData.depthKv kvs) (b1 ++ b2) := (hb1.mono (PyData.depthAll_keys_le kvs)).append (hb2.mono (PyData.depthAll_vals_le kvs))
    have hna : a ∉ b1 ++ b2 := not_mem_of_deeper rd (by simp only [PyData.depth]; omega) hb
    refine ⟨⟨_, rd⟩, a :: (b1 ++ b2), ReadAtMost.cons rd (by simp only [PyData.depth]; omega) hb, ?_⟩
    simp only [PyData.depth, PyData.shown, PyData.shownKv_eq]
    exact ReprK.dict h1 h2 h3 hs hna (ReprEntriesK.of_two es.toList _ _
      (k1.more_le (fun b hb => List.mem_append_left _ hb) (PyData.depthAll_keys_le kvs)) (k2.more_le (fun b hb => List.mem_append_right _ hb) (PyData.depthAll_vals_le kvs)))
def fits (d : PyData) : Prop := d.showable = true ∧ d.shown.length ≤ sizeLine
def fitsL (ds : List PyData) : Prop := PyData.showableAll ds = true ∧ ∀ t ∈ PyData.shownAll ds, t.length ≤ sizeLine
theorem fitsL_cons {d : PyData} {ds : List PyData} (h : fitsL (d :: ds)) : fits d ∧ fitsL ds := by
  have h1 : d.showable = true ∧ PyData.showableAll ds = true := by simpa [PyData.showableAll] using h.1
  exact ⟨⟨h1.1, h.2 _ (by simp only [PyData.shownAll]; exact List.mem_cons_self ..)⟩, h1.2, fun t ht => h.2 t (by simp only [PyData.shownAll]; exact List.mem_cons_of_mem _ ht)⟩
theorem fits_list {ds : List PyData} (h : fits (.list ds)) : fitsL ds := ⟨by simpa [PyData.showable] using h.1, fun t ht => Nat.le_trans (listText_mem_le ht) (by have := h.2; simpa only [PyData.shown] using this)⟩
theorem fits_tuple {ds : List PyData} (h : fits (.tuple ds)) : fitsL ds := ⟨by simpa [PyData.showable] using h.1, fun t ht => Nat.le_trans (tupleText_mem_le ht) (by have := h.2; simpa only [PyData.shown] using this)⟩
theorem fits_dict {kvs : List (PyData × PyData)} (h : fits (.dict kvs)) : fitsL (kvs.map (·.1)) ∧ fitsL (kvs.map (·.2)) := by
  have hz : (dictText (PyData.shownKv kvs)).length ≤ sizeLine := by have := h.2; simpa only [PyData.shown] using this
  obtain ⟨h1, h2⟩ := PyData.showableKv_split kvs (by simpa [PyData.showable] using h.1)
  exact ⟨⟨h1, fun t ht => let ⟨p, hp, hl⟩ := PyData.shownKv_key_le kvs t ht; Nat.le_trans hl (Nat.le_trans (dictText_mem_le hp) hz)⟩, ⟨h2, fun t ht => let ⟨p, hp, hl⟩ := PyData.shownKv_val_le kvs t ht; Nat.le_trans hl (Nat.le_trans (dictText_mem_le hp) hz)⟩⟩
theorem fitsL_mem : ∀ {ds : List PyData}, fitsL ds → ∀ d ∈ ds, fits d
  | d :: ds, h, e, he => by
    obtain ⟨a, b⟩ := fitsL_cons h
    rcases List.mem_cons.mp he with rfl | he
    · exact a
    · exact fitsL_mem b e he
theorem repL_unzip {K : PySem.W.Frag} {G : Hp} {vs : List V} {us : List Value} {kvs : List (L2.Key × V)} {kws : List (L2.Key × Value)} (h : KV kvs kws) : Vals (kvs.map (·.2)) (kws.map (·.2)) ∧ kvs.map (·.1) = kws.map (·.1) := by
  induction h with
  | nil => exact ⟨.nil, rfl⟩
  | cons h _ ih => exact ⟨.cons h.2 ih.1, by rw [List.map_cons, List.map_cons, h.1, ih.2]⟩
mutual
theorem held_of (I : Inv X pins σ H s) : ∀ (d : D) (v : V) (a : Addr), Rep X.K H d v → RelV v (.ref a) → plainN d = true → fits (toPyN d) → Held X.prog X.w s.heap a (toPyN d)
  | .tup ds, v, a, hr, rv, p, f => by
    obtain ⟨b, xs, rfl, h1, h2⟩ := rep_tup.mp hr
    cases rv
    obtain ⟨its, rvs, ⟨o, ho, hc, n, hd⟩, _⟩ := I.tuple h1
    rw [toPyN] at f ⊢
    exact .tup ho hc hd (rksL_of I ds xs its h2 rvs (by rwa [plainN] at p) (fits_tuple f))
  | .lst ds, v, a, hr, rv, p, f => by
    obtain ⟨b, xs, rfl, h1, h2⟩ := rep_lst.mp hr
    cases rv
    obtain ⟨its, rvs, ⟨o, n, ho, hc, _, hd⟩, _⟩ := I.list (SqL.of h1)
    rw [toPyN] at f ⊢
    exact .lst ho hc hd (rksL_of I ds xs its h2 rvs (by rwa [plainN] at p) (fits_list f))
  | .scr ds, v, a, hr, rv, p, f => by
    obtain ⟨b, xs, rfl, h1, h2⟩ := rep_scr.mp hr
    cases rv
    obtain ⟨its, rvs, ⟨o, n, ho, hc, _, hd⟩, _⟩ := I.list h1
    rw [toPyN] at f ⊢
    exact .lst ho hc hd (rksL_of I ds xs its h2 rvs (by rwa [plainN] at p) (fits_list f))
  | .dct ks ds, v, a, hr, rv, p, f => by
    obtain ⟨b, ob, xs, rfl, h1, hl, h2⟩ := rep_dct.mp hr
    cases rv
    obtain ⟨_, _, hsys, vs, hv, o, es, ep, e1, e2, e3, _, e4, _⟩ := (show ObjOk X.prog X.w H s.heap a (.frz ob (.dK (ks.zip xs))) from I.hok a _ h1)
    have hx : xs.length = ks.length := by rw [h2.length, hl]
    obtain ⟨rvs, ek⟩ := repL_unzip (K := X.K) (G := H) (vs := []) (us := []) hv
    rw [List.map_snd_zip (by omega)] at rvs
    rw [List.map_fst_zip (by omega)] at ek
    rw [toPyN] at f ⊢
    have lz : (ks.map keyPy).length = (toPyNL ds).length := by rw [List.length_map, toPyNL_len, hl]
    obtain ⟨fk, fv⟩ := fits_dict f
    rw [List.map_fst_zip (by omega)] at fk
    rw [List.map_snd_zip (by omega)] at fv
    obtain ⟨k1, k2⟩ := keys_pairs (h := s.heap) (fun _ _ z => z) e4 fun t ht => by rw [← ek] at ht; exact fitsL_mem fk t ht
    refine .dct e1 e2.1 e3 hsys ?_ ?_
    · rw [List.map_fst_zip (by omega), ek]; exact k1
    · rw [List.map_snd_zip (by omega), k2]
      exact rksL_of I ds xs _ h2 rvs (by rwa [plainN] at p) fv
  | .ref _, _, _, _, _, p, _ => by rw [plainN] at p; cases p
  | .exc _ _ _, _, _, _, _, p, _ => by rw [plainN] at p; cases p
  | .dcT _ _, _, _, _, _, p, _ => by rw [plainN] at p; cases p
  | .non, _, _, hr, rv, _, _ => by rw [Rep] at hr; subst hr; cases rv
  | .bl _, _, _, hr, rv, _, _ => by rw [Rep] at hr; subst hr; cases rv
  | .int _, _, _, hr, rv, _, _ => by rw [Rep] at hr; subst hr; obtain ⟨t, e⟩ := rv; cases e
  | .str _, _, _, hr, rv, _, _ => by rw [Rep] at hr; subst hr; obtain ⟨t, e⟩ := rv; cases e
theorem rks_of (I : Inv X pins σ H s) : ∀ (d : D) (v : V) (u : Value), Rep X.K H d v → RelV v u → plainN d = true → fits (toPyN d) → RKs X.prog X.w s.heap u (toPyN d)
  | .non, v, u, hr, rv, _, _ => by
    rw [Rep] at hr; subst hr; cases rv
    rw [toPyN]
    exact ⟨⟨_, .none⟩, [], (fun _ q => nomatch q), by simp only [PyData.shown]; exact .of_is ReprIs.none _ _ _⟩
  | .bl b, v, u, hr, rv, _, _ => by
    rw [Rep] at hr; subst hr; cases rv
    rw [toPyN]
    exact ⟨⟨_, .bool b⟩, [], (fun _ q => nomatch q), by simp only [PyData.shown]; exact .of_is (ReprIs.bool b) _ _ _⟩
  | .int i, v, u, hr, rv, _, f => by
    rw [Rep] at hr; subst hr; obtain ⟨t, rfl⟩ := rv
    rw [toPyN] at f ⊢
    exact ⟨⟨_, .int i t⟩, [], (fun _ q => nomatch q), by simp only [PyData.shown]; exact .of_is (ReprIs.int t (by have := f.1; simpa [PyData.showable] using this)) _ _ _⟩
  | .str x, v, u, hr, rv, _, f => by
    rw [Rep] at hr; subst hr; obtain ⟨t, rfl⟩ := rv
    rw [toPyN] at f ⊢
    exact ⟨⟨_, .str x t⟩, [], (fun _ q => nomatch q), by simp only [PyData.shown]; exact .of_is (ReprIs.str x t (by have := f.2; simpa only [PyData.shown] using this)) _ _ _⟩
  | .tup ds, v, u, hr, rv, p, f => by
    obtain ⟨b, xs, rfl, h1, h2⟩ := rep_tup.mp hr
    cases rv
    exact (held_of I (.tup ds) _ b hr rfl p f).rk
  | .lst ds, v, u, hr, rv, p, f => by
    obtain ⟨b, xs, rfl, h1, h2⟩ := rep_lst.mp hr
    cases rv
    exact (held_of I (.lst ds) _ b hr rfl p f).rk
  | .scr ds, v, u, hr, rv, p, f => by
    obtain ⟨b, xs, rfl, h1, h2⟩ := rep_scr.mp hr
    cases rv
    exact (held_of I (.scr ds) _ b hr rfl p f).rk
  | .dct ks ds, v, u, hr, rv, p, f => by
    obtain ⟨b, ob, xs, rfl, h1, hl, h2⟩ := rep_dct.mp hr
    cases rv
    exact (held_of I (.dct ks ds) _ b hr rfl p f).rk
  | .ref _, _, _, _, _, p, _ => by rw [plainN] at p; cases p
  | .exc _ _ _, _, _, _, _, p, _ => by rw [plainN] at p; cases p
  | .dcT _ _, _, _, _, _, p, _ => by rw [plainN] at p; cases p
theorem rksL_of (I : Inv X pins σ H s) : ∀ (ds : List D) (vs : List V) (us : List Value), RepL X.K H ds vs → Vals vs us → plainNL ds = true → fitsL (toPyNL ds) → RKsL X.prog X.w s.heap us (toPyNL ds)
  | [], vs, us, hr, rv, _, _ => by
    rw [repL_nil.mp hr] at rv; cases rv
    rw [toPyNL]; exact .nil
  | d :: ds, vs, us, hr, rv, p, f => by
    obtain ⟨x, r, rfl, h1, h2⟩ := repL_cons.mp hr
    cases rv with
    | cons r1 r2 =>
      rw [plainNL, Bool.and_eq_true] at p
      rw [toPyNL] at f ⊢
      obtain ⟨f1, f2⟩ := fitsL_cons f
      exact .cons (rks_of I d _ _ h1 r1 p.1 f1) (rksL_of I ds _ _ h2 r2 p.2 f2)
end
theorem call_top {P : Program} {w : World} {A : Around} {E : Value → Shared → Prop} {s : Shared} {a : Addr} {d : PyData} {Q : Value → Shared → Prop} (x : Held P w s.heap a d) (hz : d.shown.length ≤ sizeLine) (hg : A.guards = some []) (hu : A.units + (d.depth + 1) < cLine)
    (hQ : ∀ h' u tk, (∀ b o, s.heap.get? b = some o → h'.get? b = some o) → Q (.str d.shown u) { s with heap := h', toks := tk }) : wpAny (model P w) A (call (.builtin "repr") [.ref a]) Q E s := by
  cases x with
  | @lst o us n ds h1 h2 h3 r =>
    obtain ⟨⟨as, r⟩, bs, hb, hk⟩ := r
    have rd : Reads s.heap (.ref a) (.list ds) (a :: as) := .list h1 h2 h3 r
    have hna : a ∉ bs := not_mem_of_deeper rd (by simp only [PyData.depth]; omega) hb
    simp only [PyData.depth] at hu
    simp only [PyData.shown] at hQ hz
    refine call_repr_slot (by omega) ⟨o, h1, h2⟩ F.slot_list_repr.toG ?_
    cases us with
    | nil =>
      cases r
      simp only [PyData.shownAll, listText_nil] at hQ
      exact call_list_repr_empty ⟨o, h1, h2⟩ h1 h3 ⟨_, _, rfl, hQ s.heap _ _ fun _ _ e => e⟩
    | cons x l => exact call_list_reprK h1 h2 h3 hna (by simpa using hk.length_eq) (fun i y e => hk.item i y (by simpa using e)) hg (fun b _ => Clear.nil b) (by show A.units + 1 + _ < _; omega) (fun _ _ e => e) (fun h' u tk k => ⟨_, _, rfl, hQ h' u tk k⟩) hz
  | @tup o us n ds h1 h2 h3 r =>
    obtain ⟨⟨as, r⟩, bs, hb, hk⟩ := r
    have rd : Reads s.heap (.ref a) (.tuple ds) as := .tuple h1 h2 h3 r
    have hna : a ∉ bs := not_mem_of_deeper rd (by simp only [PyData.depth]; omega) hb
    simp only [PyData.depth] at hu
    simp only [PyData.shown] at hQ hz
    refine call_repr_slot (by omega) ⟨o, h1, h2⟩ F.slot_tuple_repr ?_
    exact call_tuple_reprK h1 h2 h3 hna hk hg (fun b _ => Clear.nil b) (by show A.units + 1 + _ < _; omega) (fun _ _ e => e) (fun h' u tk k => ⟨_, _, rfl, hQ h' u tk k⟩) hz
  | @dct o es n kvs h1 h2 h3 hs r1 r2 =>
    obtain ⟨⟨as, r1⟩, b1, hb1, k1⟩ := r1
    obtain ⟨⟨as2, r2⟩, b2, hb2, k2⟩ := r2
    have rd : Reads s.heap (.ref a) (.dict kvs) _ := .dict h1 h2 h3 r1 r2
    have hb : ReadAtMost s.heap (PyData.depthKv kvs) (b1 ++ b2) := (hb1.mono (PyData.depthAll_keys_le kvs)).append (hb2.mono (PyData.depthAll_vals_le kvs))
    have hna : a ∉ b1 ++ b2 := not_mem_of_deeper rd (by simp only [PyData.depth]; omega) hb
    simp only [PyData.depth] at hu
    simp only [PyData.shown, PyData.shownKv_eq] at hQ
    refine call_repr_slot (by omega) ⟨o, h1, h2⟩ F.slot_dict_repr ?_
    exact call_dict_reprK h1 h2 h3 hs hna (ReprEntriesK.of_two es.toList _ _
      (k1.more_le (fun b hb => List.mem_append_left _ hb) (PyData.depthAll_keys_le kvs)) (k2.more_le (fun b hb => List.mem_append_right _ hb) (PyData.depthAll_vals_le kvs))) hg (fun b _ => Clear.nil b) (by show A.units + 1 + _ < _; omega) (fun _ _ e => e) (fun h' u tk k => ⟨_, _, rfl, hQ h' u tk k⟩) (by rw [← PyData.shownKv_eq]; simpa only [PyData.shown] using hz)
def rReprN (K : PySem.W.Frag) : List V → Hp → VK → Prop := fun xs H Q => ∃ v d, xs = [v] ∧ Rep K H d v ∧ plainN d = true ∧ fits (toPyN d) ∧ (toPyN d).depth ≤ 90 ∧ Q (.str (toPyN d).shown) H
theorem call_reprN (gd : X.A.guards = some []) (hu : X.A.units + 100 < cLine) : CallR X (.builtin "repr") (rReprN X.K) := by
  intro pins s σ H xs us Q I rv h
  obtain ⟨v, d, rfl, hd, hp, hf, hdep, q⟩ := h
  obtain ⟨u, rfl, ru⟩ := rv.one
  have top : ∀ a, RelV v (.ref a) → wpAny (model X.prog X.w) X.A (call (.builtin "repr") [.ref a]) (EP X pins σ Q) X.xe s := fun a rv' =>
    call_top (held_of I d v a hd rv' hp hf) hf.2 gd (by omega) fun h' u tk hk => ⟨.str _, H, I.kept hk, ⟨_, rfl⟩, q⟩
  cases d with
  | non =>
    rw [Rep] at hd; subst hd; cases ru
    exact PySem.P.repr_of_none ⟨.str _, H, I.tok _, ⟨_, rfl⟩, q⟩
  | bl b =>
    rw [Rep] at hd; subst hd; cases ru
    exact PySem.P.repr_of_bool ⟨.str _, H, I.tok _, ⟨_, rfl⟩, q⟩
  | int i =>
    rw [Rep] at hd; subst hd; obtain ⟨t, rfl⟩ := ru
    rw [toPyN] at hf q
    exact PySem.P.repr_of_int (by have := hf.1; simpa [PyData.showable] using this) ⟨.str _, H, I.tok _, ⟨_, rfl⟩, q⟩
  | str z =>
    rw [Rep] at hd; subst hd; obtain ⟨t, rfl⟩ := ru
    rw [toPyN] at hf q
    exact PySem.P.repr_of_str ⟨.str _, H, I.tok _, ⟨_, rfl⟩, q⟩ (by have := hf.2; simpa [PyData.shown] using this)
  | tup ds =>
    obtain ⟨b, xs, rfl, _⟩ := rep_tup.mp hd
    cases ru
    exact top b rfl
  | lst ds =>
    obtain ⟨b, xs, rfl, _⟩ := rep_lst.mp hd
    cases ru
    exact top b rfl
  | scr ds =>
    obtain ⟨b, xs, rfl, _⟩ := rep_scr.mp hd
    cases ru
    exact top b rfl
  | dct ks ds =>
    obtain ⟨b, ob, xs, rfl, _⟩ := rep_dct.mp hd
    cases ru
    exact top b rfl
  | ref _ => rw [plainN] at hp; cases hp
  | exc _ _ _ => rw [plainN] at hp; cases hp
  | dcT _ _ => rw [plainN] at hp; cases hp
def shDN (d : D) : Str := (toPyN d).shown
def shOkN (d : D) : Bool := plainN d && (toPyN d).showable && decide ((toPyN d).depth ≤ 90) && decide ((toPyN d).shown.length ≤ sizeLine)
def aReprN (r : Ret) (Γ : Sl) (M : Mem) (Q : Ret → Sl → Mem → Prop) : Prop := match dOf r Γ M with
  | some d => shOkN d = true ∧ Q (.dat (.str (shDN d))) Γ M
  | none => False
theorem rd_reprN {K : PySem.W.Frag} : RdU K ρ (rReprN K) aReprN := by
  intro B σ H H1 G Γ M rx x Q R k r1 h q
  unfold aReprN at h
  split at h
  · rename_i d hd
    obtain ⟨c, h⟩ := h
    simp only [shOkN, Bool.and_eq_true, decide_eq_true_eq] at c
    exact ⟨x, d, rfl, dOf_ok k r1 hd, c.1.1.1, ⟨c.1.1.2, c.2⟩, c.1.2, q _ H G Γ M (.dat (.str _)) k .refl (by simp only [RepR, Rep]; rfl) h⟩
  · exact h.elim
theorem q_reprN {K : PySem.W.Frag} {a : Expr} {ta : TE} {aa : AE} {pos p : Pos} (gd : X.A.guards = some []) (hu : X.A.units + 100 < cLine) (hm : X.mg "repr" = none) (ha : QE X ρ a ta aa) (hg : Gl X "repr" := by rfl) (na : starEach [a] X.env = (false, eval a X.env) :: starEach [] X.env := by rfl) (hK : X.K = K := by rfl) :
    QE X ρ (.Call (.Name "repr" p) [a] [] pos) (tCB (rReprN K) (tCons ta tNil)) (aCall1 aReprN aa) := by subst hK; exact q_callB1 (call_reprN gd hu) rd_reprN hm ha hg (na := na)
theorem aReprN_w {x : Ret} {Γ : Sl} {M : Mem} {Q : Ret → Sl → Mem → Prop} : aReprN x Γ M Q = hold (aReprN x Γ M) Q ⟨⟩ := by simp only [hold]
theorem aReprN_of {d : D} {Γ : Sl} {M : Mem} {Q : Ret → Sl → Mem → Prop} (h : shOkN d = true) (q : Q (.dat (.str (shDN d))) Γ M) : aReprN (.dat d) Γ M Q := by
  have nrf : dOf (.dat d) Γ M = some d := by
    cases d with
    | ref a => simp [shOkN, plainN] at h
    | _ => rfl
  unfold aReprN
  rw [nrf]
  exact ⟨h, q⟩
/-! ### how deep -/
mutual
def depN : D → Nat
  | .tup ds => depNL ds + 1
  | .lst ds => depNL ds + 1
  | .scr ds => depNL ds + 1
  | .dct _ ds => depNL ds + 1
  | .int _ => 0
  | .ref _ => 0
  | .exc _ _ _ => 0
  | .dcT _ _ => 0
  | .non => 0
  | .bl _ => 0
  | .str _ => 0
def depNL : List D → Nat
  | [] => 0
  | d :: ds => max (depN d) (depNL ds)
end
theorem depKv_le : ∀ (ks : List L2.Key) (ds : List PyData), PyData.depthKv ((ks.map keyPy).zip ds) ≤ PyData.depthAll ds
  | [], ds => by simp [PyData.depthKv]
  | k :: ks, [] => by simp [PyData.depthKv]
  | k :: ks, d :: ds => by
    have ih := depKv_le ks ds
    have hk : (keyPy k).depth = 0 := by cases k <;> simp [keyPy, PyData.depth]
    rw [List.map_cons, List.zip_cons_cons, PyData.depthKv, PyData.depthAll, hk]
    omega
mutual
theorem dep_pyN : ∀ d : D, (toPyN d).depth ≤ depN d
  | .tup ds => by rw [toPyN, PyData.depth, depN]; have := depL_pyN ds; omega
  | .lst ds => by rw [toPyN, PyData.depth, depN]; have := depL_pyN ds; omega
  | .scr ds => by rw [toPyN, PyData.depth, depN]; have := depL_pyN ds; omega
  | .dct ks ds => by rw [toPyN, PyData.depth, depN]; have := depL_pyN ds; have := depKv_le ks (toPyNL ds); omega
  | .int _ => by rw [toPyN, PyData.depth, depN]; exact Nat.le_refl _
  | .ref _ => by rw [toPyN, PyData.depth, depN]; exact Nat.le_refl _
  | .exc _ _ _ => by rw [toPyN, PyData.depth, depN]; exact Nat.le_refl _
  | .dcT _ _ => by rw [toPyN, PyData.depth, depN]; exact Nat.le_refl _
  | .non => by rw [toPyN, PyData.depth, depN]; exact Nat.le_refl _
  | .bl _ => by rw [toPyN, PyData.depth, depN]; exact Nat.le_refl _
  | .str _ => by rw [toPyN, PyData.depth, depN]; exact Nat.le_refl _
theorem depL_pyN : ∀ ds : List D, PyData.depthAll (toPyNL ds) ≤ depNL ds
  | [] => by rw [toPyNL, PyData.depthAll, depNL]; exact Nat.le_refl _
  | d :: ds => by
    rw [toPyNL, PyData.depthAll, depNL]
    have := dep_pyN d
    have := depL_pyN ds
    omega
end
/-! ### how long a thing shown is at most -/
mutual
def widN : D → Nat
  | .non => 4
  | .bl _ => 5
  | .int i => i.natAbs.log2 + 2
  | .str x => (reprText x).length
  | .tup ds => widNL ds + 3
  | .lst ds => widNL ds + 3
  | .scr ds => widNL ds + 3
  | .ref _ => 4
  | .dct ks ds => widKs ks + widNL ds + 3
  | .exc _ _ _ => 4
  | .dcT _ _ => 4
def widNL : List D → Nat
  | [] => 0
  | d :: ds => widN d + 2 + widNL ds
def widKs : List L2.Key → Nat
  | [] => 0
  | k :: ks => (keyPy k).shown.length + 2 + widKs ks
end
theorem int_wid (i : Int) : (PyData.int i).shown.length ≤ i.natAbs.log2 + 2 := by
  have := shown_wid (.int i)
  rwa [toPy, wid] at this
theorem kv_wid : ∀ (ks : List L2.Key) (ds : List PyData), ((PyData.shownKv ((ks.map keyPy).zip ds)).map (·.length)).sum + 2 * (PyData.shownKv ((ks.map keyPy).zip ds)).length ≤ widKs ks + (((PyData.shownAll ds).map (·.length)).sum + 2 * (PyData.shownAll ds).length)
  | [], ds => by simp [PyData.shownKv]
  | k :: ks, [] => by simp [PyData.shownKv]
  | k :: ks, d :: ds => by
    have ih := kv_wid ks ds
    rw [List.map_cons, List.zip_cons_cons, PyData.shownKv, PyData.shownAll, widKs, List.map_cons, List.sum_cons, List.map_cons, List.sum_cons, List.length_cons, List.length_cons, strLen_append, strLen_append]
    have : (Str.ofString ": ").length = 2 := by decide
    omega
mutual
theorem shown_widN : ∀ d : D, (toPyN d).shown.length ≤ widN d
  | .non => by rw [toPyN, PyData.shown, widN]; decide
  | .bl b => by rw [toPyN, PyData.shown, widN]; cases b <;> decide
  | .int i => by rw [toPyN, widN]; exact int_wid i
  | .str x => by rw [toPyN, PyData.shown, widN]; exact Nat.le_refl _
  | .ref _ => by rw [toPyN, PyData.shown, widN]; decide
  | .exc _ _ _ => by rw [toPyN, PyData.shown, widN]; decide
  | .dcT _ _ => by rw [toPyN, PyData.shown, widN]; decide
  | .tup ds => by
    rw [toPyN, PyData.shown, widN]
    have := tupleText_len_le (PyData.shownAll (toPyNL ds))
    have := shownL_widN ds
    omega
  | .lst ds => by
    rw [toPyN, PyData.shown, widN]
    have := listText_len_le (PyData.shownAll (toPyNL ds))
    have := shownL_widN ds
    omega
  | .scr ds => by
    rw [toPyN, PyData.shown, widN]
    have := listText_len_le (PyData.shownAll (toPyNL ds))
    have := shownL_widN ds
    omega
  | .dct ks ds => by
    rw [toPyN, PyData.shown, widN]
    have := dictText_len_le (PyData.shownKv ((ks.map keyPy).zip (toPyNL ds)))
    have := kv_wid ks (toPyNL ds)
    have := shownL_widN ds
    omega
theorem shownL_widN : ∀ ds : List D, ((PyData.shownAll (toPyNL ds)).map (·.length)).sum + 2 * (PyData.shownAll (toPyNL ds)).length ≤ widNL ds
  | [] => by rw [toPyNL, PyData.shownAll, widNL]; decide
  | d :: ds => by
    rw [toPyNL, PyData.shownAll, widNL, List.map_cons, List.sum_cons, List.length_cons]
    have := shown_widN d
    have := shownL_widN ds
    omega
end
end
def e_aReprN := @aReprN.eq_def
end Gw

/-! len(set(rows)) -/
namespace Gw
open PySem L2 PyProof.Rows
variable {ρ : Ent}
section
variable {X : Cx} {a : Expr} {ta : TE} {aa : AE} {pos : Pos} {K : PySem.W.Frag}
def rLenT (K : PySem.W.Frag) (P : Program) (w : World) : List V → Hp → VK → Prop := fun vs H Q => ∃ (a : Addr) (L : List (Addr × List Int)), vs = [V.ref a] ∧ H a = some (SetTO P w a L) ∧ (∀ p ∈ L, SqT K H p.1 (p.2.map V.int)) ∧ ((L.map (·.2)).Nodup → Q (.int L.length) H)
theorem cr_lenT : CallR X (.builtin "len") (rLenT X.K X.prog X.w) := by
  intro pins s σ H vs us Q I r h
  obtain ⟨a, L, rfl, ha, hk, q⟩ := h
  have R0 : SetT0 X.prog X.w s.heap a L := (I.hok a _ ha).1
  obtain ⟨es, ep, t, R⟩ := R0.full fun p hp => I.isT (hk p hp)
  rw [Vals.ref1 r]
  obtain ⟨o, ho, hex, hd⟩ := R.ob
  have sz := R.size
  have few := R.few
  refine call_len_set ho hex hd R.fits (by rw [sz]; omega) ⟨.int L.length, H, I.tok _, ⟨_, by rw [sz]⟩, q R.nd⟩
/-- how many unlike rows there are -/
def aLenSetT (r : Ret) (Γ : Sl) (M : Mem) (Q : Ret → Sl → Mem → Prop) : Prop := match sqOf r Γ M with
  | some (.lst ds) => match rowsD ds with
    | some rs => rs.length < 64 ∧ ∀ os : List (List Int), os.Nodup → (∀ r, r ∈ os ↔ r ∈ rs) → Q (.dat (.int os.length)) Γ M
    | none => False
  | _ => False
theorem q_lenSetT {P : Program} {w : World} {p p2 pos2 : Pos} (hm : X.mg "len" = none) (hm2 : X.mg "set" = none) (hu : X.A.units + 64 < cLine) (ha : QE X ρ a ta aa) (hc : X.calm = true := by rfl) (hg : Gl X "len" := by rfl) (hg2 : Gl X "set" := by rfl)
    (na : starEach [a] X.env = (false, eval a X.env) :: starEach [] X.env := by rfl) (na2 : starEach [.Call (.Name "set" p2) [a] [] pos2] X.env = (false, eval (.Call (.Name "set" p2) [a] [] pos2) X.env) :: starEach [] X.env := by rfl) (hK : X.K = K := by rfl) (hP : X.prog = P := by rfl) (hW : X.w = w := by rfl) :
    QE X ρ (.Call (.Name "len" p) [.Call (.Name "set" p2) [a] [] pos2] [] pos) (tCB (rLenT K P w) (tCons (tCB (rSetOfT K P w) (tCons ta tNil)) tNil)) (aCall1 aLenSetT aa) := by
  subst hK; subst hW; subst hP
  refine ⟨pe_callB cr_lenT hg hm (by decide +kernel) (pa_cons (pe_callTy (cr_setOfT hc hu) hg2 hm2 (by decide +kernel) (pa_cons ha.pe pa_nil na) (by decide) (by decide) na) pa_nil na2) (by decide) (by decide) na2, ?_⟩
  intro B σ H G Γ M Q R k h q
  refine ha.rd B σ H G Γ M _ _ k h fun v H1 G1 Γ1 M1 r k1 e1 rr h1 => ?_
  unfold aLenSetT at h1
  split at h1
  · rename_i ds hs
    split at h1
    · rename_i rs hr
      obtain ⟨few, h1⟩ := h1
      obtain ⟨l, xs, ev, hl, rl⟩ := sqOf_ok k1 rr hs
      rw [rowsD_ok hr] at rl
      obtain ⟨ks, rfl, rfl, hk⟩ := rep_rows rl
      rw [List.length_map] at few
      refine ⟨l, ks, by rw [ev], SqL.of hl, fun p hp => ex_t k1.ex (hk p hp), few, fun p0 L hp0 sub all => ?_⟩
      obtain ⟨k2, e2, _⟩ := k1.tmp (o := SetTO X.prog X.w p0 L) hp0
      refine ⟨p0, L, rfl, upd_same, fun p hp => ex_t (Ex.trans k1.ex (Ex.new hp0)) (hk p (sub p hp)), fun nd => ?_⟩
      refine q _ _ _ _ _ (.dat (.int (L.length : Int))) k2 (e1.trans e2) (by simp only [RepR, Rep]) ?_
      have := h1 (L.map (·.2)) nd fun r => by
        constructor
        · intro hr
          obtain ⟨p, hp, rfl⟩ := List.mem_map.mp hr
          exact List.mem_map.mpr ⟨p, sub p hp, rfl⟩
        · intro hr
          obtain ⟨p, hp, rfl⟩ := List.mem_map.mp hr
          exact all p hp
      rwa [List.length_map] at this
    · exact h1.elim
  · exact h1.elim
end
def e_aLenSetT := @aLenSetT.eq_def
end Gw

/-! sorted({.. for .. for ..}) -/
namespace Gw
open PySem L2 PyProof.Rows
variable {ρ : Ent}
/-! ### one loop of a comprehension's block, whatever is done in it -/
def turnOf (tg iter : Expr) (ifs : List Expr) (c : Code) (it : Value) (env : Env) (body : Sem Fin → Sem Fin) : Sem Fin := do
  standAt iter.pos
  match ← pyNext it with
  | none => pure (.done .next)
  | some v =>
    letOwnedTupleGo tg it v
    assign tg env v
    let mut ok := true
    for d in ifs do
      if ok then ok ← isTrue d env (eval d env)
    if ok then body (again c) else again c
def addB (elt : Expr) (acc : Value) (env : Env) (k : Sem Fin) : Sem Fin := (do let v ← eval elt env; standAt elt.pos; let _ ← call (.builtin "set.add") [acc, v]) >>= fun _ => k
def innerB (e iter1 : Expr) (acc : Value) (env : Env) (k : Sem Fin) : Sem Fin := do
  let x ← eval iter1 env
  standAt iter1.pos
  let x ← foldedSetIterable iter1 env x
  let _ ← runOwn (.compStart e 1 (← holding [x] (pyIter x)) acc env) env
  k
theorem turn_inner (elt t0 i0 t1 i1 : Expr) (f0 f1 : List Expr) (scope : Scope) (pos : Pos) (it acc : Value) (env : Env) :
    compTurn (.SetComp elt [⟨t0, i0, f0, 0⟩, ⟨t1, i1, f1, 0⟩] scope pos) 1 it acc env = turnOf t1 i1 f1 (.compLoop (.SetComp elt [⟨t0, i0, f0, 0⟩, ⟨t1, i1, f1, 0⟩] scope pos) 1 it acc env) it env (addB elt acc env) := by rfl
theorem turn_outer (elt t0 i0 t1 i1 : Expr) (f0 f1 : List Expr) (scope : Scope) (pos : Pos) (it acc : Value) (env : Env) :
    compTurn (.SetComp elt [⟨t0, i0, f0, 0⟩, ⟨t1, i1, f1, 0⟩] scope pos) 0 it acc env = turnOf t0 i0 f0 (.compLoop (.SetComp elt [⟨t0, i0, f0, 0⟩, ⟨t1, i1, f1, 0⟩] scope pos) 0 it acc env) it env (innerB (.SetComp elt [⟨t0, i0, f0, 0⟩, ⟨t1, i1, f1, 0⟩] scope pos) i1 acc env) := by rfl
abbrev TB := L2.St → Hp → (Hp → Prop) → Prop
def loopT (J : It) (g : TG) (tt : TT) (vs : List Nat) (σ : L2.St) (body : TB) (Done : Hp → Prop) (H0 : Hp) : Prop :=
  ∃ W : Nat → Nat → Hp → Prop, (∃ m, W 0 m H0) ∧ ∀ i m H, W i m H → (J.stop i H ∧ Done H) ∨ (J.go i H ∧ ∃ Nx : Hp → Prop, (∀ H', Nx H' → ∃ m', m' < m ∧ W (i + 1) m' H') ∧ ∀ x H', J.yld i H x H' →
    g x (wipe σ vs) H' fun σ2 H2 => wipe σ2 vs = wipe σ vs ∧ tt σ2 H2 fun b H3 => if b = true then body σ2 H3 Nx else Nx H3)
/-- what a turn's suite keeps to: it goes on with k from a state where the block's names are forgotten -/
def BodyOk (Y : Cx) (pins : List (Addr × Obj)) (vs : List Nat) (body : Sem Fin → Sem Fin) (tb : TB) : Prop :=
  ∀ (s : Shared) (σ : L2.St) (H : Hp) (Nx : Hp → Prop) (k : Sem Fin) (Q : Fin → Shared → Prop) (E : Value → Shared → Prop), Inv Y pins σ H s → tb σ H Nx →
    (∀ s' H', Inv Y pins (wipe σ vs) H' s' → Nx H' → wpAny (model Y.prog Y.w) Y.A k Q E s') → wpAny (model Y.prog Y.w) Y.A (body k) Q E s
theorem loop_ok {Y : Cx} {pins : List (Addr × Obj)} {σ : L2.St} {vs : List Nat} {tg iter elt : Expr} {gens : List Comprehension} {scope : Scope} {pos : Pos} {ifs : List Expr} {n : Nat} {acc : Value} {fp : List Addr} {it : Addr} {tn : Nat → Heap → Prop} {J : It} {g : TG} {tt : TT} {body : Sem Fin → Sem Fin} {tb : TB} {Done : Hp → Prop} {R : Result → Shared → Prop} {s0 : Shared} {H0 : Hp}
    (hc : Y.calm = true) (hx : ∀ v s, ¬ Y.xe v s) (eq : compTurn (.SetComp elt gens scope pos) n (.ref it) acc Y.env = turnOf tg iter ifs (.compLoop (.SetComp elt gens scope pos) n (.ref it) acc Y.env) (.ref it) Y.env body)
    (T : Turn Y.prog Y.w Y.K tg J fp it tn) (pg : PG Y tg g) (pt : PTs Y ifs tt) (pb : ∀ h, BodyOk Y (pins ++ pinsAt fp h) vs body tb)
    (fpY : ∀ {σ' : L2.St} {H' : Hp} {s' : Shared}, Inv Y pins σ' H' s' → (∀ b ∈ fp, H' b = none) → ∀ b ∈ fp, FpOk Y pins H' b)
    (h : loopT J g tt vs σ tb Done H0) (I0 : Inv Y pins (wipe σ vs) H0 s0) (st0 : tn 0 s0.heap) (nf0 : ∀ b ∈ fp, H0 b = none)
    (hend : ∀ H' s', Inv Y pins (wipe σ vs) H' s' → Done H' → R (.ok .next) s') :
    codeAny (model Y.prog Y.w) Y.A (.compLoop (.SetComp elt gens scope pos) n (.ref it) acc Y.env) R s0 := by
  obtain ⟨W, ⟨m0, w0⟩, turn⟩ := h
  refine codeAny_loop rfl (fun m s' => ∃ i H', Inv Y pins (wipe σ vs) H' s' ∧ tn i s'.heap ∧ (∀ b ∈ fp, H' b = none) ∧ W i m H') ?_ m0 ⟨0, H0, I0, st0, nf0, w0⟩
  rintro m sa ⟨i, Ha, Ia, sta, nfa, wa⟩
  show wpAny _ Y.A ((compTurn (.SetComp elt gens scope pos) n (.ref it) acc Y.env).onRaise (fun x => do noteFrame x Y.env; theTreesLotGoes x)) _ _ sa
  rw [eq]
  refine wpAny_noted ?_
  unfold turnOf
  refine wpAny_bind (wpAny_standAt (wpAny_bind ?_))
  rcases turn i m Ha wa with ⟨stop, qd⟩ | ⟨go, Nx, hNx, step⟩
  · refine thnF (T.done Y rfl rfl rfl hc i pins sa _ Ha (fun _ _ => False) Ia (fpY Ia nfa) sta stop) fun r sb hb => ?_
    rw [hb.1]
    exact wpAny_pure (hend Ha sb hb.2 qd)
  refine thnF (T.item Y rfl rfl rfl hc i pins sa _ Ha (fun _ _ => False) Ia (fpY Ia nfa) sta go) fun r sb ⟨u, er, hb⟩ => ?_
  rw [er]
  refine wpAny_bind (thnF hb fun _ sc ⟨x, Hc, Ic, rx, yc, stc, nfc⟩ => ?_)
  refine wpAny_bind (wpAny_mono (pg.run _ sc _ Hc x u _ (Ic.pinned (fpY Ic nfc) (T.obj _ _ stc)) rx (step x Hc yc)) (fun _ sd ⟨σd, Hd, Id, wd, qd⟩ => ?_) fun _ _ z => (hx _ _ z).elim)
  have back : ∀ {s' : Shared} {H' : Hp}, Inv Y (pins ++ pinsAt fp sc.heap) (wipe σd vs) H' s' → Nx H' → ∃ m', m' < m ∧ ∃ i H', Inv Y pins (wipe σ vs) H' s' ∧ tn i s'.heap ∧ (∀ b ∈ fp, H' b = none) ∧ W i m' H' := fun {s' H'} I' nx => by
    obtain ⟨m', lt, w'⟩ := hNx H' nx
    have still : ∀ b ∈ fp, ∀ o, sc.heap.get? b = some o → s'.heap.get? b = some o ∧ H' b = none := fun b mb o e => by
      have z := I'.pin (b, o) (List.mem_append_right _ (List.mem_append_right _ (mem_pinsAt mb e)))
      exact ⟨z.1, z.2.1⟩
    rw [wd] at I'
    refine ⟨m', lt, i + 1, H', I'.unpinned (pins := pins), T.keep _ _ _ stc fun b mb o e => (still b mb o e).1, fun b mb => ?_, w'⟩
    obtain ⟨o, e, _⟩ := T.obj _ _ stc b mb
    exact (still b mb o e).2
  refine wpAny_bind (wpAny_mono (pt.run _ sd σd Hd _ Id qd) (fun t se ⟨He, Ie, qe⟩ => ?_) fun _ _ z => (hx _ _ z).elim)
  cases t with
  | false => exact wpAny_pure ⟨rfl, back (Ie.weak (wipe_length _ _) fun j v e => (wipe_some e).1) qe⟩
  | true => exact pb sc.heap se σd He Nx _ _ _ Ie qe fun s' H' I' nx => wpAny_pure ⟨rfl, back I' nx⟩
section
variable {X : Cx} {D : Addr} {elt tg iter tg1 iter1 : Expr} {ifs ifs1 : List Expr} {scope : Scope} {pos pos' : Pos} {te : TE} {pins : List (Addr × Obj)} {vs vs1 : List Nat} {g g1 : TG} {tt tt1 : TT} {wi wi1 : TI}
abbrev AddR := V → List V → Hp → VK → Prop
def addT (r : AddR) (D : Addr) (te : TE) : TB := fun σ H Nx => te σ H fun y H1 => r (.ref D) [y] H1 fun _ H2 => Nx H2
theorem add_ok {Y : Cx} {r : AddR} (hx : ∀ v s, ¬ Y.xe v s) (hr : MtR Y "set.add" r) (he : PE Y elt te) : BodyOk Y pins vs (addB elt (.ref D) Y.env) (addT r D te) := by
  intro s σ H Nx k Q E I h q
  refine wpAny_bind (wpAny_bind (wpAny_mono (he.run pins s σ H _ I h) (fun u s1 ⟨y, H1, I1, ry, q1⟩ => ?_) fun _ _ z => (hx _ _ z).elim))
  refine wpAny_bind (wpAny_standAt (wpAny_bind (wpAny_mono (hr pins s1 σ H1 (.ref D) [y] (.ref D) [u] _ I1 rfl (.cons ry .nil) q1) (fun _ s2 ⟨_, H2, I2, _, q2⟩ => ?_) fun _ _ z => (hx _ _ z).elim)))
  exact wpAny_pure (q s2 H2 (I2.weak (wipe_length _ _) fun j v e => (wipe_some e).1) q2)
theorem start_at {prog : Program} {w : World} {A : Around} {R : Result → Shared → Prop} {it acc : Value} {env : Env} {s : Shared} (self : ∀ (Q : Value → Shared → Prop) (E : Value → Shared → Prop), Q it s → wpAny (model prog w) A (pyIter it) Q E s)
    (h0 : codeAny (model prog w) A (.compLoop (.SetComp elt [⟨tg, iter, ifs, 0⟩, ⟨tg1, iter1, ifs1, 0⟩] scope pos) 1 it acc env) R s) :
    codeAny (model prog w) A (.compStart (.SetComp elt [⟨tg, iter, ifs, 0⟩, ⟨tg1, iter1, ifs1, 0⟩] scope pos) 1 it acc env) R s := by
  refine codeAny_of_tree ?_
  show wpAny _ _ ((compStart (.SetComp elt [⟨tg, iter, ifs, 0⟩, ⟨tg1, iter1, ifs1, 0⟩] scope pos) 1 it acc env).onRaise (fun x => do noteFrame x env; standAt theWindowsPlace)) _ _ s
  refine wpAny_notedAt ?_
  unfold compStart
  show wpAny _ _ (ask >>= _) _ _ s
  refine wpAny_bind (wpAny_askSetting ?_)
  split
  · exact wpAny_pure ⟨rfl, h0⟩
  · refine wpAny_bind (wpAny_rule ?_)
    show wpAny _ _ (standAt iter1.pos >>= _) _ _ s
    exact wpAny_bind (wpAny_standAt (wpAny_bind (self _ _ (wpAny_pure ⟨rfl, h0⟩))))
def innT (r : AddR) (D : Addr) (wi1 : TI) (g1 : TG) (tt1 : TT) (te : TE) (vs1 : List Nat) : TB := fun σ H Nx => wi1 σ H fun J H1 => loopT J g1 tt1 vs1 σ (addT r D te) Nx H1
theorem inn_ok {Y : Cx} {r : AddR} (hc : Y.calm = true) (hx : ∀ v s, ¬ Y.xe v s) (hr : MtR Y "set.add" r) (hi : PI Y tg1 iter1 wi1) (pg : PG Y tg1 g1) (pt : PTs Y ifs1 tt1) (he : PE Y elt te) (hv : ∀ i ∈ vs1, i ∈ vs) (hs : ∀ env x, foldedSetIterable iter1 env x = pure x) :
    BodyOk Y pins vs (innerB (.SetComp elt [⟨tg, iter, ifs, 0⟩, ⟨tg1, iter1, ifs1, 0⟩] scope pos) iter1 (.ref D) Y.env) (innT r D wi1 g1 tt1 te vs1) := by
  intro s σ H Nx k Q E I h q
  unfold innerB
  refine wpAny_bind (wpAny_mono (hi.run pins s σ H _ I h) (fun v s1 hv1 => ?_) fun _ _ z => (hx _ _ z).elim)
  refine wpAny_bind (wpAny_standAt (wpAny_bind (wpAny_of_eq (hs Y.env v) (wpAny_bind (wpAny_holding (wpAny_mono hv1 (fun iv s2 ⟨it, fp, tn, J, H2, ei, I2, T, st, f2, q2⟩ => ?_) fun _ _ z => (hx _ _ z).elim))))))
  subst ei
  refine wpAny_bind (wpAny_runOwn ?_)
  rw [Around.mark_none]
  refine start_at (fun Q' E' z => T.self Y.A 0 s2 Q' E' st z) (loop_ok hc hx (turn_inner elt tg iter tg1 iter1 ifs ifs1 scope pos (.ref it) (.ref D) Y.env) T pg pt (fun hp => add_ok hx hr he) (fun {σ' H' s'} _ hn b mb => ⟨hn b mb, (f2 b mb).2⟩) q2 (I2.weak (wipe_length _ _) fun j v e => (wipe_some e).1) st (fun b mb => (f2 b mb).1) fun H' s' I' nx => ?_)
  refine q s' H' (I'.weak (by rw [wipe_length, wipe_length]) fun j v e => ?_) nx
  obtain ⟨e1, e2⟩ := wipe_some e
  rw [wipe_out fun m => e2 (hv j m)]
  exact e1
def tSc2 (o0 : Addr → HO) (r : AddR) (wi : TI) (g : TG) (tt : TT) (wi1 : TI) (g1 : TG) (tt1 : TT) (te : TE) (vs vs1 : List Nat) : TE := fun σ H Q => wi σ H fun J H1 => ∀ D, H1 D = none → loopT J g tt vs σ (innT r D wi1 g1 tt1 te vs1) (fun H' => Q (.ref D) H') (upd H1 D (o0 D))
abbrev freshSet (w : World) : Obj := { cls := .type "set", dict := none, data := .set #[] 0 (.fresh 0 0 (!w.params.followText "set-order")) }
abbrev Blk (X : Cx) (scope : Scope) (P : Cx → Prop) : Prop := ∀ (s : Shared) (H : Hp) (C : Addr) (cl : List (Str × Addr)) (fp : List Addr), P (X.blk s H scope (compEnvC scope cl C X.env) fp)
theorem pe_sc2 {o0 : Addr → HO} {r : AddR} {own : List (Str × Nat)} (ho : ∀ H h a, h.get? a = some (freshSet X.w) → ObjOk X.prog X.w H h a (o0 a)) (hr : Blk X scope fun Y => MtR Y "set.add" r) (hc : X.calm = true) (hN : X.N.Nodup) (hi : PI X tg iter wi) (ok : BlkOk X.N X.env.scope scope own) (hv : ∀ i ∈ vs1, i ∈ own.map (·.2))
    (hg : Blk X scope fun Y => PG Y tg g) (ht : Blk X scope fun Y => PTs Y ifs tt) (hi1 : Blk X scope fun Y => PI Y tg1 iter1 wi1) (hg1 : Blk X scope fun Y => PG Y tg1 g1) (ht1 : Blk X scope fun Y => PTs Y ifs1 tt1) (he : Blk X scope fun Y => PE Y elt te)
    (hs : ∀ x, foldedSetIterable iter X.env x = pure x := by intro _; rfl) (hs1 : ∀ env x, foldedSetIterable iter1 env x = pure x := by intro _ _; rfl) :
    PE X (.SetComp elt [⟨tg, iter, ifs, 0⟩, ⟨tg1, iter1, ifs1, 0⟩] scope pos) (tSc2 o0 r wi g tt wi1 g1 tt1 te (own.map (·.2)) vs1) := ⟨fun pins s σ H Q I h => by
  rw [PpSet.eval_SetComp]
  have outs : ∀ y ∈ scope.names, y.2 = .free → ∃ c, X.env.cells.lookup y.1 = some c := fun y m f => (ok.free y m f).elim (fun z => I.ok.has _ (.inl z)) fun z => I.ok.has _ (.inr z)
  refine wpAny_comprehension_free (use := none) rfl hs (closure_ok outs) ok.kind (fun y m f => by rw [ok.uniq y m, f]) (thn (hi.run pins s σ H _ I h) fun _ _ ha => thn ha fun _ sb hb => ?_)
  obtain ⟨it, fp, tn, J, Hb, rfl, Ib, T, stb, fb, q⟩ := hb
  refine PpSet.newSet_ok (newEnv_comp ?_)
  have np : Hb sb.heap.objs.size = none := Ib.hok.fresh (Nat.le_refl _)
  have q := q _ np
  -- the set stands
  have I3 : Inv X pins σ (upd Hb sb.heap.objs.size (o0 sb.heap.objs.size)) { sb with heap := sb.heap.push (freshSet X.w) } := Ib.laid (t' := sb.toks) (fun b o e => Heap.get?_push_of_some _ e) (Nat.le_refl _) (ho _ _ _ (Heap.get?_push_size _ rfl))
  have f3 : ∀ b ∈ fp, FpOk X pins (upd Hb sb.heap.objs.size (o0 sb.heap.objs.size)) b ∧ b < (sb.heap.push (freshSet X.w)).objs.size := fun b mb => by
    obtain ⟨o, e, _⟩ := T.obj _ _ stb b mb
    have lt := Heap.lt_size e
    exact ⟨⟨by rw [upd_ne (Nat.ne_of_lt lt)]; exact (fb b mb).1, (fb b mb).2⟩, by rw [Heap.size_push]; exact Nat.lt_succ_of_lt lt⟩
  have st3 : tn 0 (sb.heap.push (freshSet X.w)) := T.keep _ _ _ stb fun b _ o e => Heap.get?_push_of_some _ e
  generalize hs3 : ({ sb with heap := sb.heap.push (freshSet X.w) } : Shared) = s3 at *
  have h3 : s3.heap = sb.heap.push (freshSet X.w) := by rw [← hs3]
  rw [← h3] at f3 st3
  generalize upd Hb sb.heap.objs.size (o0 sb.heap.objs.size) = H3 at *
  have I4 := block_start I3 ok hN f3
  have at' := fun {P : Cx → Prop} (hP : Blk X scope P) => hP s3 H3 s3.heap.objs.size (cellsFrom (s3.heap.objs.size + 1) scope.names (cloFrom X.env.cells scope.names [])) fp
  have pr := at' hr
  have pg := at' hg
  have pt := at' ht
  have pi1 := at' hi1
  have pg1 := at' hg1
  have pt1 := at' ht1
  have pe := at' he
  have nf : ∀ b ∈ fp, H3 b = none := fun b mb => (f3 b mb).1.1
  have st4 : tn 0 (pushCells (s3.heap.push { cls := .type "dict", data := .dict #[] }) scope.names) := T.keep _ _ _ st3 fun b _ o e => pushCells_keeps _ _ _ _ (Heap.get?_push_of_some _ e)
  show codeAny _ _ (.compStart (.SetComp elt [⟨tg, iter, ifs, 0⟩, ⟨tg1, iter1, ifs1, 0⟩] scope pos) 0 (.ref it) (.ref sb.heap.objs.size) (compEnvC scope (cellsFrom (s3.heap.objs.size + 1) scope.names (cloFrom X.env.cells scope.names [])) s3.heap.objs.size X.env)) (compPost (model X.prog X.w) X.A X.xe none (EP X pins σ Q) (.ref sb.heap.objs.size) s3.heap.objs.size) _
  have cL : (compEnvC scope (cellsFrom (s3.heap.objs.size + 1) scope.names (cloFrom X.env.cells scope.names [])) s3.heap.objs.size X.env).locals = s3.heap.objs.size := rfl
  clear at'
  generalize compEnvC scope (cellsFrom (s3.heap.objs.size + 1) scope.names (cloFrom X.env.cells scope.names [])) s3.heap.objs.size X.env = ce at *
  have loop := loop_ok (Y := X.blk s3 H3 scope ce fp) (pins := []) (vs := own.map (·.2)) (R := compPost (model X.prog X.w) X.A X.xe none (EP X pins σ Q) (.ref sb.heap.objs.size) s3.heap.objs.size) hc (fun _ _ z => z) (turn_outer elt tg iter tg1 iter1 ifs ifs1 scope pos (.ref it) (.ref sb.heap.objs.size) ce) T pg pt
    (fun hp => inn_ok (Y := X.blk s3 H3 scope ce fp) hc (fun _ _ z => z) pr pi1 pg1 pt1 pe hv hs1)
    (fun {σ' H' s'} I' hn b mb => ⟨hn b mb, (I'.ok.exf b mb).1, I'.ok.exfs b mb, .inl mb, fun x c e => (I'.ok.exf b mb).2 x c e, fun z hz => absurd (show z ∈ ([] : List (Addr × Obj)) ++ [] from hz) (by simp)⟩) q I4 st4 nf fun H' s' I' qd => by
      have I7 : Inv X pins σ H' s' := I3.call' (ch := fp) I'.os I'.base I'.hok I'.bare fun b mb => ⟨(f3 b mb).1.2.2.2.1, (f3 b mb).1.2.1, (f3 b mb).1.2.2.2.2.1, (f3 b mb).1.2.2.2.2.2⟩
      have nC : H' s3.heap.objs.size = none := by have z : H' ce.locals = none := I'.free; rwa [cL] at z
      obtain ⟨m, hn, _⟩ := I'.loc
      have hn : s'.heap.Ns ce.locals m := hn
      rw [cL] at hn
      obtain ⟨f0, f1, _, f3', f4, f5⟩ := I3.fpOk (Nat.le_refl s3.heap.objs.size) nC
      exact ⟨m, hn, fun h2 same => ⟨.ref _, H', I7.turned (t' := s'.toks) (fun b o hb e => (same.2 b hb).trans e) f0 f1 f3' f4 f5, rfl, qd⟩⟩
  exact PpSet.codeAny_compStart_set loop (T.self X.A 0 _ _ _ st4 loop)⟩
end
/-! ### the reading -/
section
variable {X : Cx} {tg iter : Expr} {te : TE} {ae : AE} {pos : Pos} {K : PySem.W.Frag} {B : Ent} {σ σ' σ0 : L2.St} {H G H0 G0 H2 G2 : Hp} {Γ Γ' Γ0 Γ2 : Sl} {M M0 M2 : Mem} {p : Addr} {vs : List Nat} {α : Type} {Pd : List α → Hp → HO → Prop} {acc : List α}
/-- an object at p that grows by acc, seen from an earlier state (0) -/
structure GrowP (K : PySem.W.Frag) (ρ : Ent) (B : Ent) (p : Addr) (σ0 : L2.St) (H0 G0 : Hp) (Γ0 : Sl) (M0 : Mem) (vs : List Nat) (Pd : List α → Hp → HO → Prop) (acc : List α) (σ : L2.St) (H G : Hp) (Γ : Sl) (M : Mem) : Prop where
  ok : Ok K ρ B σ H G Γ M
  g : Ex G0 G
  tmp : ∀ a o, H0 a = some o → G0 a = none → a ∉ dom M0 → ¬ owned σ0 Γ0 a → H a = some o ∧ G a = none ∧ a ∉ dom M ∧ ¬ owned σ Γ a
  nn : ∀ a, H a = none → H0 a = none
  wi : ∀ (j : Nat) (s : Slot), Γ[j]? = some s → s ≠ .non → j ∉ vs
  here : ∃ u, H p = some u ∧ Pd acc G u
  gp : G p = none
  mp : p ∉ dom M
  op : ¬ owned σ Γ p
  base : B.H p = none ∧ H0 p = none
theorem GrowP.es (mono : ∀ acc G G' u, Ex G G' → Pd acc G u → Pd acc G' u) (w : GrowP K ρ B p σ0 H0 G0 Γ0 M0 vs Pd acc σ H G Γ M) (k : Ok K ρ B σ H2 G2 Γ2 M2) (e : Es σ H G Γ M H2 G2 Γ2 M2) : GrowP K ρ B p σ0 H0 G0 Γ0 M0 [] Pd acc σ H2 G2 Γ2 M2 := by
  obtain ⟨o, hp, hc⟩ := w.here
  obtain ⟨p1, p2, p3, p4⟩ := e.tmp p _ hp w.gp w.mp w.op
  refine ⟨k, w.g.trans e.g, fun a o h g m n => ?_, fun a z => w.nn a (e.nn a z), fun j s _ _ => by simp, ⟨o, p1, mono _ _ _ _ e.g hc⟩, p2, p3, p4, w.base⟩
  obtain ⟨a1, a2, a3, a4⟩ := w.tmp a o h g m n
  exact e.tmp a o a1 a2 a3 a4
theorem GrowP.to (w : GrowP K ρ B p σ0 H0 G0 Γ0 M0 vs Pd acc σ H G Γ M) (k : Ok K ρ B σ' H G Γ' M) (o : ∀ x, owned σ' Γ' x → owned σ Γ x) {us : List Nat} (hw : ∀ (j : Nat) (s : Slot), Γ'[j]? = some s → s ≠ .non → j ∉ us) : GrowP K ρ B p σ0 H0 G0 Γ0 M0 us Pd acc σ' H G Γ' M := by
  refine ⟨k, w.g, fun a o' h g m n => ?_, w.nn, hw, w.here, w.gp, w.mp, fun z => w.op (o _ z), w.base⟩
  obtain ⟨a1, a2, a3, a4⟩ := w.tmp a o' h g m n
  exact ⟨a1, a2, a3, fun z => a4 (o _ z)⟩
theorem GrowP.put {acc' : List α} {u : HO} (w : GrowP K ρ B p σ0 H0 G0 Γ0 M0 vs Pd acc σ H G Γ M) (hu : Pd acc' G u) : GrowP K ρ B p σ0 H0 G0 Γ0 M0 vs Pd acc' σ (upd H p u) G Γ M := by
  obtain ⟨o, hp, hc⟩ := w.here
  refine ⟨w.ok.updTmp' hp w.base.1 w.gp w.mp w.op, w.g, fun a o h g m n => ?_, fun a z => ?_, w.wi, ⟨u, upd_same, hu⟩, w.gp, w.mp, w.op, w.base⟩
  · obtain ⟨a1, a2, a3, a4⟩ := w.tmp a o h g m n
    exact ⟨by rw [upd_ne (ne_of_none h w.base.2)]; exact a1, a2, a3, a4⟩
  · by_cases e : a = p
    · subst e; exact w.base.2
    · rw [upd_ne e] at z; exact w.nn a z
theorem GrowP.enter (w : GrowP K ρ B p σ0 H0 G0 Γ0 M0 vs Pd acc σ H G Γ M) : GrowP K ρ B p σ0 H0 G0 Γ0 M0 vs Pd acc (wipe σ vs) H G Γ M := by
  obtain ⟨k, o⟩ := w.ok.agree (σ' := wipe σ vs) (Γ' := Γ) (fun j s a b => ⟨a, wipe_out (w.wi j s a b)⟩) (by rw [wipe_length]; exact w.ok.len)
  exact w.to k o w.wi
theorem GrowP.leave (w : GrowP K ρ B p σ0 H0 G0 Γ0 M0 [] Pd acc σ' H G Γ M) (hw : wipe σ' vs = wipe σ vs) : GrowP K ρ B p σ0 H0 G0 Γ0 M0 vs Pd acc σ H G (wipeS Γ vs) M := by
  have ag : ∀ j, j ∉ vs → σ[j]? = σ'[j]? := fun j hj => by rw [← wipe_out (σ := σ') hj, hw, wipe_out hj]
  have hl : σ'.length = σ.length := by rw [← wipe_length σ' vs, hw, wipe_length]
  obtain ⟨k, o⟩ := w.ok.agree (σ' := σ) (Γ' := wipeS Γ vs) (fun j s a b => ⟨(wipeS_some a b).1, ag j (wipeS_some a b).2⟩) (by rw [wipeS_length, w.ok.len, hl])
  exact w.to k o fun j s a b => (wipeS_some a b).2
def aScL (pick : D → Option α) (g : AG) (tt : AT) (ae : AE) (vs : List Nat) (k : List α → Sl → Mem → Prop) : List D → List α → Sl → Mem → Prop
  | [], acc, Γ, M => k acc Γ M
  | d :: ds, acc, Γ, M => g d Γ fun Γ1 => tt Γ1 M fun b Γ2 M2 => if b = true then ae Γ2 M2 fun r Γ3 M3 => match r with
      | .dat y => match pick y with
        | some x => acc.length < 60 ∧ aScL pick g tt ae vs k ds (acc ++ [x]) (wipeS Γ3 vs) M3
        | none => False
      | _ => False
    else aScL pick g tt ae vs k ds acc (wipeS Γ2 vs) M2
def aScO (pick : D → Option α) (ai1 : AI) (g : AG) (tt : AT) (g1 : AG) (tt1 : AT) (ae : AE) (vs vs1 : List Nat) (k : List α → Sl → Mem → Prop) : List D → List α → Sl → Mem → Prop
  | [], acc, Γ, M => k acc Γ M
  | d :: ds, acc, Γ, M => g d Γ fun Γ1 => tt Γ1 M fun b Γ2 M2 => if b = true then ai1 Γ2 M2 fun es Γ3 M3 => aScL pick g1 tt1 ae vs1 (fun acc' Γ4 M4 => aScO pick ai1 g tt g1 tt1 ae vs vs1 k ds acc' (wipeS Γ4 vs) M4) es acc (wipeS Γ3 vs1) M3
      else aScO pick ai1 g tt g1 tt1 ae vs vs1 k ds acc (wipeS Γ2 vs) M2
structure WitS {α : Type} (k : List α → Sl → Mem → Prop) : Type where
def scO (pick : D → Option α) (ai1 : AI) (g : AG) (tt : AT) (g1 : AG) (tt1 : AT) (ae : AE) (vs vs1 : List Nat) (k : List α → Sl → Mem → Prop) (_ : WitS k) (ds : List D) (acc : List α) (Γ : Sl) (M : Mem) : Prop := aScO pick ai1 g tt g1 tt1 ae vs vs1 k ds acc Γ M
/-- sorted({.. for .. for ..}): fin says what comes of what was put in -/
def aSortSc (pick : D → Option α) (fin : List α → (List D → Prop) → Prop) (ai : AI) (g : AG) (tt : AT) (ai1 : AI) (g1 : AG) (tt1 : AT) (ae : AE) (vs vs1 : List Nat) (Γ : Sl) (M : Mem) (Q : Ret → Sl → Mem → Prop) : Prop :=
  ai Γ M fun ds Γ1 M1 => scO pick ai1 g tt g1 tt1 ae vs vs1 (fun acc Γ2 M2 => fin acc fun os => Q (.tmp (.lst os)) Γ2 M2) ⟨⟩ ds [] (wipeS Γ1 vs) M1
theorem rd_sortSc {pick : D → Option α} {fin : List α → (List D → Prop) → Prop} {o0 : Addr → HO} {r : AddR} {rS : List V → Hp → VK → Prop} {Pa : Addr → List α → Hp → HO → Prop} {wi wi1 : TI} {ai ai1 : AI} {g g1 : TG} {ag ag1 : AG} {is is1 vs vs1 : List Nat} {tt tt1 : TT} {at' at1 : AT}
    (mono : ∀ p acc G G' u, Ex G G' → Pa p acc G u → Pa p acc G' u) (p0 : ∀ p G, Pa p [] G (o0 p))
    (padd : ∀ p acc (H G : Hp) u y x (v : V) (Nx : Hp → Prop), H p = some u → Pa p acc G u → Ex G H → pick y = some x → Rep K G y v → acc.length < 60 → (∀ u', Pa p (acc ++ [x]) G u' → Nx (upd H p u')) → r (.ref p) [v] H fun _ H2 => Nx H2)
    (pfin : ∀ p acc (H G : Hp) u (R : VK) (Q : List D → Prop), H p = some u → Pa p acc G u → Ex G H → fin acc Q → (∀ ds vs, RepL K G ds vs → Q ds → ∀ p1, H p1 = none → R (.ref p1) (upd H p1 (.lst vs))) → rS [.ref p] H R)
    (hi : RdI K ρ wi ai) (hg : RdG K ρ g ag is) (hsub : ∀ j ∈ is, j ∈ vs) (ht : RdT K ρ tt at') (hi1 : RdI K ρ wi1 ai1) (hg1 : RdG K ρ g1 ag1 is1) (hsub1 : ∀ j ∈ is1, j ∈ vs1) (ht1 : RdT K ρ tt1 at1) (he : RdE K ρ te ae) :
    RdE K ρ (tCB rS (tCons (tSc2 o0 r wi g tt wi1 g1 tt1 te vs vs1) tNil)) (aSortSc pick fin ai ag at' ai1 ag1 at1 ae vs vs1) := by
  intro B σ H G Γ M Q R k h q
  refine hi B σ H G Γ M _ _ k h fun J H1 G1 Γ1 M1 ds k1 e1 w h1 p hp => ?_
  obtain ⟨GG, Y, wk, hGG, hY⟩ := w.w
  obtain ⟨k1t, e1t, hm1, hn1, hb1, hg1'⟩ := k1.tmp (o := o0 p) hp
  have start : GrowP K ρ B p σ H1 G1 Γ1 M1 [] (Pa p) [] σ (upd H1 p (o0 p)) G1 Γ1 M1 := ⟨k1t, e1t.g, e1t.tmp, e1t.nn, fun j s _ _ => by simp, ⟨_, upd_same, p0 p G1⟩, hg1', hm1, hn1, hb1, hp⟩
  refine turns_it wk (fun i H2 => ∃ G2 Γ2 M2 acc, GrowP K ρ B p σ H1 G1 Γ1 M1 vs (Pa p) acc σ H2 G2 Γ2 M2 ∧ aScO pick ai1 ag at' ag1 at1 ae vs vs1 (fun acc Γ2 M2 => fin acc fun os => Q (.tmp (.lst os)) Γ2 M2) (ds.drop i) acc Γ2 M2) ?_ ?_ ?_ ?_
  · exact ⟨G1, wipeS Γ1 vs, M1, [], start.leave rfl, h1⟩
  · rintro i H2 _ ⟨G2, Γ2, M2, acc, gr, _⟩
    exact hGG H2 (gr.g.trans gr.ok.ex)
  · rintro i x H2 H2' hin ⟨G2, Γ2, M2, acc, gr, h2⟩ y
    rw [List.drop_eq_getElem_cons hin] at h2
    obtain ⟨G3, k3, e3, rp⟩ := (hY i H2 x H2' _ (List.getElem?_eq_getElem hin) (gr.g.trans gr.ok.ex) y).ok gr.ok gr.g
    have gr3 := ((gr.es (mono p) k3 e3).to k3 (fun _ z => z) gr.wi).enter
    refine hg B (wipe σ vs) H2' G3 Γ2 M2 _ x _ _ gr3.ok rp h2 fun σ2 Γ3 k4 w4 o4 h4 => ⟨by rw [w4 vs hsub, wipe_wipe], ?_⟩
    have hw2 : wipe σ2 vs = wipe σ vs := by rw [w4 vs hsub, wipe_wipe]
    have gr4 : GrowP K ρ B p σ H1 G1 Γ1 M1 [] (Pa p) acc σ2 H2' G3 Γ3 M2 := gr3.to k4 o4 fun j s _ _ => by simp
    refine ht B σ2 H2' G3 Γ3 M2 _ _ k4 h4 fun b H5 G5 Γ5 M5 k5 e5 h5 => ?_
    have gr5 := gr4.es (mono p) k5 e5
    cases b with
    | false => exact ⟨G5, wipeS Γ5 vs, M5, acc, gr5.leave hw2, by simpa using h5⟩
    | true =>
      refine hi1 B σ2 H5 G5 Γ5 M5 _ _ k5 (by simpa using h5) fun J1 H6 G6 Γ6 M6 es k6 e6 w6 h6 => ?_
      obtain ⟨GG1, Y1, wk1, hGG1, hY1⟩ := w6.w
      have gr6 := gr5.es (mono p) k6 e6
      refine turns_it wk1 (fun j H7 => ∃ G7 Γ7 M7 acc, GrowP K ρ B p σ H1 G1 Γ1 M1 vs1 (Pa p) acc σ2 H7 G7 Γ7 M7 ∧ Ex G6 G7 ∧ aScL pick ag1 at1 ae vs1 (fun acc' Γ4 M4 => aScO pick ai1 ag at' ag1 at1 ae vs vs1 (fun acc Γ2 M2 => fin acc fun os => Q (.tmp (.lst os)) Γ2 M2) (ds.drop (i + 1)) acc' (wipeS Γ4 vs) M4) (es.drop j) acc Γ7 M7) ?_ ?_ ?_ ?_
      · exact ⟨G6, wipeS Γ6 vs1, M6, acc, gr6.leave rfl, Ex.refl _, h6⟩
      · rintro j H7 _ ⟨G7, Γ7, M7, acc, gr7, x7, _⟩
        exact hGG1 H7 (x7.trans gr7.ok.ex)
      · rintro j x7 H7 H7' hin7 ⟨G7, Γ7, M7, acc, gr7, x7, h7⟩ y7
        rw [List.drop_eq_getElem_cons hin7] at h7
        obtain ⟨G8, k8, e8, rp8⟩ := (hY1 j H7 _ H7' _ (List.getElem?_eq_getElem hin7) (x7.trans gr7.ok.ex) y7).ok gr7.ok x7
        have gr8 := ((gr7.es (mono p) k8 e8).to k8 (fun _ z => z) gr7.wi).enter
        refine hg1 B (wipe σ2 vs1) H7' G8 Γ7 M7 _ _ _ _ gr8.ok rp8 h7 fun σ3 Γ9 k9 w9 o9 h9 => ⟨by rw [w9 vs1 hsub1, wipe_wipe], ?_⟩
        have hw3 : wipe σ3 vs1 = wipe σ2 vs1 := by rw [w9 vs1 hsub1, wipe_wipe]
        have gr9 : GrowP K ρ B p σ H1 G1 Γ1 M1 [] (Pa p) acc σ3 H7' G8 Γ9 M7 := gr8.to k9 o9 fun j s _ _ => by simp
        refine ht1 B σ3 H7' G8 Γ9 M7 _ _ k9 h9 fun b HA GA ΓA MA kA eA hA => ?_
        have grA := gr9.es (mono p) kA eA
        cases b with
        | false => exact ⟨GA, wipeS ΓA vs1, MA, acc, grA.leave hw3, (x7.trans e8.g).trans eA.g, by simpa using hA⟩
        | true =>
          refine he B σ3 HA GA ΓA MA _ _ kA (by simpa using hA) fun v HB GB ΓB MB r' kB eB rr hB => ?_
          split at hB
          · rename_i yv
            split at hB
            · rename_i xv hpick
              obtain ⟨few, hB⟩ := hB
              have grB := grA.es (mono p) kB eB
              obtain ⟨u, hu, pu⟩ := grB.here
              refine padd p acc HB GB u yv xv v _ hu pu kB.ex hpick (show Rep K GB yv v from rr) few fun u' pu' => ?_
              exact ⟨GB, wipeS ΓB vs1, MB, acc ++ [xv], (grB.put pu').leave hw3, ((x7.trans e8.g).trans eA.g).trans eB.g, hB⟩
            · exact hB.elim
          · exact hB.elim
      · rintro H7 ⟨G7, Γ7, M7, acc, gr7, x7, h7⟩
        rw [List.drop_length] at h7
        exact ⟨G7, wipeS Γ7 vs, M7, acc, (gr7.to gr7.ok (fun _ z => z) (fun j s _ _ => by simp) : GrowP K ρ B p σ H1 G1 Γ1 M1 [] (Pa p) acc σ2 H7 G7 Γ7 M7).leave hw2, h7⟩
  · rintro H2 ⟨G2, Γ2, M2, acc, gr, h2⟩
    rw [List.drop_length] at h2
    obtain ⟨u, hu, pu⟩ := gr.here
    exact pfin p acc H2 G2 u R _ hu pu gr.ok.ex h2 fun ds' vs' rl hq p1 hp1 => (q.es (e1.trans ⟨gr.g, gr.tmp, gr.nn⟩)).newL gr.ok rl hq p1 hp1
end
/-! ### whole numbers -/
section
variable {X : Cx} {tg tg1 : Expr} {te : TE} {ae : AE} {pos : Pos} {K : PySem.W.Frag}
def pickI : D → Option Int
  | .int n => some n
  | _ => none
def finI (acc : List Int) (Q : List D → Prop) : Prop := ∀ ms : List Int, ms.Pairwise (· < ·) → (∀ k, k ∈ ms ↔ k ∈ acc) → Q (ms.map .int)
def setI (w : World) (p : Addr) (acc : List Int) (_ : Hp) (u : HO) : Prop := ∃ S n, u = SetO w p S n ∧ (∀ k, S k = true ↔ k ∈ acc) ∧ n ≤ acc.length ∧ acc.length ≤ 60
theorem q_sortScI {w : World} {p pos2 : Pos} (vs1 : List Nat) {elt iter iter1 : Expr} {ifs ifs1 : List Expr} {scope : Scope} {own : List (Str × Nat)} {wi wi1 : TI} {ai ai1 : AI} {g g1 : TG} {ag ag1 : AG} {is is1 : List Nat} {tt tt1 : TT} {at' at1 : AT} (hm : X.mg "sorted" = none) (hN : X.N.Nodup) (hi : QI X ρ tg iter wi ai) (ok : BlkOk X.N X.env.scope scope own)
    (hg : ∀ (s : Shared) (H : Hp) (C : Addr) (cl : List (Str × Addr)) (fp : List Addr), QG (X.blk s H scope (compEnvC scope cl C X.env) fp) ρ tg g ag is) (ht : ∀ (s : Shared) (H : Hp) (C : Addr) (cl : List (Str × Addr)) (fp : List Addr), QTs (X.blk s H scope (compEnvC scope cl C X.env) fp) ρ ifs tt at')
    (hi1 : ∀ (s : Shared) (H : Hp) (C : Addr) (cl : List (Str × Addr)) (fp : List Addr), QI (X.blk s H scope (compEnvC scope cl C X.env) fp) ρ tg1 iter1 wi1 ai1) (hg1 : ∀ (s : Shared) (H : Hp) (C : Addr) (cl : List (Str × Addr)) (fp : List Addr), QG (X.blk s H scope (compEnvC scope cl C X.env) fp) ρ tg1 g1 ag1 is1) (ht1 : ∀ (s : Shared) (H : Hp) (C : Addr) (cl : List (Str × Addr)) (fp : List Addr), QTs (X.blk s H scope (compEnvC scope cl C X.env) fp) ρ ifs1 tt1 at1)
    (he : ∀ (s : Shared) (H : Hp) (C : Addr) (cl : List (Str × Addr)) (fp : List Addr), QE (X.blk s H scope (compEnvC scope cl C X.env) fp) ρ elt te ae) (s0 : Shared) (hsub : ∀ j ∈ is, j ∈ own.map (·.2) := by decide) (hsub1 : ∀ j ∈ is1, j ∈ vs1 := by decide) (hv : ∀ i ∈ vs1, i ∈ own.map (·.2) := by decide) (hc : X.calm = true := by rfl) (hgl : Gl X "sorted" := by rfl)
    (hs : ∀ x, foldedSetIterable iter X.env x = pure x := by intro _; rfl) (hs1 : ∀ env x, foldedSetIterable iter1 env x = pure x := by intro _ _; rfl)
    (na : starEach [.SetComp elt [⟨tg, iter, ifs, 0⟩, ⟨tg1, iter1, ifs1, 0⟩] scope pos2] X.env = (false, eval (.SetComp elt [⟨tg, iter, ifs, 0⟩, ⟨tg1, iter1, ifs1, 0⟩] scope pos2) X.env) :: starEach [] X.env := by rfl) (hW : X.w = w := by rfl) :
    QE X ρ (.Call (.Name "sorted" p) [.SetComp elt [⟨tg, iter, ifs, 0⟩, ⟨tg1, iter1, ifs1, 0⟩] scope pos2] [] pos) (tCB (rSortedSet w) (tCons (tSc2 (fun a => SetO w a (fun _ => false) 0) (rSAdd w) wi g tt wi1 g1 tt1 te (own.map (·.2)) vs1) tNil)) (aSortSc pickI finI ai ag at' ai1 ag1 at1 ae (own.map (·.2)) vs1) := by
  subst hW
  refine ⟨pe_callB (cr_sortedSet hc) hgl hm (by decide +kernel) (pa_cons (pe_sc2 (fun H h a ho => setO_new (setR_new_at (ns := []) ho)) (fun s H C cl fp => mt_sadd) hc hN hi.pe ok hv (fun s H C cl fp => (hg s H C cl fp).pe) (fun s H C cl fp => (ht s H C cl fp).pe) (fun s H C cl fp => (hi1 s H C cl fp).pe) (fun s H C cl fp => (hg1 s H C cl fp).pe) (fun s H C cl fp => (ht1 s H C cl fp).pe) (fun s H C cl fp => (he s H C cl fp).pe) hs hs1) pa_nil na) (by decide) (by decide) na, ?_⟩
  refine rd_sortSc (Pa := setI X.w) (fun _ _ _ _ _ _ h => h) (fun p G => ⟨_, 0, rfl, by simp, by simp, by simp⟩) ?_ ?_ hi.rd (hg s0 X.H_0 0 [] []).rd hsub (ht s0 X.H_0 0 [] []).rd (hi1 s0 X.H_0 0 [] []).rd (hg1 s0 X.H_0 0 [] []).rd hsub1 (ht1 s0 X.H_0 0 [] []).rd (he s0 X.H_0 0 [] []).rd
  · rintro p acc H G u y x v Nx hu ⟨S, n, rfl, hS, hn, h60⟩ _ hp rv few h
    cases y with
    | int k =>
      obtain rfl : k = x := by simpa [pickI] using hp
      have e1 : v = .int k := by have := rv; simp only [Rep] at this; exact this
      refine ⟨p, k, S, n, rfl, by rw [e1], hu, by have : scanBound = 4096 := rfl; omega, h _ ⟨_, _, rfl, fun j => ?_, ?_, by simp; omega⟩⟩
      · rw [Bool.or_eq_true, hS j, decide_eq_true_iff, List.mem_append, List.mem_singleton]
      · split <;> simp <;> omega
    | _ => simp [pickI] at hp
  · rintro p acc H G u R Q hu ⟨S, n, rfl, hS, hn, h60⟩ _ hf h
    exact ⟨p, S, n, rfl, hu, by omega, fun ms p1 hs hm _ hp1 => h _ _ (repL_map_int.mpr rfl) (hf ms hs fun k => (hm k).trans (hS k)) p1 hp1⟩
end
def e_aSortSc := @aSortSc.eq_def
end Gw

/-! set(tuple of rows), len(set(whole numbers)) -/
namespace Gw
open PySem PySem.Spec L2 PyProof.Rows
variable {ρ : Ent}
section
variable {P : Program} {w : World} {A : Around} {E : Value → Shared → Prop} {s : Shared}
/-- filling a new set from a tuple: what is left is the loop -/
theorem init_tuple {S l : Addr} {items : Array Value} {Q : Fin → Shared → Prop} (hl : s.heap.IsTuple l items) (hS : s.heap.get? S = some (freshSet w))
    (h : codeAny (model P w) A (.builtin "set.update.loop" ⟨[.ref S, .ref s.heap.objs.size], []⟩) (fun r s' => match r with | .ok (.ret v) => Q (.done (.ret .none)) s' | .ok _ => False | .error e => E e s') { s with heap := s.heap.push { cls := .type "tuple_iterator", data := .fields #[.ref l, .int 0 0] } }) :
    wpAny (model P w) A (Builtin.«set.__init__» ⟨[.ref S, .ref l], []⟩) Q E s := by
  obtain ⟨⟨cl, dl, tl, xl⟩, hol, rfl, nl, rfl⟩ := id hl
  have hsls := F.sub_tuple_set
  have hslf := F.sub_tuple_frozenset
  have hne : (Value.type "tuple" == Value.type "dict") = false := by decide
  have hT : s.TypeIs (.ref l) "tuple" := ⟨_, hol, rfl⟩
  unfold Builtin.«set.__init__» noKeywords Builtin.Frozenset.updateFrom
  generalize hPI : pyIter = PI
  wp_walk
  subst hPI
  refine wpAny_pyIter_tuple hl ?_
  refine wpAny_bind (wpAny_runValue (codeAny_mono h fun r s' hr => ?_))
  cases r with
  | error e => exact hr
  | ok f =>
    cases f with
    | ret v => exact wpAny_pure (wpAny_pure hr)
    | _ => exact hr
/-- set(v): a new set, then its filling -/
theorem set_call {v : Value} {Q : Value → Shared → Prop} (h : wpAny (model P w) A.in1.in1 (Builtin.«set.__init__» ⟨[.ref s.heap.objs.size, v], []⟩)
      (fun fin s' => match fin with | .done f => wants (fun r s₂ => r = .none ∧ Q (.ref s.heap.objs.size) s₂) E (.ok f) s' | .again c' => c'.quiet = true ∧ codeAny (model P w) A.in1 c' (wants (fun r s₂ => r = .none ∧ Q (.ref s.heap.objs.size) s₂) E) s')
      (fun e s' => wants (fun r s₂ => r = .none ∧ Q (.ref s.heap.objs.size) s₂) E (.error e) s') { s with heap := s.heap.push (freshSet w) }) :
    wpAny (model P w) A (call (.type "set") [v]) Q E s := by
  have made := F.called_set.made
  have sub := F.called_set.sub
  have look := F.called_set.init.lookup
  have bind := F.called_set.init.bind (.ref s.heap.objs.size)
  have nt := F.called_set.notType
  have cc := F.called_set.canCreate
  have tc := F.typeCall_set_1 v
  have isSet : Shared.TypeIs { s with heap := s.heap.push (freshSet w) } (.ref s.heap.objs.size) "set" := ⟨_, Heap.get?_push_size _ rfl, rfl⟩
  have fill := codeAny_call_builtin F.called_set.init.plain F.entry_set_init (check_set_init_1 isSet h)
  obtain ⟨c, tl, mro⟩ := F.called_set.mro
  refine wpAny_call (codeAny_of_tree (show wpAny _ _ (callAny (.type "set") _) _ _ _ from wpAny_pure ⟨Code.quiet_builtin _ (by decide +kernel), codeAny_builtin F.entry_type_call ?_⟩))
  rw [Around.under_plain (weight_type_call_type "set" [v] []) rfl]
  repeat (any_goals (first | assumption | wp_step))
  refine codeAny_mono (code_set_led1 v (E := E) (Q₁ := fun u s₁ => u = .ref s.heap.objs.size ∧ s₁ = { s with heap := s.heap.push (freshSet w) }) ⟨rfl, rfl⟩) fun r s₁ hr => ?_
  rcases r with e | f
  · exact hr
  rcases f with _ | _ | _ | u
  all_goals first | exact hr.elim | skip
  obtain ⟨rfl, rfl⟩ := hr
  repeat (any_goals (first | assumption | wp_step))
  refine codeAny_mono fill fun r s₂ hr => ?_
  rcases r with e | f
  · exact hr
  rcases f with _ | _ | _ | u
  all_goals first | exact hr.elim | skip
  obtain ⟨rfl, q⟩ := hr
  repeat (any_goals (first | assumption | wp_step))
theorem call_set_tupT {l : Addr} {items : Array Value} (ks : List (Addr × List Int)) {Q : Value → Shared → Prop} (hh : A.handled = none) (hl : s.heap.IsTuple l items) (hit : items.toList = ks.map fun p => Value.ref p.1)
    (hk : ∀ p ∈ ks, IsT P w s.heap p.2 p.1) (hfew : ks.length < 64) (hu : A.units + 3 < cLine)
    (h : ∀ (h' : Heap) (tk : Nat) L es ep t, SetTR P w h' s.heap.objs.size L es ep t → Got ks ks.length L → (∀ b o, s.heap.get? b = some o → h'.get? b = some o) → Q (.ref s.heap.objs.size) { s with heap := h', toks := tk }) :
    wpAny (model P w) A (call (.type "set") [.ref l]) Q E s := by
  have new : (s.heap.push (freshSet w)).get? s.heap.objs.size = some (freshSet w) := Heap.get?_push_size _ rfl
  have few : ∀ b o, s.heap.get? b = some o → b < s.heap.objs.size := fun b o e => Heap.lt_size e
  have out : ∀ b, s.heap.objs.size ≤ b → s.heap.get? b = none := fun b hb => by
    cases q : s.heap.get? b with
    | none => rfl
    | some o => exact absurd (Nat.lt_of_lt_of_le (few b o q) hb) (Nat.lt_irrefl _)
  have lt : l < s.heap.objs.size := let ⟨o, ho, _⟩ := hl; few l o ho
  have sz : (s.heap.push (freshSet w)).objs.size = s.heap.objs.size + 1 := Heap.size_push ..
  have hl1 : (s.heap.push (freshSet w)).IsTuple l items := hl.push _
  have len : items.size = ks.length := by rw [← Array.length_toList, hit, List.length_map]
  refine set_call (init_tuple (s := { s with heap := s.heap.push (freshSet w) }) hl1 new ?_)
  refine set_update_tups ((Walks.tuple (by simp [hh]) _ l (by show l ≠ (s.heap.push (freshSet w)).objs.size; rw [sz]; exact Nat.ne_of_lt (Nat.lt_succ_of_lt lt)) items).toS) s.heap.objs.size (by show _ ∉ [(s.heap.push (freshSet w)).objs.size, l]; rw [sz]; simp only [List.mem_cons, List.not_mem_nil, or_false, not_or]; exact ⟨Nat.ne_of_lt (Nat.lt_succ_self _), Nat.ne_of_gt lt⟩) ks len hfew (fun i v hv => ?_) s.heap hk (out _ (Nat.le_refl _)) (fun b hb => out b (by rw [List.mem_singleton.mp hb, sz]; omega)) (show A.in1.in1.in1.units < cLine by simp; omega)
    (items.size - 0) 0 _ (by omega) (Nat.zero_le _) ⟨⟨_, Heap.get?_push_size _ rfl, rfl, rfl⟩, hl1.push _⟩ (fun b o e => Heap.get?_push_of_some _ (Heap.get?_push_of_some _ e)) ⟨[], #[], 0, _, setTR_fresh (Heap.get?_push_of_some _ new), Got.zero ks⟩ fun s' L es ep t hm R g keep => ?_
  · have q : items.toList[i]? = some v := by rw [Array.getElem?_toList]; exact hv
    rw [hit, List.getElem?_map] at q
    cases e : ks[i]? with
    | none => rw [e] at q; cases q
    | some p => rw [e] at q; exact ⟨p, rfl, (Option.some.inj q).symm⟩
  · obtain ⟨h', g2, d', tk', os'⟩ := s'
    cases (show g2 = s.gens from hm.gens)
    cases (show d' = s.drawn from hm.drawn)
    cases (show os' = s.os from hm.os)
    rw [len] at g
    exact ⟨rfl, h h' tk' L es ep t R g keep⟩
end
section
variable {X : Cx} {a : Expr} {ta : TE} {aa : AE} {pos : Pos} {K : PySem.W.Frag}
def rSetOfTT (K : PySem.W.Frag) (P : Program) (w : World) : List V → Hp → VK → Prop := fun xs H Q => ∃ (l : Addr) (ks : List (Addr × List Int)), xs = [V.ref l] ∧ SqT K H l (ks.map fun p => V.ref p.1) ∧ (∀ p ∈ ks, SqT K H p.1 (p.2.map V.int)) ∧ ks.length < 64 ∧
  ∀ a L, H a = none → (∀ p ∈ L, p ∈ ks) → (∀ p ∈ ks, p.2 ∈ L.map (·.2)) → Q (.ref a) (upd H a (SetTO P w a L))
theorem cr_setOfTT (hc : X.calm = true) (hu : X.A.units + 64 < cLine) : CallR X (.type "set") (rSetOfTT X.K X.prog X.w) := by
  rintro pins s σ H xs us Q I r ⟨l, ks, rfl, hl, hk, few, q⟩
  rw [Vals.ref1 r]
  obtain ⟨its, rv, ht, _⟩ := I.tuple hl
  refine call_set_tupT (P := X.prog) (w := X.w) ks (items := its.toArray) (I.ok.hd hc) ht (by simpa using refs_of_vals rv) (fun p hp => I.isT (hk p hp)) few (by omega) fun h' tk L es ep t R g k => ?_
  exact ⟨.ref _, _, I.laid (t' := tk) k (Nat.le_refl _) (setTO_new R.t0), rfl, q _ L (I.hok.fresh (Nat.le_refl _)) (fun p hp => List.mem_of_mem_take (g.sub p hp)) fun p hp => g.all p (by rw [List.take_length]; exact hp)⟩
/-- sorted(set(tuple of rows)) -/
def aSortRowsT (r : Ret) (Γ : Sl) (M : Mem) (Q : Ret → Sl → Mem → Prop) : Prop := match r with
  | .dat (.tup ds) => match rowsD ds with
    | some rs => (rs.length < 64 ∧ ∃ n, ∀ r ∈ rs, r.length = n ∧ TS.Bd 64 r) ∧ ∀ os : List (List Int), os.Pairwise (fun r q => HT.lexLt r q = true) → (∀ r, r ∈ os ↔ r ∈ rs) → Q (.tmp (.lst (os.map rowD))) Γ M
    | none => False
  | _ => False
theorem q_sortRowsT {P : Program} {w : World} {p p2 pos2 : Pos} (hm : X.mg "sorted" = none) (hm2 : X.mg "set" = none) (hu : X.A.units + 64 < cLine) (ha : QE X ρ a ta aa) (hc : X.calm = true := by rfl) (hg : Gl X "sorted" := by rfl) (hg2 : Gl X "set" := by rfl)
    (na : starEach [a] X.env = (false, eval a X.env) :: starEach [] X.env := by rfl) (na2 : starEach [.Call (.Name "set" p2) [a] [] pos2] X.env = (false, eval (.Call (.Name "set" p2) [a] [] pos2) X.env) :: starEach [] X.env := by rfl) (hK : X.K = K := by rfl) (hP : X.prog = P := by rfl) (hW : X.w = w := by rfl) :
    QE X ρ (.Call (.Name "sorted" p) [.Call (.Name "set" p2) [a] [] pos2] [] pos) (tCB (rSortRows K P w) (tCons (tCB (rSetOfTT K P w) (tCons ta tNil)) tNil)) (aCall1 aSortRowsT aa) := by
  subst hK; subst hW; subst hP
  refine ⟨pe_callB (cr_sortRows hc) hg hm (by decide +kernel) (pa_cons (pe_callTy (cr_setOfTT hc hu) hg2 hm2 (by decide +kernel) (pa_cons ha.pe pa_nil na) (by decide) (by decide) na) pa_nil na2) (by decide) (by decide) na2, ?_⟩
  intro B σ H G Γ M Q R k h q
  refine ha.rd B σ H G Γ M _ _ k h fun v H1 G1 Γ1 M1 r k1 e1 rr h1 => ?_
  unfold aSortRowsT at h1
  split at h1
  · rename_i ds
    split at h1
    · rename_i rs hr
      obtain ⟨⟨few, n, hn⟩, h1⟩ := h1
      obtain ⟨l, xs, ev, hl, rl⟩ := rep_tup.mp (show Rep X.K G1 (.tup ds) v from rr)
      rw [rowsD_ok hr] at rl
      obtain ⟨ks, rfl, rfl, hk⟩ := rep_rows rl
      rw [List.length_map] at few
      have hn' : ∀ p ∈ ks, p.2.length = n ∧ TS.Bd 64 p.2 := fun p hp => hn p.2 (List.mem_map.mpr ⟨p, hp, rfl⟩)
      refine ⟨l, ks, by rw [ev], ex_t k1.ex hl, fun p hp => ex_t k1.ex (hk p hp), few, fun p0 L hp0 sub all => ?_⟩
      obtain ⟨k2, e2, _⟩ := k1.tmp (o := SetTO X.prog X.w p0 L) hp0
      have hkL : ∀ p ∈ L, SqT X.K G1 p.1 (p.2.map V.int) := fun p hp => hk p (sub p hp)
      have mem : ∀ r, r ∈ L.map (·.2) ↔ r ∈ ks.map (·.2) := fun r => by
        constructor
        · intro hr
          obtain ⟨p, hp, rfl⟩ := List.mem_map.mp hr
          exact List.mem_map.mpr ⟨p, sub p hp, rfl⟩
        · intro hr
          obtain ⟨p, hp, rfl⟩ := List.mem_map.mp hr
          exact all p hp
      have fin : ∀ (L' : List (Addr × List Int)) (p1 : Addr), upd H1 p0 (SetTO X.prog X.w p0 L) p1 = none → (∀ p ∈ L', p ∈ L) → (L'.map (·.2)).Pairwise (fun r q => HT.lexLt r q = true) → (∀ r, r ∈ L'.map (·.2) ↔ r ∈ L.map (·.2)) → R (.ref p1) (upd (upd H1 p0 (SetTO X.prog X.w p0 L)) p1 (.lst (L'.map fun q => V.ref q.1))) := fun L' p1 hp1 s' pw m' =>
        (q.es (e1.trans e2)).newL k2 (rows_rep fun p hp => hkL p (s' p hp)) (h1 _ pw fun r => (m' r).trans (mem r)) p1 hp1
      by_cases hz : n = 0
      · refine .inr ⟨p0, L, rfl, upd_same, fun p hp => ex_t k2.ex (hkL p hp), fun p hp => List.length_eq_zero_iff.mp ((hn' p (sub p hp)).1.trans hz), fun p1 hp1 l1 => fin L p1 hp1 (fun _ h => h) ?_ fun _ => Iff.rfl⟩
        match L, l1 with
        | [], _ => exact .nil
        | [x], _ => exact List.pairwise_singleton _ _
      · refine .inl ⟨p0, L, n, 64, rfl, upd_same, fun p hp => ex_t k2.ex (hkL p hp), by omega, fun p hp => hn' p (sub p hp), fun L' p1 pm nd _ pw hp1 => fin L' p1 hp1 (fun p hp => pm.mem_iff.mp hp) ?_ fun r => (pm.map (·.2)).mem_iff⟩
        rw [List.pairwise_map]
        have nd' := List.pairwise_map.mp nd
        refine (pw.and nd').imp_of_mem fun {x y} hx hy ⟨le, ne⟩ => ?_
        have bx := hn' x (sub x (pm.mem_iff.mp hx))
        have bY := hn' y (sub y (pm.mem_iff.mp hy))
        have hl : x.2.length = y.2.length := bx.1.trans bY.1.symm
        refine (lex_code hl bx.2 bY.2).mpr ?_
        have : TS.code 64 x.2 ≠ TS.code 64 y.2 := fun e => ne (code_inj hl bx.2 bY.2 e)
        omega
    · exact h1.elim
  · exact h1.elim
end
def e_aSortRowsT := @aSortRowsT.eq_def
end Gw

/-! len(set(whole numbers)) -/
namespace Gw
open PySem L2 PyProof.Rows
variable {ρ : Ent}
theorem met_nodup (val : Nat → Int) : ∀ i, (firstMet val i).Nodup
  | 0 => .nil
  | i + 1 => by
    have ih := met_nodup val i
    rw [firstMet_succ, step_dedup]
    split
    · exact ih
    · rename_i h
      refine List.nodup_append.mpr ⟨ih, by simp, fun x hx y hy e => h ?_⟩
      rw [List.mem_singleton.mp hy] at e
      subst e
      exact List.any_eq_true.mpr ⟨_, hx, by simp⟩
theorem met_mem (ns : List Int) (k : Int) : k ∈ firstMet (fun i => ns.getD i 0) ns.length ↔ k ∈ ns := by
  have e := firstMet_any (fun i => ns.getD i 0) ns.length k
  have m : (List.range ns.length).map (fun i => ns.getD i 0) = ns := by
    refine List.ext_getElem (by simp) fun i h1 h2 => ?_
    simp [List.getElem?_eq_getElem h2]
  rw [m] at e
  have : ∀ l : List Int, (l.any (· == k) = true) ↔ k ∈ l := fun l => by simp
  rw [← this, e, this]
/-- the set of the numbers os -/
def SetJ (P : Program) (w : World) (a : Addr) (os : List Int) : HO := .ext fun h => ∃ S : Int → Bool, h.SetOf (intKind P w) a S os.length
section
variable {X : Cx} {a : Expr} {ta : TE} {aa : AE} {pos : Pos} {K : PySem.W.Frag}
def rSetOfJ (K : PySem.W.Frag) (P : Program) (w : World) : List V → Hp → VK → Prop := fun xs H Q => ∃ (l : Addr) (ns : List Int), xs = [V.ref l] ∧ SqL K H l (ns.map V.int) ∧ ns.length ≤ 60 ∧
  ∀ a os, H a = none → os.Nodup → (∀ k, k ∈ os ↔ k ∈ ns) → Q (.ref a) (upd H a (SetJ P w a os))
theorem cr_setOfJ (hc : X.calm = true) : CallR X (.type "set") (rSetOfJ X.K X.prog X.w) := by
  rintro pins s σ H xs us Q I r ⟨l, ns, rfl, hl, few, q⟩
  rw [Vals.ref1 r]
  obtain ⟨its, rv, pl, hz⟩ := I.list hl
  have hi : IntsAre its ns := intsAre_of rv
  have len : its.length = ns.length := IntsAre.length hi
  refine PySem.call_set_list (items := its.toArray) (ns := ns) (I.ok.hd hc) pl.isList (by simpa using hi) (by have : scanBound = 4096 := rfl; simp [len]; omega) fun h' tk R kk => ?_
  have keep : ∀ b o, s.heap.get? b = some o → h'.get? b = some o := fun b o e => kk b o (Heap.lt_size e) e
  have ns' : its.toArray.size = ns.length := by simp [len]
  rw [ns'] at R
  have ⟨o, _, _, _, ho, _⟩ := R
  have ok : ObjOk X.prog X.w (upd H s.heap.objs.size (SetJ X.prog X.w s.heap.objs.size (firstMet (fun i => ns.getD i 0) ns.length))) h' s.heap.objs.size (SetJ X.prog X.w s.heap.objs.size (firstMet (fun i => ns.getD i 0) ns.length)) := ⟨⟨_, R⟩, ⟨o, ho⟩, fun h1 h2 ⟨S, p⟩ k => by
    obtain ⟨o', es, ep, t, ho', r'⟩ := p
    exact ⟨S, o', es, ep, t, k o' ho', r'⟩⟩
  exact ⟨.ref _, _, I.laid (t' := tk) keep (Nat.le_refl _) ok, rfl, q _ _ (I.hok.fresh (Nat.le_refl _)) (met_nodup _ _) (met_mem ns)⟩
def rLenJ (P : Program) (w : World) : List V → Hp → VK → Prop := fun vs H Q => ∃ (a : Addr) (os : List Int), vs = [V.ref a] ∧ H a = some (SetJ P w a os) ∧ os.length ≤ 60 ∧ Q (.int os.length) H
theorem cr_lenJ : CallR X (.builtin "len") (rLenJ X.prog X.w) := by
  rintro pins s σ H vs us Q I r ⟨a, os, rfl, ha, few, q⟩
  obtain ⟨S, o, es, ep, t, ho, hex, hd, _, _, _, hf, hn⟩ : ∃ S : Int → Bool, s.heap.SetOf (intKind X.prog X.w) a S os.length := (I.hok a _ ha).1
  rw [Vals.ref1 r]
  exact call_len_set ho hex hd hf (by rw [hn]; omega) ⟨.int os.length, H, I.tok _, ⟨_, by rw [hn]⟩, q⟩
/-- how many unlike numbers there are -/
def aLenSetI (r : Ret) (Γ : Sl) (M : Mem) (Q : Ret → Sl → Mem → Prop) : Prop := match sqOf r Γ M with
  | some (.lst ds) => match intsD ds with
    | some ns => ns.length ≤ 60 ∧ ∀ os : List Int, os.Nodup → (∀ k, k ∈ os ↔ k ∈ ns) → Q (.dat (.int os.length)) Γ M
    | none => False
  | _ => False
theorem nodup_le : ∀ {os ns : List Int}, os.Nodup → (∀ k, k ∈ os → k ∈ ns) → os.length ≤ ns.length
  | [], _, _, _ => Nat.zero_le _
  | x :: os, ns, nd, h => by
    have hx := h x List.mem_cons_self
    have nd' := List.nodup_cons.mp nd
    have := nodup_le (ns := ns.erase x) nd'.2 fun k hk => (List.mem_erase_of_ne fun e => nd'.1 (by rw [← e]; exact hk)).mpr (h k (List.mem_cons_of_mem _ hk))
    rw [List.length_erase_of_mem hx] at this
    have := List.length_pos_of_mem hx
    simp only [List.length_cons]
    omega
theorem q_lenSetI {P : Program} {w : World} {p p2 pos2 : Pos} (hm : X.mg "len" = none) (hm2 : X.mg "set" = none) (ha : QE X ρ a ta aa) (hc : X.calm = true := by rfl) (hg : Gl X "len" := by rfl) (hg2 : Gl X "set" := by rfl)
    (na : starEach [a] X.env = (false, eval a X.env) :: starEach [] X.env := by rfl) (na2 : starEach [.Call (.Name "set" p2) [a] [] pos2] X.env = (false, eval (.Call (.Name "set" p2) [a] [] pos2) X.env) :: starEach [] X.env := by rfl) (hK : X.K = K := by rfl) (hP : X.prog = P := by rfl) (hW : X.w = w := by rfl) :
    QE X ρ (.Call (.Name "len" p) [.Call (.Name "set" p2) [a] [] pos2] [] pos) (tCB (rLenJ P w) (tCons (tCB (rSetOfJ K P w) (tCons ta tNil)) tNil)) (aCall1 aLenSetI aa) := by
  subst hK; subst hW; subst hP
  refine ⟨pe_callB cr_lenJ hg hm (by decide +kernel) (pa_cons (pe_callTy (cr_setOfJ hc) hg2 hm2 (by decide +kernel) (pa_cons ha.pe pa_nil na) (by decide) (by decide) na) pa_nil na2) (by decide) (by decide) na2, ?_⟩
  intro B σ H G Γ M Q R k h q
  refine ha.rd B σ H G Γ M _ _ k h fun v H1 G1 Γ1 M1 r k1 e1 rr h1 => ?_
  unfold aLenSetI at h1
  split at h1
  · rename_i ds hs
    split at h1
    · rename_i ns hr
      obtain ⟨few, h1⟩ := h1
      obtain ⟨l, xs, ev, hl, rl⟩ := sqOf_ok k1 rr hs
      rw [intsD_ok hr] at rl
      rw [repL_map_int.mp rl] at hl
      refine ⟨l, ns, by rw [ev], SqL.of hl, few, fun p0 os hp0 nd mem => ?_⟩
      obtain ⟨k2, e2, _⟩ := k1.tmp (o := SetJ X.prog X.w p0 os) hp0
      refine ⟨p0, os, rfl, upd_same, Nat.le_trans (nodup_le nd fun k hk => (mem k).mp hk) few, ?_⟩
      exact q _ _ _ _ _ (.dat (.int (os.length : Int))) k2 (e1.trans e2) (by simp only [RepR, Rep]) (h1 os nd mem)
    · exact h1.elim
  · exact h1.elim
end
def e_aLenSetI := @aLenSetI.eq_def
end Gw

/-! a, b = [..], [..]: both new lists of their own -/
namespace Gw
open PySem L2
variable {ρ : Ent}
section
variable {X : Cx} {a b : Expr} {ta tb : TE} {aa ab : AE} {x y : Str} {K : PySem.W.Frag} {B : Ent} {σ : L2.St} {Γ : Sl}
theorem owned_setO {i : Nat} {p q : Addr} {c : Cell} (h : owned (σ.set i (some (.ref p))) (Γ.set i (.own c)) q) : q = p ∨ owned σ Γ q := by
  obtain ⟨j, d, h1, h2⟩ := h
  rcases set_get h1 with ⟨e, _⟩ | ⟨ne, e⟩
  · subst e
    by_cases l : j < σ.length
    · rw [List.getElem?_set_self l] at h2
      cases h2; exact .inl rfl
    · rw [List.getElem?_eq_none (by rw [List.length_set]; omega)] at h2; cases h2
  · rw [List.getElem?_set_ne (fun z => ne z.symm)] at h2
    exact .inr ⟨j, d, e, h2⟩
def aParOO (aa ab : AE) (i j : Nat) (A : AEnds) (Γ : Sl) (M : Mem) : Prop := aa Γ M fun r Γ1 M1 => match r with
  | .tmp c => ab Γ1 M1 fun r2 Γ3 M3 => match r2 with
    | .tmp d => A.nx ((Γ3.set i (.own c)).set j (.own d)) M3
    | _ => False
  | _ => False
theorem qs_parOO {px py pt spos : Pos} {kt k2 pt2} (i j : Nat) (hN : X.N.Nodup) (ha : QE X ρ a ta aa) (hb : QE X ρ b tb ab) (na : starEach [a, b] X.env = (false, eval a X.env) :: starEach [b] X.env := by rfl) (nb : starEach [b] X.env = (false, eval b X.env) :: starEach [] X.env := by rfl) (hi : X.N[i]? = some x := by rfl) (hj : X.N[j]? = some y := by rfl) (hij : i ≠ j := by decide)
    (hx : X.env.scope.names.lookup x = some .local := by rfl) (hy : X.env.scope.names.lookup y = some .local := by rfl) (hw : swappedStores [.Tuple [.Name x px, .Name y py] kt pt] (.Tuple [a, b] k2 pt2) X.env = pure (some [x, y]) := by rfl)
    (hs : swapsWithSole [.Tuple [.Name x px, .Name y py] kt pt] (.Tuple [a, b] k2 pt2) spos.line X.env = pure false := by rfl) (hc : X.calm = true := by rfl) : QS X ρ (.Assign [.Tuple [.Name x px, .Name y py] kt pt] (.Tuple [a, b] k2 pt2) spos) (tPar i j (tCons ta (tCons tb tNil))) (aParOO aa ab i j) :=
  ⟨ps_par hc hN hi hj hij hx hy (pa_cons ha.pe (pa_cons hb.pe pa_nil nb) na) hw hs, fun B σ H G Γ M A E k h s => ha.rd B σ H G Γ M _ _ k h fun v H1 G1 Γ1 M1 r k1 e1 rr h1 => by
    split at h1
    · rename_i c
      refine hb.rd B σ H1 G1 Γ1 M1 _ _ k1 h1 fun u H3 G3 Γ3 M3 r3 k3 e3 rr3 h3 => ?_
      split at h3
      · rename_i d
        have had : ∃ p, v = .ref p ∧ ∃ o, H1 p = some o := by
          obtain ⟨p, ev, _, _, ⟨_, o, ho, _⟩, _⟩ := rr
          exact ⟨p, ev, o, ho⟩
        obtain ⟨p, rfl, _, b1, c1, m1, n1⟩ := rr.es e3
        obtain ⟨q, rfl, h0, b2, c2, m2, n2⟩ := rr3
        have ne : q ≠ p := fun e => by
          obtain ⟨p', e', o, ho⟩ := had
          cases e'
          subst e
          rw [ho] at h0; cases h0
        exact ⟨_, _, rfl, s.nx _ H3 G3 _ M3 ((k3.setO (i := i) b1 c1 m1 n1).setO b2 c2 m2 fun z => (owned_setO z).elim ne n2) h3⟩
      · exact h3.elim
    · exact h1.elim⟩
end
def e_aParOO := @aParOO.eq_def
end Gw

/-! both branches; calls of defs that may raise -/
namespace Gw
open PySem L2 PyProof.Rows
variable {ρ : Ent}
/-- all that a caller wants of a def that may raise -/
structure CalX (P : Program) (w : World) (K : PySem.W.Frag) (mg : Str → Option Value) (base : Heap) (x : Str) (ps : List Str) (k : Nat) (S : ASx) : Prop where
  ex : ∃ f fd, FnG P w K mg base (L2.CX P w) k f fd ps (spX K ps.length S) ∧ mg x = some (.ref f) ∧ PySem.W.keepIn K (.ref f) = true ∧ Binds K fd ps []
  ar : ArX ps.length S
section
variable {X : Cx} {K : PySem.W.Frag} {P : Program} {mg : Str → Option Value} {base : Heap} {w : World} {W : WX} {xw : XW} {x : Str} {ps : List Str} {k : Nat} {S : ASx} {a : Expr} {es : List Expr} {p pos : Pos} {ar : AA}
theorem q_callXC {tr : TA} (c : CalX P w K mg base x ps k S) (hr : Room k X.A) (gd : X.A.guards = some []) (tk : Takes X W) (cn : Conn K ρ W xw) (ha : QA X ρ (a :: es) tr ar) (hg : Gl X x := by rfl) (hdb : (x == ("__debug__" : Str)) = false := by decide)
    (he : starEach (a :: es) X.env = (false, eval a X.env) :: starEach es X.env := by rfl) (hpl : (backTo pos (starEach es X.env)).any (·.1) = false := by rfl) (hK : X.K = K := by rfl) (hP : X.prog = P := by rfl) (hM : X.mg = mg := by rfl) (hB : X.base = base := by rfl) (hW : X.w = w := by rfl) :
    QE X ρ (.Call (.Name x p) (a :: es) [] pos) (tCallS (spX K ps.length S) (WE W) tr) (aCallX xw S ar) := by
  subst hK; subst hP; subst hM; subst hB; subst hW
  obtain ⟨f, fd, F, hm, hk, hb⟩ := c.ex
  exact q_callX F hr gd hm hk hb c.ar tk cn ha hg hdb he hpl
end
def e_aCallX := @aCallX.eq_def
def e_aRaise := @aRaise.eq_def
def e_aTry := @aTry.eq_def
def e_aIsX := @aIsX.eq_def
def e_aXf := @aXf.eq_def
def e_wAH := @wAH.eq_def
end Gw

/-! sorted({.. for .. for ..}) of rows of any lengths -/
namespace Gw
open PySem PySem.Spec L2 PyProof.Rows
variable {ρ : Ent}
section
variable {X : Cx} {K : PySem.W.Frag}
/-- a row is put into a set of rows -/
def rAddT (K : PySem.W.Frag) (P : Program) (w : World) : AddR := fun x xs H Q => ∃ (a b : Addr) (k : List Int) (L : List (Addr × List Int)), x = V.ref a ∧ xs = [V.ref b] ∧ H a = some (SetTO P w a L) ∧ SqT K H b (k.map V.int) ∧ (∀ p ∈ L, SqT K H p.1 (p.2.map V.int)) ∧ L.length + 1 < 64 ∧
  ∀ L' : List (Addr × List Int), (k ∈ L.map (·.2) → L' = L) → (k ∉ L.map (·.2) → L'.Perm ((b, k) :: L)) → Q .non (upd H a (SetTO P w a L'))
theorem mt_addT (hu : X.A.units + 64 < cLine) : MtR X "set.add" (rAddT X.K X.prog X.w) := by
  rintro pins s σ H x xs v us Q I rx rxs ⟨a, b, k, L, rfl, rfl, ha, hb, hk, few, q⟩
  cases rx
  rw [Vals.ref1 rxs]
  have R0 : SetT0 X.prog X.w s.heap a L := (I.hok a _ ha).1
  obtain ⟨es, ep, t, R⟩ := R0.full fun p hp => I.isT (hk p hp)
  have hx := I.isT hb
  obtain ⟨o, ho, hex, hd⟩ := id R.ob
  refine wpAny_call_entry F.slot_set_add (⟨o, ho, hex.1⟩ : s.TypeIs (.ref a) "set") F.entry_set_add ?_ (F.args_set_add_2 _ _)
  unfold Builtin.«set.add» Builtin.Frozenset.oneOther
  simp only [List.isEmpty_nil, bind_assoc]
  unfold Builtin.Frozenset.addrOf setAdd
  refine wpAny_bind (wpAny_pure ?_)
  try dsimp only
  refine wpAny_bind (wpAny_pure ?_)
  try dsimp only
  refine wpAny_bind (wpAny_holding (wpAny_bind (wpAny_pyHash_tuple (by simp; omega) hx ?_)))
  refine add_at (s := { s with toks := s.toks + (k.length + 1) }) R hx (by simp; omega) few fun bb h' L' es' ep' t' sb R' c1 c2 => ?_
  show wpAny _ _ (PySem.ret Value.none) _ _ _
  refine wpAny_pure ⟨_, rfl, .non, _, I.write (e := a) (t' := s.toks + (k.length + 1)) (by rw [ha]; trivial) (.inl rfl) (fun c u hc hu => (sb.2 c hc).trans hu) ?_ (setTO_new R'.t0), rfl, q L' c1 c2⟩
  obtain ⟨o', ho', _⟩ := R'.ob
  exact ⟨o', ho'⟩
theorem perm_lift {α β : Type} {f : α → β} : ∀ {us : List β} {L : List α}, us.Perm (L.map f) → ∃ bs : List α, bs.Perm L ∧ us = bs.map f
  | [], L, h => by
    have : L.map f = [] := h.symm.eq_nil
    rw [List.map_eq_nil_iff] at this
    exact ⟨[], by rw [this], rfl⟩
  | u :: us, L, h => by
    obtain ⟨x, hx, rfl⟩ := List.mem_map.mp (h.mem_iff.mp List.mem_cons_self)
    obtain ⟨s, t, rfl⟩ := List.append_of_mem hx
    have pm : ((s ++ x :: t).map f).Perm (f x :: (s ++ t).map f) := List.perm_middle.map f
    obtain ⟨bs, p1, p2⟩ := perm_lift (h.trans pm).cons_inv
    exact ⟨x :: bs, (p1.cons x).trans List.perm_middle.symm, by rw [List.map_cons, p2]⟩
open PySem.W in
theorem alike_rowB (r q : List Int) : alike (toPy (rowD r)) (toPy (rowD q)) = true := by
  rw [rowD, rowD, toPy, toPy, toPyL_ints, toPyL_ints, alike, alike_ints]
open PySem.W in
theorem lt_rowB (r q : List Int) : dataLt (toPy (rowD r)) (toPy (rowD q)) = HT.lexLt r q := by rw [rowD, rowD, toPy, toPy, dataLt_tuple, lt_ints]
theorem le_rowB (r q : List Int) : leD (rowD r) (rowD q) = !HT.lexLt q r := by unfold leD; rw [lt_rowB]
/-- sorted of a set of rows of any lengths, none empty -/
def rSortTD (K : PySem.W.Frag) (P : Program) (w : World) : List V → Hp → VK → Prop := fun vs H Q => ∃ (a : Addr) (L : List (Addr × List Int)), vs = [V.ref a] ∧ H a = some (SetTO P w a L) ∧ (∀ p ∈ L, SqT K H p.1 (p.2.map V.int)) ∧ (∀ p ∈ L, p.2 ≠ []) ∧
  ∀ (L' : List (Addr × List Int)) (p : Addr), L'.Perm L → (L'.map (·.2)).Pairwise (fun r q => HT.lexLt r q = true) → H p = none → Q (.ref p) (upd H p (.lst (L'.map fun q => V.ref q.1)))
open PySem.W in
theorem cr_sortTD (hc : X.calm = true) (hu : X.A.units + 100 < cLine) : CallR X (.builtin "sorted") (rSortTD X.K X.prog X.w) := by
  rintro pins s σ H vs us Q I r ⟨a, L, rfl, ha, hk, ne, q⟩
  have R0 : SetT0 X.prog X.w s.heap a L := (I.hok a _ ha).1
  obtain ⟨es, ep, t, R⟩ := R0.full fun p hp => I.isT (hk p hp)
  rw [Vals.ref1 r]
  obtain ⟨o, ho, hex, hd⟩ := R.ob
  have rows : es.toList.map (·.2) = L.map fun q => Value.ref q.1 := by rw [R.rows]; unfold L2.rowsOf; rw [List.map_map]; rfl
  have few := R.few
  refine Calls.call_function_entry kind_sorted plain_sorted entry_sorted (args_sorted1 _) ?_
  unfold Builtin.«sorted»
  refine wpAny_bind (m := checkCount "sorted" 1 1 _) (wpAny_pure (wpAny_bind (collect_set (A := X.A.in1) (I.ok.hd hc) ⟨o, ho, hex.1, hd⟩ R.fits (by have := R.size; unfold scanBound; omega) R.tab.ris R.led fun s1 us k1 hz g1 o1 pm => ?_)))
  rw [rows] at pm
  -- the rows in the order in which they came
  obtain ⟨bs, pb, eb⟩ := perm_lift pm
  have lb : bs.length ≤ 64 := by rw [pb.length_eq]; omega
  have mL : ∀ y ∈ bs, y ∈ L := fun y hy => pb.mem_iff.mp hy
  have hob : (s1.heap.push (seqObj "list" us.toArray 0)).get? s1.heap.objs.size = some (seqObj "list" us.toArray 0) := Heap.get?_push_size _ rfl
  have kb : ∀ b u, s.heap.get? b = some u → (s1.heap.push (seqObj "list" us.toArray 0)).get? b = some u := fun b u e => Heap.get?_push_of_some _ (k1 b u e)
  have gen : ∀ (P : Value → Addr × List Int → Prop), (∀ y ∈ bs, P (.ref y.1) y) → EachIs P us bs := fun P hP => by rw [eb]; exact each_of hP
  have e1 : EachIs (fun v (y : Addr × List Int) => v = Value.ref y.1) us bs := gen _ fun _ _ => rfl
  have e2 : EachIs (fun v (y : Addr × List Int) => ∃ as, Reads (s1.heap.push (seqObj "list" us.toArray 0)) v (toPy (rowD y.2)) as ∧ s1.heap.objs.size ∉ as) us bs := gen _ fun y hy => by
    have pl : plain (rowD y.2) = true := by unfold rowD; rw [plain, plainL_ints]
    obtain ⟨as, rb⟩ := Dp.reads I _ _ _ ((rep_tup.mpr ⟨y.1, _, rfl, hk y (mL y hy), repL_map_int.mpr rfl⟩ : Rep X.K H (rowD y.2) (.ref y.1)).dp pl) (rfl : RelV (V.ref y.1) (.ref y.1))
    exact ⟨as, Reads.keeps kb rb, fun z => Nat.not_lt_of_le hz (reads_lt rb _ z)⟩
  have hal : AllAlike (bs.map fun y => toPy (rowD y.2)) := AllAlike.of fun (p q : Addr × List Int) => alike_rowB p.2 q.2
  have hso : Sortable (bs.map fun y => toPy (rowD y.2)) := .inl fun d hd => by
    obtain ⟨y, hy, rfl⟩ := List.mem_map.mp hd
    have nz := ne y (mL y hy)
    match y, nz with
    | (b, z :: r), _ => exact ⟨toPy (.int z), toPyL (r.map .int), rfl⟩
  refine wpAny_bind (wpAny_newList (wpAny_bind (wpAny_holding (PySem.W.list_sort_data (s := { s1 with heap := s1.heap.push (seqObj "list" us.toArray 0) }) (enc := fun y : Addr × List Int => toPy (rowD y.2)) hob e1 e2 hal hso (by rw [sizeLine_eq]; omega) (fun y hy => ?_) fun out lo eo => ?_))) (by rw [eb, List.length_map, sizeLine_eq]; omega))
  · have : (toPy (rowD y.2)).depth ≤ 1 := by rw [dep_py, rowD, dep, dep_ints]; exact Nat.le_refl 1
    show X.A.units + 1 + 1 + _ < cLine
    omega
  · have eout := each_eq eo
    have pm2 := List.mergeSort_perm bs (dataLe false fun y : Addr × List Int => toPy (rowD y.2))
    have pw := List.pairwise_mergeSort (le := dataLe false fun y : Addr × List Int => toPy (rowD y.2)) (fun a b c h1 h2 => by
      rw [PySem.W.dataLe_eq] at h1 h2 ⊢
      exact leD_trans (rowD a.2) (rowD b.2) (rowD c.2) h1 h2) (fun a b => by
      rw [PySem.W.dataLe_eq]
      exact leD_total (rowD a.2) (rowD b.2)) bs
    generalize hps : bs.mergeSort (dataLe false fun y : Addr × List Int => toPy (rowD y.2)) = ps at eout pm2 pw
    obtain ⟨c, hc'⟩ := sortedHeap_at (vs := us) (out := out.toArray) hob
    have kk : ∀ b u, s.heap.get? b = some u → (sortedHeap (s1.heap.push (seqObj "list" us.toArray 0)) s1.heap.objs.size us out.toArray).get? b = some u := fun b u e => by
      have lt := Heap.lt_size (k1 b u e)
      rw [sortedHeap_old (Nat.ne_of_lt lt) (by rw [size_push']; exact Nat.lt_succ_of_lt lt)]
      exact kb b u e
    have pL : ps.Perm L := pm2.trans pb
    have hn : H s1.heap.objs.size = none := I.hok.fresh hz
    have hl : (ps.map fun x => V.ref x.1).length ≤ sizeLine := by rw [List.length_map, pL.length_eq, sizeLine_eq]; omega
    have vl : Vals (ps.map fun x => V.ref x.1) out := by rw [eout]; exact vals_of_refs ps
    have nd : (ps.map (·.2)).Nodup := (pL.map (·.2)).nodup_iff.mpr R.nd
    have up : (ps.map (·.2)).Pairwise (fun r q => HT.lexLt r q = true) := by
      rw [List.pairwise_map]
      refine (pw.and (List.pairwise_map.mp nd)).imp fun {x y} ⟨le, ne⟩ => ?_
      rw [PySem.W.dataLe_eq] at le
      have le : leD (rowD x.2) (rowD y.2) = true := le
      rw [le_rowB, Bool.not_eq_true'] at le
      cases c : HT.lexLt x.2 y.2 with
      | true => rfl
      | false => exact absurd (lex_conn c le) ne
    have J : Inv X pins σ (upd H s1.heap.objs.size (.lst (ps.map fun q => V.ref q.1))) { s with heap := sortedHeap (s1.heap.push (seqObj "list" us.toArray 0)) s1.heap.objs.size us out.toArray, gens := s1.gens, drawn := s1.drawn, toks := s1.toks } :=
      I.call (ch := []) (Un.laid kk hz hn) (I.hok.laid kk hz ⟨hl, out, c, vl, hc'⟩) (by rw [g1]; exact I.bare) fun _ z => nomatch z
    refine wpAny_pure ⟨_, rfl, ?_⟩
    obtain ⟨hp, gg, dr, tk, os⟩ := s1
    cases (show os = s.os from o1)
    exact ⟨.ref _, _, J, rfl, q ps _ pL up hn⟩
end
/-! ### the reading -/
section
variable {X : Cx} {tg tg1 : Expr} {te : TE} {ae : AE} {pos : Pos} {K : PySem.W.Frag}
def pickT : D → Option (List Int)
  | .tup es => intsD es
  | _ => none
def finT (acc : List (List Int)) (Q : List D → Prop) : Prop := (∀ r ∈ acc, r ≠ []) ∧ ∀ os : List (List Int), os.Pairwise (fun r q => HT.lexLt r q = true) → (∀ r, r ∈ os ↔ r ∈ acc) → Q (os.map rowD)
def setT (K : PySem.W.Frag) (P : Program) (w : World) (p : Addr) (acc : List (List Int)) (G : Hp) (u : HO) : Prop := ∃ L : List (Addr × List Int), u = SetTO P w p L ∧ (∀ y ∈ L, SqT K G y.1 (y.2.map V.int)) ∧ (∀ r, r ∈ L.map (·.2) ↔ r ∈ acc) ∧ L.length ≤ acc.length ∧ acc.length ≤ 60
theorem q_sortScT {P : Program} {w : World} {p pos2 : Pos} (vs1 : List Nat) {elt iter iter1 : Expr} {ifs ifs1 : List Expr} {scope : Scope} {own : List (Str × Nat)} {wi wi1 : TI} {ai ai1 : AI} {g g1 : TG} {ag ag1 : AG} {is is1 : List Nat} {tt tt1 : TT} {at' at1 : AT} (hm : X.mg "sorted" = none) (hu : X.A.units + 100 < cLine) (hN : X.N.Nodup) (hi : QI X ρ tg iter wi ai) (ok : BlkOk X.N X.env.scope scope own)
    (hg : ∀ (s : Shared) (H : Hp) (C : Addr) (cl : List (Str × Addr)) (fp : List Addr), QG (X.blk s H scope (compEnvC scope cl C X.env) fp) ρ tg g ag is) (ht : ∀ (s : Shared) (H : Hp) (C : Addr) (cl : List (Str × Addr)) (fp : List Addr), QTs (X.blk s H scope (compEnvC scope cl C X.env) fp) ρ ifs tt at')
    (hi1 : ∀ (s : Shared) (H : Hp) (C : Addr) (cl : List (Str × Addr)) (fp : List Addr), QI (X.blk s H scope (compEnvC scope cl C X.env) fp) ρ tg1 iter1 wi1 ai1) (hg1 : ∀ (s : Shared) (H : Hp) (C : Addr) (cl : List (Str × Addr)) (fp : List Addr), QG (X.blk s H scope (compEnvC scope cl C X.env) fp) ρ tg1 g1 ag1 is1) (ht1 : ∀ (s : Shared) (H : Hp) (C : Addr) (cl : List (Str × Addr)) (fp : List Addr), QTs (X.blk s H scope (compEnvC scope cl C X.env) fp) ρ ifs1 tt1 at1)
    (he : ∀ (s : Shared) (H : Hp) (C : Addr) (cl : List (Str × Addr)) (fp : List Addr), QE (X.blk s H scope (compEnvC scope cl C X.env) fp) ρ elt te ae) (s0 : Shared) (hsub : ∀ j ∈ is, j ∈ own.map (·.2) := by decide) (hsub1 : ∀ j ∈ is1, j ∈ vs1 := by decide) (hv : ∀ i ∈ vs1, i ∈ own.map (·.2) := by decide) (hc : X.calm = true := by rfl) (hgl : Gl X "sorted" := by rfl)
    (hs : ∀ x, foldedSetIterable iter X.env x = pure x := by intro _; rfl) (hs1 : ∀ env x, foldedSetIterable iter1 env x = pure x := by intro _ _; rfl)
    (na : starEach [.SetComp elt [⟨tg, iter, ifs, 0⟩, ⟨tg1, iter1, ifs1, 0⟩] scope pos2] X.env = (false, eval (.SetComp elt [⟨tg, iter, ifs, 0⟩, ⟨tg1, iter1, ifs1, 0⟩] scope pos2) X.env) :: starEach [] X.env := by rfl) (hK : X.K = K := by rfl) (hP : X.prog = P := by rfl) (hW : X.w = w := by rfl) :
    QE X ρ (.Call (.Name "sorted" p) [.SetComp elt [⟨tg, iter, ifs, 0⟩, ⟨tg1, iter1, ifs1, 0⟩] scope pos2] [] pos) (tCB (rSortTD K P w) (tCons (tSc2 (fun a => SetTO P w a []) (rAddT K P w) wi g tt wi1 g1 tt1 te (own.map (·.2)) vs1) tNil)) (aSortSc pickT finT ai ag at' ai1 ag1 at1 ae (own.map (·.2)) vs1) := by
  subst hK; subst hP; subst hW
  refine ⟨pe_callB (cr_sortTD hc hu) hgl hm (by decide +kernel) (pa_cons (pe_sc2 (fun H h a ho => setTO_new (setTR_fresh ho).t0) (fun s H C cl fp => mt_addT (X := X.blk s H scope (compEnvC scope cl C X.env) fp) (by show X.A.units + 64 < cLine; omega)) hc hN hi.pe ok hv (fun s H C cl fp => (hg s H C cl fp).pe) (fun s H C cl fp => (ht s H C cl fp).pe) (fun s H C cl fp => (hi1 s H C cl fp).pe) (fun s H C cl fp => (hg1 s H C cl fp).pe) (fun s H C cl fp => (ht1 s H C cl fp).pe) (fun s H C cl fp => (he s H C cl fp).pe) hs hs1) pa_nil na) (by decide) (by decide) na, ?_⟩
  refine rd_sortSc (Pa := setT X.K X.prog X.w) (fun p acc G G' u e ⟨L, h1, h2, h3⟩ => ⟨L, h1, fun y hy => ex_t e (h2 y hy), h3⟩) (fun p G => ⟨[], rfl, fun y hy => (List.not_mem_nil hy).elim, fun r => by simp, Nat.zero_le _, by simp⟩) ?_ ?_ hi.rd (hg s0 X.H_0 0 [] []).rd hsub (ht s0 X.H_0 0 [] []).rd (hi1 s0 X.H_0 0 [] []).rd (hg1 s0 X.H_0 0 [] []).rd hsub1 (ht1 s0 X.H_0 0 [] []).rd (he s0 X.H_0 0 [] []).rd
  · rintro p acc H G u y x v Nx hu ⟨L, rfl, hL, hm, hn, h60⟩ ex hp rv few h
    cases y with
    | tup es =>
      have hp : intsD es = some x := hp
      obtain ⟨b, xs, rfl, hb, rl⟩ := rep_tup.mp rv
      rw [intsD_ok hp] at rl
      rw [repL_map_int.mp rl] at hb
      refine ⟨p, b, x, L, rfl, rfl, hu, ex_t ex hb, fun q hq => ex_t ex (hL q hq), by omega, fun L' c1 c2 => h _ ?_⟩
      rcases Classical.em (x ∈ L.map (·.2)) with c | c
      · rw [c1 c]
        refine ⟨L, rfl, hL, fun r => ?_, by rw [List.length_append, List.length_singleton]; omega, by rw [List.length_append, List.length_singleton]; omega⟩
        rw [hm r, List.mem_append, List.mem_singleton]
        exact ⟨.inl, fun z => z.elim id fun e => by rw [e]; exact (hm x).mp c⟩
      · have pm := c2 c
        refine ⟨L', rfl, fun q hq => ?_, fun r => ?_, by rw [pm.length_eq, List.length_cons, List.length_append, List.length_singleton]; omega, by rw [List.length_append, List.length_singleton]; omega⟩
        · rcases List.mem_cons.mp (pm.mem_iff.mp hq) with e | hq
          · rw [e]; exact hb
          · exact hL q hq
        · rw [(pm.map (·.2)).mem_iff, List.map_cons, List.mem_cons, hm r, List.mem_append, List.mem_singleton]
          exact Or.comm
    | _ => simp [pickT] at hp
  · rintro p acc H G u R Q hu ⟨L, rfl, hL, hm, hn, h60⟩ ex ⟨ne, hf⟩ h
    refine ⟨p, L, rfl, hu, fun q hq => ex_t ex (hL q hq), fun q hq => ne q.2 ((hm _).mp (List.mem_map.mpr ⟨q, hq, rfl⟩)), fun L' p1 pm up hp1 => ?_⟩
    refine h ((L'.map (·.2)).map rowD) _ (rows_rep fun q hq => hL q (pm.mem_iff.mp hq)) (hf _ up fun r => ?_) p1 hp1
    rw [(pm.map (·.2)).mem_iff, hm r]
/-- sorted(set(rows)), the rows of any lengths, none empty -/
def aSortRowsD (r : Ret) (Γ : Sl) (M : Mem) (Q : Ret → Sl → Mem → Prop) : Prop := match sqOf r Γ M with
  | some (.lst ds) => match rowsD ds with
    | some rs => (rs.length < 64 ∧ ∀ r ∈ rs, r ≠ []) ∧ ∀ os : List (List Int), os.Pairwise (fun r q => HT.lexLt r q = true) → (∀ r, r ∈ os ↔ r ∈ rs) → Q (.tmp (.lst (os.map rowD))) Γ M
    | none => False
  | _ => False
theorem q_sortRowsD {P : Program} {w : World} {a : Expr} {ta : TE} {aa : AE} {p p2 pos2 : Pos} (hm : X.mg "sorted" = none) (hm2 : X.mg "set" = none) (hu : X.A.units + 100 < cLine) (ha : QE X ρ a ta aa) (hc : X.calm = true := by rfl) (hg : Gl X "sorted" := by rfl) (hg2 : Gl X "set" := by rfl)
    (na : starEach [a] X.env = (false, eval a X.env) :: starEach [] X.env := by rfl) (na2 : starEach [.Call (.Name "set" p2) [a] [] pos2] X.env = (false, eval (.Call (.Name "set" p2) [a] [] pos2) X.env) :: starEach [] X.env := by rfl) (hK : X.K = K := by rfl) (hP : X.prog = P := by rfl) (hW : X.w = w := by rfl) :
    QE X ρ (.Call (.Name "sorted" p) [.Call (.Name "set" p2) [a] [] pos2] [] pos) (tCB (rSortTD K P w) (tCons (tCB (rSetOfT K P w) (tCons ta tNil)) tNil)) (aCall1 aSortRowsD aa) := by
  subst hK; subst hW; subst hP
  refine ⟨pe_callB (cr_sortTD hc hu) hg hm (by decide +kernel) (pa_cons (pe_callTy (cr_setOfT hc (by omega)) hg2 hm2 (by decide +kernel) (pa_cons ha.pe pa_nil na) (by decide) (by decide) na) pa_nil na2) (by decide) (by decide) na2, ?_⟩
  intro B σ H G Γ M Q R k h q
  refine ha.rd B σ H G Γ M _ _ k h fun v H1 G1 Γ1 M1 r k1 e1 rr h1 => ?_
  unfold aSortRowsD at h1
  split at h1
  · rename_i ds hs
    split at h1
    · rename_i rs hr
      obtain ⟨⟨few, ne⟩, h1⟩ := h1
      obtain ⟨l, xs, ev, hl, rl⟩ := sqOf_ok k1 rr hs
      rw [rowsD_ok hr] at rl
      obtain ⟨ks, rfl, rfl, hk⟩ := rep_rows rl
      rw [List.length_map] at few
      refine ⟨l, ks, by rw [ev], SqL.of hl, fun p hp => ex_t k1.ex (hk p hp), few, fun p0 L hp0 sub all => ?_⟩
      obtain ⟨k2, e2, _⟩ := k1.tmp (o := SetTO X.prog X.w p0 L) hp0
      have hkL : ∀ p ∈ L, SqT X.K G1 p.1 (p.2.map V.int) := fun p hp => hk p (sub p hp)
      refine ⟨p0, L, rfl, upd_same, fun p hp => ex_t k2.ex (hkL p hp), fun p hp => ne p.2 (List.mem_map.mpr ⟨p, sub p hp, rfl⟩), fun L' p1 pm up hp1 => ?_⟩
      refine (q.es (e1.trans e2)).newL k2 (rows_rep fun p hp => hkL p (pm.mem_iff.mp hp)) (h1 _ up fun r => ?_) p1 hp1
      rw [(pm.map (·.2)).mem_iff]
      constructor
      · intro hr
        obtain ⟨p, hp, rfl⟩ := List.mem_map.mp hr
        exact List.mem_map.mpr ⟨p, sub p hp, rfl⟩
      · intro hr
        obtain ⟨p, hp, rfl⟩ := List.mem_map.mp hr
        exact all p hp
    · exact h1.elim
  · exact h1.elim
end
def e_aSortRowsD := @aSortRowsD.eq_def
end Gw

/-! enumerate(tuple) -/
namespace Gw
open PySem PySem.Spec L2 PyProof.Rows
variable {ρ : Ent}
theorem meets_enumT (t : Addr) (its : Array Value) (n : Nat) (dct : Option Addr) (sl : Array (Option Value)) :
    Meets (Builtin.«enumerate.__new__» ⟨[.type "enumerate", .ref t], []⟩) (fun _ R s => s.heap.get? t = some ⟨.type "tuple", dct, .seq its n, sl⟩ ∧
      R (.ok (.ret (.ref (s.heap.push { cls := .type "tuple_iterator", data := .fields #[.ref t, .int 0 0] }).objs.size)))
        { s with heap := (s.heap.push { cls := .type "tuple_iterator", data := .fields #[.ref t, .int 0 0] }).push { cls := .type "enumerate", data := .fields #[.none, .bool false, .ref s.heap.objs.size, rawInt 0, .none, .none] } }) :=
  .of_wp fun prog w A R s ⟨ht, h⟩ => by
    obtain ⟨hp, g, d, tk, os⟩ := s
    have hsub := sub_enumerate
    have tup : Heap.IsTuple (Shared.heap ⟨hp, g, d, tk, os⟩) t its := ⟨_, ht, rfl, n, rfl⟩
    wp_walk using AutoSeq1.wpAny_loadPart' ht
    refine wpAny_stack_any fun st => wpAny_pure ?_
    split
    · rename_i c _ _ _ _ _
      cases (c == Value.type "enumerate")
      all_goals
        wp_walk using AutoSeq1.wpAny_loadPart' ht, wpAny_pyIter_tuple tup
        exact ⟨_, rfl, h⟩
    · wp_walk using AutoSeq1.wpAny_loadPart' ht, wpAny_pyIter_tuple tup
      exact ⟨_, rfl, h⟩
theorem call_enumT {prog : Program} {w : World} {A : Around} {E : Value → Shared → Prop} {s : Shared} {t : Addr} {its : Array Value} {Q : Value → Shared → Prop} (hT : s.heap.IsTuple t its)
    (h : ∀ h', IsEnum h' (s.heap.objs.size + 1) s.heap.objs.size 0 .none → h'.IsTupleIter s.heap.objs.size t 0 → (∀ b o, s.heap.get? b = some o → h'.get? b = some o) → Q (.ref (s.heap.objs.size + 1)) { s with heap := h' }) :
    wpAny (model prog w) A (call (.type "enumerate") [.ref t]) Q E s := by
  obtain ⟨⟨_, dct, _, sl⟩, ht, rfl, n, rfl⟩ := hT
  refine callType_new PySem.F.called_enumerate (by decide) (PySem.F.typeCall_enumerate_1 _) (PySem.F.newCall_enumerate_1 _) (fun obj => PySem.F.args_object_init_2 obj _) PySem.F.entry_enumerate_new (meets_enumT t its n dct sl) ⟨ht, ?_⟩
  have z : (s.heap.push { cls := .type "tuple_iterator", data := .fields #[.ref t, .int 0 0] }).objs.size = s.heap.objs.size + 1 := Heap.size_push ..
  have he := Heap.get?_push_size (s.heap.push { cls := .type "tuple_iterator", data := .fields #[.ref t, .int 0 0] }) (o := { cls := .type "enumerate", data := .fields #[.none, .bool false, .ref s.heap.objs.size, rawInt 0, .none, .none] }) rfl
  show _ ∧ _
  rw [z] at he ⊢
  exact ⟨⟨_, he, rfl⟩, h _ he ⟨_, Heap.get?_push_of_some _ (Heap.get?_push_size _ rfl), rfl, rfl⟩ fun b o x => Heap.get?_push_of_some _ (Heap.get?_push_of_some _ x)⟩
/-- the tuple at a, each item in a new pair -/
def IteT (K : PySem.W.Frag) (a : Addr) : It :=
  ⟨fun i H => ∃ (xs : List V) (x : V), SqT K H a xs ∧ xs[i]? = some x, fun i H v H' => ∃ T x, v = .ref T ∧ H T = none ∧ H' = upd H T (.tup [.int (i : Nat), x]) ∧ ∀ xs, SqT K H a xs → xs[i]? = some x, fun i H => ∃ xs : List V, SqT K H a xs ∧ xs.length = i⟩
theorem turn_enumT {P : Program} {w : World} {K : PySem.W.Frag} {elts : List Expr} {kk : Nat} {tpos : Pos} (a e it : Addr) :
    Turn P w K (.Tuple elts kk tpos) (IteT K a) [e, it] e (fun i h => (∃ old, IsEnum h e it ((i : Nat) : Int) old) ∧ h.IsTupleIter it a i ∧ e ≠ it) where
  mem := List.mem_cons_self
  obj := fun i h ⟨⟨old, he⟩, hit, _⟩ b hb => by
    obtain ⟨o, ho, hc, hd⟩ := hit
    simp only [List.mem_cons, List.not_mem_nil, or_false] at hb
    rcases hb with rfl | rfl
    · exact ⟨_, he, fun v q => nomatch q⟩
    · exact ⟨o, ho, fun v q => by rw [hd] at q; cases q⟩
  keep := fun i h h' ⟨⟨old, he⟩, hit, ne⟩ k => ⟨⟨old, k e List.mem_cons_self _ he⟩, hit.at fun o q => k it (by simp) o q, ne⟩
  item := by
    rintro X rfl rfl rfl hc i pins s σ H E I hf ⟨⟨old, he⟩, hit, ne⟩ ⟨xs, x, hq, hx⟩
    obtain ⟨its, rv, ht, hz⟩ := I.tuple hq
    obtain ⟨u, hu, ru⟩ := rv.get hx
    obtain ⟨ot, hot, hct, _⟩ := id ht
    obtain ⟨oi, hoi, hci, _⟩ := id hit
    have eT : e ≠ a := fun z => by subst z; rw [he] at hot; cases hot; exact absurd hct (by simp)
    have iT : a ≠ it := fun z => by subst z; rw [hoi] at hot; cases hot; rw [hci] at hct; exact absurd hct (by simp)
    have lt : ∀ b ∈ [e, it], b < s.heap.objs.size := fun b hb => by
      simp only [List.mem_cons, List.not_mem_nil, or_false] at hb
      rcases hb with rfl | rfl
      · exact Heap.lt_size he
      · exact Heap.lt_size hoi
    have il : i < its.toArray.size := by
      have := (List.getElem?_eq_some_iff.mp hu).1
      simpa using this
    refine wpAny_pyNext_enum_itemD (Draws.tuple (by simp [I.ok.hd hc]) it a iT its.toArray) he ⟨hit, ht⟩ il ne (by simp only [List.mem_cons, List.not_mem_nil, or_false, not_or]; exact ⟨ne, eT⟩) fun y h' tk hy ho st hN hsz hk => ?_
    have ey : y = u := by
      rw [List.getElem?_toArray] at hy
      rw [hu] at hy
      exact (Option.some.inj hy).symm
    subst ey
    refine ⟨_, rfl, wpAny_letOwnedTupleGo_enum (s := { s with heap := h', toks := tk + 1 }) ho fun h'' he' sb => ?_⟩
    have hel := lt e List.mem_cons_self
    have hT2 : h''.get? s.heap.objs.size = some { cls := .type "tuple", data := .seq #[.int i tk, y] } := (sb.2 _ (Nat.ne_of_gt hel)).trans hN
    have new : ObjOk X.prog X.w (upd H s.heap.objs.size (.tup [.int (i : Nat), x])) h'' s.heap.objs.size (.tup [.int (i : Nat), x]) :=
      ⟨by show 2 ≤ sizeLine; decide, [.int i tk, y], .cons ⟨_, rfl⟩ (.cons ru .nil), ⟨_, hT2, rfl, _, rfl⟩⟩
    have I1 : Inv X pins σ (upd H s.heap.objs.size (.tup [.int (i : Nat), x])) { s with heap := h'', toks := tk + 1 } :=
      I.turnedNew (ch := [e, it]) (fun b ob hb q => (sb.2 b (fun z => hb (by simp [z]))).trans (hk b ob (fun z => hb (by simp [z])) (fun z => hb (by simp [z])) q)) hf (Nat.le_refl _) new
    refine ⟨.ref s.heap.objs.size, _, I1, rfl, ⟨_, x, rfl, I.hok.fresh (Nat.le_refl _), rfl, fun ys hy => by rw [I.tuple_inj hy hq]; exact hx⟩, ⟨⟨y, ?_⟩, st.1.at fun o q => (sb.2 it (Ne.symm ne)).trans q, ne⟩, fun b hb => ?_⟩
    · rw [show ((i + 1 : Nat) : Int) = (i : Int) + 1 by omega]; exact he'
    · rw [upd_ne (Nat.ne_of_lt (lt b hb))]
      exact (hf b hb).1
  done := by
    rintro X rfl rfl rfl hc i pins s σ H E I hf ⟨⟨old, he⟩, hit, ne⟩ ⟨xs, hq, rfl⟩
    obtain ⟨its, rv, ht, hz⟩ := I.tuple hq
    obtain ⟨ot, hot, hct, _⟩ := id ht
    obtain ⟨oi, hoi, hci, _⟩ := id hit
    have iT : a ≠ it := fun z => by subst z; rw [hoi] at hot; cases hot; rw [hci] at hct; exact absurd hct (by simp)
    obtain ⟨f0, f1, f2, f3, f4, f5⟩ := hf it (by simp)
    have sz : its.toArray.size = xs.length := by simp [rv.length]
    exact wpAny_pyNext_enum_endD (Draws.tuple (by simp [I.ok.hd hc]) it a iT its.toArray) he ⟨by rw [sz]; exact hit, ht⟩ fun h' eb => ⟨rfl, I.turned (t' := s.toks) (fun b o hb q => eb b o hb q) f0 f1 f3 f4 f5⟩
  self := fun A i s Q E ⟨⟨_, he⟩, _⟩ h => wpAny_pyIter_enum he h
def iEnumT (K : PySem.W.Frag) (ta : TA) : TI := fun σ H R => ta σ H fun vs H1 => ∃ a xs, vs = [.ref a] ∧ SqT K H1 a xs ∧ R (IteT K a) H1
section
variable {X : Cx} {K : PySem.W.Frag} {a : Expr}
theorem pi_enumT {e : Expr} {ta : TA} {p pos tpos : Pos} {elts : List Expr} {kk : Nat} (hg : Gl X "enumerate") (hm : X.mg "enumerate" = none) (ha : PA X [e] ta) (hs : starEach [e] X.env = [(false, eval e X.env)] := by rfl) :
    PI X (.Tuple elts kk tpos) (.Call (.Name "enumerate" p) [e] [] pos) (iEnumT X.K ta) := ⟨fun pins s σ H R I h => by
  refine Call_ (ld_blt I hg hm boot_enumerate (PyProof.Rows.callWith_type1 (thn (ha.run pos pins s σ H _ I h) fun us s1 ⟨vs, H1, I1, r1, l, xs, ev, hq, q⟩ => ?_) hs rfl))
  subst ev
  rw [Vals.ref1 r1]
  obtain ⟨its, rv, ht, _⟩ := I1.tuple hq
  refine call_enumT (its := its.toArray) ht fun h' he hit keep => wpAny_pyIter_enum he ⟨_, [s1.heap.objs.size + 1, s1.heap.objs.size], _, _, H1, rfl, I1.kept (t' := s1.toks) keep, turn_enumT l _ _, ⟨⟨.none, he⟩, hit, Nat.succ_ne_self _⟩, fun b hb => ?_, q⟩
  have le : s1.heap.objs.size ≤ b := by
    simp only [List.mem_cons, List.not_mem_nil, or_false] at hb
    rcases hb with rfl | rfl
    · exact Nat.le_succ _
    · exact Nat.le_refl _
  exact I1.fpOk le (I1.hok.fresh le)⟩
theorem walk_enumT {b : Addr} {xs : List V} : Walk (IteT K b) xs.length (fun H => SqT K H b xs) (YPair (fun i => some (.int (i : Nat))) (fun i => xs[i]?)) :=
  ⟨fun i _ hi q => ⟨xs, xs[i], q, by simp [hi]⟩, fun _ q => ⟨xs, q, rfl⟩, fun i H v H' _ q ⟨T, x, h1, h2, h3, h4⟩ => ⟨T, .int (i : Nat), x, h1, h2, h3, rfl, h4 xs q⟩⟩
def aIenumT (ar : AA) (Γ : Sl) (M : Mem) (Q : List D → Sl → Mem → Prop) : Prop := ar Γ M fun ds Γ1 M1 => match ds with
  | [.tup xs] => Q (enumD 0 xs) Γ1 M1
  | _ => False
theorem qi_enumT {tpos p pos : Pos} {elts : List Expr} {kk : Nat} {tr : TA} {ar : AA} (hm : X.mg "enumerate" = none) (ha : QA X ρ [a] tr ar) (hg : Gl X "enumerate" := by rfl) (hs : starEach [a] X.env = [(false, eval a X.env)] := by rfl) (hK : X.K = K := by rfl) :
    QI X ρ (.Tuple elts kk tpos) (.Call (.Name "enumerate" p) [a] [] pos) (iEnumT K tr) (aIenumT ar) := by
  subst hK
  refine ⟨pi_enumT hg hm ha.pe hs, fun B σ H G Γ M Q R k hh q => ha.rd B σ H G Γ M _ _ k hh fun vs H1 G1 Γ1 M1 ds k1 e1 rl h1 => ?_⟩
  split at h1
  · rename_i xs
    obtain ⟨v, r, rfl, rv, rn⟩ := repL_cons.mp rl
    have := repL_nil.mp rn; subst this
    obtain ⟨p1, us, rfl, s1, l1⟩ := rep_tup.mp rv
    refine ⟨p1, us, rfl, ex_t k1.ex s1, q _ H1 G1 Γ1 M1 _ k1 e1 ⟨fun H => SqT X.K H p1 us, YPair (fun i => some (.int (i : Nat))) (fun i => us[i]?), ?_, fun H e => ex_t e s1, fun i H x H' d hd _ y => ?_⟩ h1⟩
    · rw [enumD_len, ← l1.length]; exact walk_enumT
    · obtain ⟨z, e3, rfl⟩ := enumD_get hd
      obtain ⟨T, u, w, ev, hT, eH, f1, f2⟩ := y
      obtain ⟨u', g1, q1⟩ := l1.get e3
      have f1 : some (V.int (i : Nat)) = some u := f1
      have f2 : us[i]? = some w := f2
      have ew : u' = w := by rw [g1] at f2; exact Option.some.inj f2
      subst ew
      cases f1
      exact .inr ⟨T, [.int (i : Nat), u'], [.int (0 + i : Nat), z], ev, hT, eH, rfl, repL_cons.mpr ⟨_, _, rfl, by rw [Rep, Nat.zero_add], RepL.one q1⟩⟩
  · exact h1.elim
end
def e_aIenumT := @aIenumT.eq_def
end Gw

/-! a list comprehension whose element may raise -/
namespace Gw
open PySem L2 PyProof.Rows
variable {ρ : Ent}
/-! ### the flight out of a comprehension's block -/
section
variable {M : Model} {A : Around} {E : Value → Shared → Prop} {s : Shared} {Z : Obj → Prop} {B : Heap} {env ce : Env} {outer l : List Env} {L a : Addr}
/-- a note where the flight's mark is another frame's (or none) -/
theorem note_other {fl : Value} {Q : Unit → Shared → Prop} (hZ : HandSPX.Steady Z) (hfr : A.frames = some (env :: outer)) (hf : env.frame = some L) (stB : B.StaysIn s.heap) (nB : B.get? a = none) (ff : s.heap.FunFrames B (env :: outer)) (tr : HandSPX.TracedZ s.heap B a Z fl) (ne : (fl == rawInt L) = false)
    (hQ : ∀ h', HandSPX.HeldZ B (env :: outer) a Z L h' → s.heap.UpToSlots h' → Q () { s with heap := h' }) : wpAny M A (noteFrame (.ref a) env) Q E s := by
  obtain ⟨oe, vs, T, oT, ts, q1, q2, q3, q4, q5, q6, q7, q8, q9⟩ := tr
  unfold noteFrame
  simp only [hf]
  refine wpAny_bind (wpAny_field q1 q3 q4 ?_)
  rw [if_pos (by simp)]
  refine wpAny_bind (wpAny_field q7 q8 q9 ?_)
  rw [if_neg (by rw [ne]; decide)]
  have lt3 := (Array.getElem?_eq_some_iff.mp q9).1
  refine wpAny_bind (wpAny_setField q7 q8 lt3 ?_)
  have same : ∀ b, b ≠ T → (s.heap.update T (Obj.mapFields (·.setIfInBounds 3 Value.none))).get? b = s.heap.get? b := fun b nb => Heap.get?_update_other _ _ nb.symm
  have notT : ∀ b o, s.heap.get? b = some o → (∀ vs, o.data ≠ .fields vs) → b ≠ T := fun b o e nf z => by subst z; rw [q7] at e; cases e; exact nf _ q8
  have lt1 := (Array.getElem?_eq_some_iff.mp q4).1
  refine HandSPX.wpAny_entryZ hZ hfr (ff.of_keeps fun b o e nf => ⟨o, by rw [same b (notT b o e nf)]; exact e, rfl⟩) hf (by rw [same a q6.symm]; exact q1) (fun b o e => by
    rw [same b (fun z => by subst z; rw [q5] at e; cases e)]; exact stB b o e) nB q3 lt1 q2 fun h' ⟨n1, n2, n3, n4⟩ => ?_
  exact hQ h' ⟨n1, nB, n2, n3⟩ fun b o e nf => n4 b o (by rw [same b (notT b o e nf)]; exact e) nf
end
/-- the block's context, its exceptions wished by W -/
abbrev blkX (X : Cx) (W : WX) (s : Shared) (H : Hp) (scope : Scope) (ce : Env) (fp : List Addr) : Cx := (X.blk s H scope ce fp).wish (XE (X.blk s H scope ce fp) W)
section
variable {X : Cx} {W : WX} {pins : List (Addr × Obj)} {σ : L2.St} {H : Hp} {s : Shared} {scope : Scope} {ce : Env} {fp : List Addr}
theorem takes_blk : Takes (blkX X W s H scope ce fp) W := fun u s' ⟨a, B, sI, pins, σ, H', cls, d, e, I, r⟩ => ⟨a, B, sI, pins, σ, H', cls, d, e, I.unwish, r⟩
theorem fails_ok {u : Value} {s' : Shared} {E : Value → Shared → Prop} (I3 : Inv X pins σ H s) (hs : X.stack = X.env :: X.outer) (hf : X.env.frame = some X.env.locals) (hW : ∀ c d σ σ' H, W c d σ H → W c d σ' H) (tk : Takes X W) (cL : ce.locals = s.heap.objs.size) (cF : ce.frame = X.env.frame)
    (f3 : ∀ b ∈ fp, FpOk X pins H b ∧ b < s.heap.objs.size) (x : XE (X.blk s H scope ce fp) W u s') : wpAny (model X.prog X.w) X.A (noteFrame u ce) (fun _ s'' => CompFails (model X.prog X.w) X.A X.xe ce u s'') E s' := by
  obtain ⟨a, B, sI, pins', σ', H', cls, d, rfl, I, nb, up, sky, na, os, ag, w⟩ := x
  have fr : X.A.frames = some (X.env :: X.outer) := by rw [I3.ok.frames, hs]
  have nC : H' s.heap.objs.size = none := by have z : H' ce.locals = none := I.free; rwa [cL] at z
  -- behind the note
  have go : ∀ h1, HandSPX.HeldZ B (X.env :: X.outer) a (Zc cls d) X.env.locals h1 → s'.heap.UpToSlots h1 → CompFails (model X.prog X.w) X.A X.xe ce (.ref a) { s' with heap := h1 } := fun h1 held up1 => by
    obtain ⟨m, ns, _⟩ := I.loc
    have ns : sI.heap.Ns ce.locals m := ns
    have ns1 : h1.Ns ce.locals m := (up.trans up1).ns ns
    refine ⟨m, ns1, fun h2 m2 ns2 same => ?_⟩
    obtain ⟨b1, b2, b3, oe, vs, T, oT, ts, t1, t2, t3, t4, t5, t6, t7, t8, t9⟩ := held
    have ne : ∀ (b : Addr) (o : Obj) (us : Array Value), h1.get? b = some o → o.data = .fields us → b ≠ ce.locals := fun b o us e ed z => by
      obtain ⟨oL, es, ep, eL, dL, _⟩ := ns1
      rw [z, eL] at e; cases e; rw [dL] at ed; cases ed
    have hid : ∀ b o, (PySem.W.hideAll B [ce.locals]).get? b = some o → B.get? b = some o ∧ b ≠ ce.locals := fun b o e => ⟨PySem.W.of_hideAll _ e, fun z => by
      subst z; rw [PySem.W.hideAll_none _ List.mem_cons_self] at e; cases e⟩
    have hidN : ∀ b, B.get? b = none → (PySem.W.hideAll B [ce.locals]).get? b = none := fun b e => by
      cases q : (PySem.W.hideAll B [ce.locals]).get? b with
      | none => rfl
      | some o => rw [(hid b o q).1] at e; cases e
    have ff2 : h2.FunFrames (PySem.W.hideAll B [ce.locals]) (X.env :: X.outer) := by
      have z := Heap.FunFrames.sameBut same ns2 b3
      refine funFrames_none z fun L hL => ?_
      exact hidN L (z.mem hL).1
    have held2 : HandSPX.HeldZ (PySem.W.hideAll B [ce.locals]) (X.env :: X.outer) a (Zc cls d) X.env.locals h2 :=
      ⟨fun b o e => by rw [same.2 b (hid b o e).2]; exact b1 b o (hid b o e).1, hidN a b2, ff2, oe, vs, T, oT, ts, by rw [same.2 a (ne a oe vs t1 t3)]; exact t1, t2, t3, t4, hidN T t5, t6, by rw [same.2 T (ne T oT ts t7 t8)]; exact t7, t8, t9⟩
    obtain ⟨-, -, -, oe', vs', T', _, _, r1, _, r3, r4, _⟩ := id held2
    unfold PySem.passOn
    refine wpAny_bind (wpAny_field r1 r3 r4 ?_)
    rw [if_neg (by simp), cF, hf]
    refine wpAny_bind (HandSPX.setFlight_onZ held2 fun h4 held4 up4 => wpAny_throw (tk _ _ ?_))
    have keep : ∀ b o, (PySem.W.hideAll sI.heap [ce.locals]).get? b = some o → sI.heap.get? b = some o ∧ b ≠ ce.locals := fun b o e => ⟨PySem.W.of_hideAll _ e, fun z => by
      subst z; rw [PySem.W.hideAll_none _ List.mem_cons_self] at e; cases e⟩
    have there : ∀ b o, b ≠ ce.locals → sI.heap.get? b = some o → (PySem.W.hideAll sI.heap [ce.locals]).get? b = some o := fun b o n e => PySem.W.hideAll_get _ e (by simpa using n)
    have old : ∀ b o, s.heap.get? b = some o → b ≠ ce.locals := fun b o e z => by rw [z, cL] at e; exact absurd (Heap.lt_size e) (Nat.lt_irrefl _)
    refine ⟨a, _, { sI with heap := PySem.W.hideAll sI.heap [ce.locals] }, pins, σ, H', cls, d, rfl, ?_, fun b o e hb => ?_, fun b o e nf => ?_, .inr (.inr (by rw [hs]; exact held4)), na, os, ag, hW _ _ _ _ _ w⟩
    · have bb : Un (frs X.stack) fp H H' s.heap sI.heap := I.base
      refine I3.call' (ch := fp) I.os ⟨fun b o e n f x => there b o (old b o e) (bb.keep b o e n f x), fun b o e n f x => ?_, bb.free, fun b o e x => ?_, bb.tups, bb.frzs, bb.tbls⟩ (fun b o e => (I.hok b o e).stay (fun c v hc q => there c v (fun z => ?_) q) (fun _ q => q) fun _ _ q => q) I.bare fun b mb => ⟨(f3 b mb).1.2.2.2.1, (f3 b mb).1.2.1, (f3 b mb).1.2.2.2.2.1, (f3 b mb).1.2.2.2.2.2⟩
      · obtain ⟨sl, q⟩ := bb.slot b o e n f x
        exact ⟨sl, there b _ (old b o e) q⟩
      · obtain ⟨o', q⟩ := bb.there b o e x
        exact ⟨o', there b _ (old b o e) q⟩
      · rw [z, cL] at hc
        rcases hc with hc | hc
        · rw [← hc, nC] at e; cases e
        · rw [nC] at hc; cases hc
    · obtain ⟨k1, k2⟩ := keep b o e
      exact PySem.W.hideAll_get _ (nb b o k1 hb) (by simpa using k2)
    · obtain ⟨k1, k2⟩ := keep b o e
      obtain ⟨sl, q⟩ := up1 b _ (up b o k1 nf).choose_spec (by exact nf)
      obtain ⟨sl2, q2⟩ := up4 b _ (by rw [same.2 b k2]; exact q) (by exact nf)
      exact ⟨sl2, q2⟩
  rw [noteFrame_env _ cF]
  have sky : Sky B (X.env :: X.outer) a (Zc cls d) ce.locals s'.heap := by have z : Sky B X.stack a (Zc cls d) ce.locals s'.heap := sky; rwa [hs] at z
  rcases sky with ⟨k1, k2, k3, oe, vs, k4, k5, k6, k7⟩ | k | ⟨k1, k2, k3, k4⟩
  · exact HandSPX.look_newZ Zc.steady fr k3 hf k4 k1 k2 k6 k7 k5 go
  · exact HandSPX.looks_onZ Zc.steady fr hf k go
  · cases q : (rawInt ce.locals == rawInt X.env.locals) with
    | true =>
      have e : rawInt ce.locals = rawInt X.env.locals := by simpa using q
      rw [e] at k4
      exact HandSPX.againZ hf k4 (go s'.heap ⟨k1, k2, k3, k4⟩ (Heap.UpToSlots.refl _))
    | false => exact note_other Zc.steady fr hf k1 k2 k3 k4 q go
end
/-! ### the loop -/
def addL (elt : Expr) (acc : Value) (env : Env) (k : Sem Fin) : Sem Fin := (do let _ ← call (.builtin "list.append") [acc, ← eval elt env]) >>= fun _ => k
theorem turn_list (elt t0 i0 : Expr) (f0 : List Expr) (scope : Scope) (pos : Pos) (it acc : Value) (env : Env) :
    compTurn (.ListComp elt [⟨t0, i0, f0, 0⟩] scope pos) 0 it acc env = turnOf t0 i0 f0 (.compLoop (.ListComp elt [⟨t0, i0, f0, 0⟩] scope pos) 0 it acc env) it env (addL elt acc env) := by rfl
def growT (D : Addr) (te : TE) : TB := fun σ H Nx => te σ H fun y H4 => ∃ acc, H4 D = some (.lst acc) ∧ acc.length < sizeLine ∧ Nx (upd H4 D (.lst (acc ++ [y])))
theorem loopX_ok {Y : Cx} {σ : L2.St} {vs : List Nat} {tg iter elt : Expr} {scope : Scope} {pos : Pos} {ifs : List Expr} {D : Addr} {fp : List Addr} {it : Addr} {tn : Nat → Heap → Prop} {J : It} {g : TG} {tt : TT} {te : TE} {Done : Hp → Prop} {R : Result → Shared → Prop} {s0 : Shared} {H0 : Hp}
    (hc : Y.calm = true) (hx : ∀ u s, Y.xe u s → notedBy (model Y.prog Y.w) Y.A Y.env (fun e s' => R (.error e) s') u s) (T : Turn Y.prog Y.w Y.K tg J fp it tn) (pg : PG Y tg g) (pt : PTs Y ifs tt) (pe : PE Y elt te)
    (fpY : ∀ {σ' : L2.St} {H' : Hp} {s' : Shared}, Inv Y [] σ' H' s' → (∀ b ∈ fp, H' b = none) → ∀ b ∈ fp, FpOk Y [] H' b)
    (h : loopT J g tt vs σ (growT D te) Done H0) (I0 : Inv Y [] (wipe σ vs) H0 s0) (st0 : tn 0 s0.heap) (nf0 : ∀ b ∈ fp, H0 b = none) (hend : ∀ H' s', Inv Y [] (wipe σ vs) H' s' → Done H' → R (.ok .next) s') :
    codeAny (model Y.prog Y.w) Y.A (.compLoop (.ListComp elt [⟨tg, iter, ifs, 0⟩] scope pos) 0 (.ref it) (.ref D) Y.env) R s0 := by
  obtain ⟨W, ⟨m0, w0⟩, turn⟩ := h
  refine codeAny_loop rfl (fun m s' => ∃ i H', Inv Y [] (wipe σ vs) H' s' ∧ tn i s'.heap ∧ (∀ b ∈ fp, H' b = none) ∧ W i m H') ?_ m0 ⟨0, H0, I0, st0, nf0, w0⟩
  rintro m sa ⟨i, Ha, Ia, sta, nfa, wa⟩
  show wpAny _ Y.A ((compTurn (.ListComp elt [⟨tg, iter, ifs, 0⟩] scope pos) 0 (.ref it) (.ref D) Y.env).onRaise (fun x => do noteFrame x Y.env; theTreesLotGoes x)) _ _ sa
  rw [turn_list]
  refine wpAny_noted ?_
  unfold turnOf
  refine wpAny_bind (wpAny_standAt (wpAny_bind ?_))
  rcases turn i m Ha wa with ⟨stop, qd⟩ | ⟨go, Nx, hNx, step⟩
  · refine thnF (T.done Y rfl rfl rfl hc i [] sa _ Ha (fun _ _ => False) Ia (fpY Ia nfa) sta stop) fun r sb hb => ?_
    rw [hb.1]
    exact wpAny_pure (hend Ha sb hb.2 qd)
  refine thnF (T.item Y rfl rfl rfl hc i [] sa _ Ha (fun _ _ => False) Ia (fpY Ia nfa) sta go) fun r sb ⟨u, er, hb⟩ => ?_
  rw [er]
  refine wpAny_bind (thnF hb fun _ sc ⟨x, Hc, Ic, rx, yc, stc, nfc⟩ => ?_)
  refine wpAny_bind (wpAny_mono (pg.run _ sc _ Hc x u _ (Ic.pinned (fpY Ic nfc) (T.obj _ _ stc)) rx (step x Hc yc)) (fun _ sd ⟨σd, Hd, Id, wd, qd⟩ => ?_) hx)
  have back : ∀ {s' : Shared} {H' : Hp}, Inv Y ([] ++ pinsAt fp sc.heap) σd H' s' → Nx H' → ∃ m', m' < m ∧ ∃ i H', Inv Y [] (wipe σ vs) H' s' ∧ tn i s'.heap ∧ (∀ b ∈ fp, H' b = none) ∧ W i m' H' := fun {s' H'} I' nx => by
    obtain ⟨m', lt, w'⟩ := hNx H' nx
    have still : ∀ b ∈ fp, ∀ o, sc.heap.get? b = some o → s'.heap.get? b = some o ∧ H' b = none := fun b mb o e => by
      have z := I'.pin (b, o) (List.mem_append_right _ (List.mem_append_right _ (mem_pinsAt mb e)))
      exact ⟨z.1, z.2.1⟩
    have I' := I'.weak (wipe_length σd vs) fun j v e => (wipe_some e).1
    rw [wd] at I'
    refine ⟨m', lt, i + 1, H', I'.unpinned (pins := []), T.keep _ _ _ stc fun b mb o e => (still b mb o e).1, fun b mb => ?_, w'⟩
    obtain ⟨o, e, _⟩ := T.obj _ _ stc b mb
    exact (still b mb o e).2
  refine wpAny_bind (wpAny_mono (pt.run _ sd σd Hd _ Id qd) (fun t se ⟨He, Ie, qe⟩ => ?_) hx)
  cases t with
  | false => exact wpAny_pure ⟨rfl, back Ie qe⟩
  | true =>
    refine wpAny_bind (wpAny_bind (wpAny_mono (pe.run _ se σd He _ Ie qe) (fun z sf ⟨y, Hf, If, ry, acc, hD, lt, nx⟩ => ?_) hx))
    refine wpAny_bind (app_ok (X := Y) (Q := fun _ s' => wpAny _ _ (pure ()) _ _ s') If hD lt ry fun sg Ig => wpAny_pure (wpAny_pure ⟨rfl, back Ig nx⟩))
section
variable {X : Cx} {W : WX} {elt tg iter : Expr} {ifs : List Expr} {scope : Scope} {pos : Pos} {te : TE} {ae : AE} {g : TG} {ag : AG} {is : List Nat} {tt : TT} {at' : AT} {wi : TI} {ai : AI} {own : List (Str × Nat)}
abbrev BlkX (X : Cx) (W : WX) (scope : Scope) (P : Cx → Prop) : Prop := ∀ (s : Shared) (H : Hp) (C : Addr) (cl : List (Str × Addr)) (fp : List Addr), P (blkX X W s H scope (compEnvC scope cl C X.env) fp)
theorem pe_lcX (hs : X.stack = X.env :: X.outer) (hf : X.env.frame = some X.env.locals) (hW : ∀ c d σ σ' H, W c d σ H → W c d σ' H) (tk : Takes X W) (hc : X.calm = true) (hN : X.N.Nodup) (hi : PI X tg iter wi) (ok : BlkOk X.N X.env.scope scope own)
    (hg : BlkX X W scope fun Y => PG Y tg g) (ht : BlkX X W scope fun Y => PTs Y ifs tt) (he : BlkX X W scope fun Y => PE Y elt te) (hfold : ∀ x, foldedSetIterable iter X.env x = pure x) :
    PE X (.ListComp elt [⟨tg, iter, ifs, 0⟩] scope pos) (tLc wi g tt te (own.map (·.2))) := ⟨fun pins s σ H Q I h => by
  rw [eval_ListComp]
  have outs : ∀ y ∈ scope.names, y.2 = .free → ∃ c, X.env.cells.lookup y.1 = some c := fun y m f => (ok.free y m f).elim (fun z => I.ok.has _ (.inl z)) fun z => I.ok.has _ (.inr z)
  refine comprehension_at (use := none) rfl hfold (closure_ok outs) ok.kind (fun y m f => by rw [ok.uniq y m, f]) (thn (hi.run pins s σ H _ I h) fun _ _ ha => thn ha fun _ sb hb => ?_)
  obtain ⟨it, fp, tn, J, Hb, rfl, Ib, T, stb, fb, q⟩ := hb
  refine wpAny_newObj_type (newEnv_comp ?_) (Nat.zero_le _)
  have np : Hb sb.heap.objs.size = none := Ib.hok.fresh (Nat.le_refl _)
  have q : loopT J g tt (own.map (·.2)) σ (growT sb.heap.objs.size te) (fun H' => Q (.ref sb.heap.objs.size) H') (upd Hb sb.heap.objs.size (.lst [])) := q _ np
  -- the list stands
  have I3 : Inv X pins σ (upd Hb sb.heap.objs.size (.lst [])) { sb with heap := sb.heap.push { cls := .type "list", data := .seq ([] : List Value).toArray } } :=
    Ib.laid (t' := sb.toks) (fun b o e => Heap.get?_push_of_some _ e) (Nat.le_refl _) ⟨Nat.zero_le _, [], 0, .nil, Heap.get?_push_size _ rfl⟩
  have f3 : ∀ b ∈ fp, FpOk X pins (upd Hb sb.heap.objs.size (.lst [])) b ∧ b < (sb.heap.push { cls := .type "list", data := .seq ([] : List Value).toArray }).objs.size := fun b mb => by
    obtain ⟨o, e, _⟩ := T.obj _ _ stb b mb
    have lt := Heap.lt_size e
    exact ⟨⟨by rw [upd_ne (Nat.ne_of_lt lt)]; exact (fb b mb).1, (fb b mb).2⟩, by rw [Heap.size_push]; exact Nat.lt_succ_of_lt lt⟩
  have st3 : tn 0 (sb.heap.push { cls := .type "list", data := .seq ([] : List Value).toArray }) := T.keep _ _ _ stb fun b _ o e => Heap.get?_push_of_some _ e
  generalize hs3 : ({ sb with heap := sb.heap.push { cls := .type "list", data := .seq ([] : List Value).toArray } } : Shared) = s3 at *
  have h3 : s3.heap = sb.heap.push { cls := .type "list", data := .seq ([] : List Value).toArray } := by rw [← hs3]
  rw [← h3] at f3 st3
  generalize upd Hb sb.heap.objs.size (.lst []) = H3 at *
  have I4 := block_start I3 ok hN f3
  have pg := hg s3 H3 s3.heap.objs.size (cellsFrom (s3.heap.objs.size + 1) scope.names (cloFrom X.env.cells scope.names [])) fp
  have pt := ht s3 H3 s3.heap.objs.size (cellsFrom (s3.heap.objs.size + 1) scope.names (cloFrom X.env.cells scope.names [])) fp
  have pe := he s3 H3 s3.heap.objs.size (cellsFrom (s3.heap.objs.size + 1) scope.names (cloFrom X.env.cells scope.names [])) fp
  have nf : ∀ b ∈ fp, H3 b = none := fun b mb => (f3 b mb).1.1
  have st4 : tn 0 (pushCells (s3.heap.push { cls := .type "dict", data := .dict #[] }) scope.names) := T.keep _ _ _ st3 fun b _ o e => pushCells_keeps _ _ _ _ (Heap.get?_push_of_some _ e)
  show codeAny _ _ (.compStart (.ListComp elt [⟨tg, iter, ifs, 0⟩] scope pos) 0 (.ref it) (.ref sb.heap.objs.size) (compEnvC scope (cellsFrom (s3.heap.objs.size + 1) scope.names (cloFrom X.env.cells scope.names [])) s3.heap.objs.size X.env)) (compEnds (model X.prog X.w) X.A X.xe none (EP X pins σ Q) (.ref sb.heap.objs.size) (compEnvC scope (cellsFrom (s3.heap.objs.size + 1) scope.names (cloFrom X.env.cells scope.names [])) s3.heap.objs.size X.env)) _
  have cL : (compEnvC scope (cellsFrom (s3.heap.objs.size + 1) scope.names (cloFrom X.env.cells scope.names [])) s3.heap.objs.size X.env).locals = s3.heap.objs.size := rfl
  have cF : (compEnvC scope (cellsFrom (s3.heap.objs.size + 1) scope.names (cloFrom X.env.cells scope.names [])) s3.heap.objs.size X.env).frame = X.env.frame := rfl
  generalize compEnvC scope (cellsFrom (s3.heap.objs.size + 1) scope.names (cloFrom X.env.cells scope.names [])) s3.heap.objs.size X.env = ce at *
  have loop := loopX_ok (pos := pos) (scope := scope) (iter := iter) (Y := blkX X W s3 H3 scope ce fp) (vs := own.map (·.2)) (R := compEnds (model X.prog X.w) X.A X.xe none (EP X pins σ Q) (.ref sb.heap.objs.size) ce) hc (fun u s' x => fails_ok I3 hs hf hW tk cL cF f3 x) T pg pt pe
    (fun {σ' H' s'} I' hn b mb => ⟨hn b mb, (I'.ok.exf b mb).1, I'.ok.exfs b mb, .inl mb, fun x c e => (I'.ok.exf b mb).2 x c e, fun z hz => absurd (show z ∈ ([] : List (Addr × Obj)) ++ [] from hz) (by simp)⟩) q (I4.wish _) st4 nf fun H' s' I' qd => by
      have I7 : Inv X pins σ H' s' := I3.call' (ch := fp) I'.os I'.base I'.hok I'.bare fun b mb => ⟨(f3 b mb).1.2.2.2.1, (f3 b mb).1.2.1, (f3 b mb).1.2.2.2.2.1, (f3 b mb).1.2.2.2.2.2⟩
      have nC : H' s3.heap.objs.size = none := by have z : H' ce.locals = none := I'.free; rwa [cL] at z
      obtain ⟨m, hn, _⟩ := I'.loc
      obtain ⟨f0, f1, _, f3', f4, f5⟩ := I3.fpOk (Nat.le_refl s3.heap.objs.size) nC
      exact ⟨m, hn, fun h2 same => ⟨.ref _, H', I7.turned (t' := s'.toks) (fun b o hb e => (same.2 b (by rw [cL]; exact hb)).trans e) f0 f1 f3' f4 f5, rfl, qd⟩⟩
  exact codeAny_compStart_list loop (T.self X.A 0 _ _ _ st4 loop)⟩
theorem q_compX (hN : X.N.Nodup) (hi : QI X ρ tg iter wi ai) (tk : Takes X W) (ok : BlkOk X.N X.env.scope scope own) (hg : BlkX X W scope fun Y => QG Y ρ tg g ag is) (ht : BlkX X W scope fun Y => QTs Y ρ ifs tt at') (he : BlkX X W scope fun Y => QE Y ρ elt te ae) (s0 : Shared)
    (hs : X.stack = X.env :: X.outer := by rfl) (hf : X.env.frame = some X.env.locals := by rfl) (hW : ∀ c d σ σ' H, W c d σ H → W c d σ' H := by exact fun _ _ _ _ _ z => z) (hsub : ∀ j ∈ is, j ∈ own.map (·.2) := by decide) (hc : X.calm = true := by rfl) (hfold : ∀ x, foldedSetIterable iter X.env x = pure x := by intro _; rfl) :
    QE X ρ (.ListComp elt [⟨tg, iter, ifs, 0⟩] scope pos) (tLc wi g tt te (own.map (·.2))) (aLc ai ag at' ae (own.map (·.2))) :=
  ⟨pe_lcX hs hf hW tk hc hN hi.pe ok (fun s H C cl fp => (hg s H C cl fp).pe) (fun s H C cl fp => (ht s H C cl fp).pe) (fun s H C cl fp => (he s H C cl fp).pe) hfold, rd_lc hi.rd (hg s0 X.H_0 0 [] []).rd hsub (ht s0 X.H_0 0 [] []).rd (he s0 X.H_0 0 [] []).rd⟩
end
end Gw

/-! a def that may raise, called by names -/
namespace Gw
open PySem L2 PyProof.Rows
variable {ρ : Ent}
structure PCalX (P : Program) (w : World) (K : PySem.W.Frag) (mg : Str → Option Value) (base : Heap) (x : Str) (ps : List Str) (m : Nat) (ks : List Str) (π : List Nat) (k : Nat) (S : ASx) : Prop where
  ex : ∃ f fd, FnG P w K mg base (L2.CX P w) k f fd ps (spX K ps.length S) ∧ mg x = some (.ref f) ∧ PySem.W.keepIn K (.ref f) = true ∧
    (∀ (s : Shared) (us ws : List Value), K.In s.heap → us.length = m → ws.length = ks.length → BindsTo s fd ⟨us, ks.zip ws⟩ (ps.zip (permL π (us ++ ws)))) ∧ ArX ps.length S
def tCallPX (sp : Sp) (W : WX) (m n : Nat) (π : List Nat) (t tk : TA) : TE := fun σ H Q => t σ H fun vs H1 => tk σ H1 fun zs H2 => vs.length = m ∧ zs.length = n ∧ sp (permL π (vs ++ zs)) H2 Q (WE W σ)
def aCallPX (w : XW) (S : ASx) (m n : Nat) (π : List Nat) (aa ak : AA) (Γ : Sl) (M : Mem) (Q : Ret → Sl → Mem → Prop) : Prop := aa Γ M fun ds Γ1 M1 => ak Γ1 M1 fun es Γ2 M2 => ds.length = m ∧ es.length = n ∧ apX S (permL π (ds ++ es)) M2 (fun r M3 => Q r Γ2 M3) (fun x M3 => w x Γ2 M3) ⟨⟩
section
variable {K : PySem.W.Frag} {X : Cx}
theorem rd_callPX {n m n' : Nat} {π : List Nat} {S : ASx} {W : WX} {w : XW} {tr tk : TA} {ar ak : AA} (hn : ArX n S) (cn : Conn K ρ W w) (ha : RdA K ρ tr ar) (hk : RdA K ρ tk ak) : RdE K ρ (tCallPX (spX K n S) W m n' π tr tk) (aCallPX w S m n' π ar ak) := by
  intro B σ H G Γ M Q R k h q
  refine ha B σ H G Γ M _ _ k h fun vs H1 G1 Γ1 M1 ds k1 e1 rl h1 => ?_
  refine hk B σ H1 G1 Γ1 M1 _ _ k1 h1 fun zs H2 G2 Γ2 M2 es k2 e2 rz h2 => ?_
  obtain ⟨l1, l2, h2⟩ := h2
  have rp := ((rl.mono e2.g).append rz).perm π
  refine ⟨by rw [rl.length]; exact l1, by rw [rz.length]; exact l2, G2, M2, _, by rw [rp.length]; exact hn _ _ _ _ h2, k2.ex, k2.nd, k2.ms, rp, _, _, h2, fun r M' v H' G' hq p rr => ?_, fun x M' cls d H' G' hq p rx => ?_⟩
  · obtain ⟨k3, e3, r3⟩ := k2.call p rr
    exact q _ H' G' Γ2 M' r k3 ((e1.trans e2).trans e3) (r3.old fun x z => e1.nn x (e2.nn x z)) hq
  · obtain ⟨k3, e3, r3⟩ := k2.call (r := .dat .non) (v := .non) p (by simp only [RetOk, Rep])
    exact cn B σ H' G' Γ2 M' x cls d k3 rx hq
/-- a def's run, its exceptions taken with the slots of the caller -/
theorem callGX {k : Nat} {f : Addr} {fd : FuncData} {ps ks : List Str} {sp : Sp} {W : WX} {pins : List (Addr × Obj)} {σ : L2.St} {H : Hp} {s : Shared} {Q : VK} {us ws us' : List Value} {zs : List V} (F : FnG X.prog X.w X.K X.mg X.base (L2.CX X.prog X.w) k f fd ps sp) (room : Room k X.A) (gd : X.A.guards = some []) (tk : Takes X W)
    (I : L2.Inv X pins σ H s) (bind : BindsTo s fd ⟨us, ks.zip ws⟩ (ps.zip us')) (r : Vals zs us') (h : sp zs H Q (WE W σ)) : wpAny (model X.prog X.w) X.A (call (.ref f) us (ks.zip ws)) (EP X pins σ Q) X.xe s :=
  wpAny_call (codeAny_mono (F.go X.A X.stack s H ⟨us, ks.zip ws⟩ us' zs Q (WE W σ) room gd I.env0 bind r h) fun res s' hq => match res, hq with
    | .ok (.ret u), hq => I.after hq
    | .ok .next, hq => hq.elim
    | .ok .brk, hq => hq.elim
    | .ok .cont, hq => hq.elim
    | .error e, hq => passAt tk σ pins H s e s' I hq)
variable {P : Program} {w : World} {mg : Str → Option Value} {base : Heap} {k m : Nat} {ps ks : List Str} {π : List Nat} {S : ASx} {x : Str} {p pos : Pos} {a : Expr} {es : List Expr} {tr tk : TA} {ar ak : AA} {kws : List Keyword} {W : WX} {xw : XW}
theorem q_callPX0 (C : PCalX P w K mg base x ps 0 ks π k S) (room : Room k X.A) (gd : X.A.guards = some []) (tks : Takes X W) (cn : Conn K ρ W xw) (hkw : QK X ρ kws tk ak) (hX : At X P w K mg base := by exact ⟨rfl, rfl, rfl, rfl, rfl⟩) (hg : Gl X x := by rfl)
    (hall : (backToKw pos (keywordEach kws X.env)).all (·.1.isSome) = true := by rfl) (hks : (backToKw pos (keywordEach kws X.env)).filterMap (·.1) = ks := by rfl)
    (hdb : (x == ("__debug__" : Str)) = false := by decide) (hpl : ((backTo pos (starEach [] X.env)).any (·.1) || (backToKw pos (keywordEach kws X.env)).any (·.1.isNone)) = false := by rfl) :
    QE X ρ (.Call (.Name x p) [] kws pos) (tCallPX (spX K ps.length S) W 0 ks.length π tNil tk) (aCallPX xw S 0 ks.length π aNil ak) := by
  obtain ⟨f, fd, F, hm, hk, hb, hn⟩ := C.ex
  obtain ⟨h1, h2, h3, h4, h5⟩ := hX
  subst h1 h2 h3 h4 h5
  refine ⟨⟨fun pins s σ H Q I h => wpAny_Call_Name_kw (ld_glob I hg hm ?_ hdb)⟩, rd_callPX hn cn rd_nil hkw.rd⟩
  refine PySem.W.callWith_KW0 (h₀ := X.base) I.ok.mod.kin hk hall (thn (hkw.pe.run pos pins s σ H _ I h) ?_) hpl
  rintro ws s2 ⟨zs, H2, I2, rz, l1, l2, q⟩
  rw [hks]
  exact ⟨I2.kIn, callGX F room gd tks I2 (hb s2 [] ws I2.kIn rfl (by rw [← rz.length]; exact l2)) (vals_perm π (.append .nil rz)) q⟩
theorem q_callPX (C : PCalX P w K mg base x ps m ks π k S) (room : Room k X.A) (gd : X.A.guards = some []) (tks : Takes X W) (cn : Conn K ρ W xw) (ha : QA X ρ (a :: es) tr ar) (hkw : QK X ρ kws tk ak) (hX : At X P w K mg base := by exact ⟨rfl, rfl, rfl, rfl, rfl⟩) (hg : Gl X x := by rfl)
    (hall : (backToKw pos (keywordEach kws X.env)).all (·.1.isSome) = true := by rfl) (hks : (backToKw pos (keywordEach kws X.env)).filterMap (·.1) = ks := by rfl) (he : starEach (a :: es) X.env = (false, eval a X.env) :: starEach es X.env := by rfl)
    (hdb : (x == ("__debug__" : Str)) = false := by decide) (hpl : ((backTo pos (starEach (a :: es) X.env)).any (·.1) || (backToKw pos (keywordEach kws X.env)).any (·.1.isNone)) = false := by rfl) :
    QE X ρ (.Call (.Name x p) (a :: es) kws pos) (tCallPX (spX K ps.length S) W m ks.length π tr tk) (aCallPX xw S m ks.length π ar ak) := by
  obtain ⟨f, fd, F, hm, hk, hb, hn⟩ := C.ex
  obtain ⟨h1, h2, h3, h4, h5⟩ := hX
  subst h1 h2 h3 h4 h5
  refine ⟨⟨fun pins s σ H Q I h => wpAny_Call_Name_kw (ld_glob I hg hm ?_ hdb)⟩, rd_callPX hn cn ha.rd hkw.rd⟩
  refine PySem.W.callWith_KW (h₀ := X.base) I.ok.mod.kin hk hall (thn (ha.pe.run pos pins s σ H _ I h) ?_) hpl he
  rintro us s1 ⟨vs, H1, I1, r1, q1⟩
  refine thn (hkw.pe.run pos pins s1 σ H1 _ I1 q1) ?_
  rintro ws s2 ⟨zs, H2, I2, rz, l1, l2, q⟩
  rw [hks]
  exact ⟨I2.kIn, callGX F room gd tks I2 (hb s2 us ws I2.kIn (by rw [← r1.length]; exact l1) (by rw [← rz.length]; exact l2)) (vals_perm π (r1.append rz)) q⟩
end
def e_aCallPX := @aCallPX.eq_def
def e_aRaiseP := @aRaiseP.eq_def
end Gw

/-! sorted(a tuple of whole numbers) -/
namespace Gw
open PySem L2 PyProof.Rows
variable {ρ : Ent}
section
variable {prog : Program} {w : World} {A : Around} {E : Value → Shared → Prop} {s : Shared}
theorem collectT {t : Addr} {vs : List Value} {Q : List Value → Shared → Prop} (ht : IsTup s.heap t vs.toArray) (hsz : vs.length ≤ sizeLine) (h : Q vs { s with heap := (s.heap.push (seqObj "list" #[] 0)).update s.heap.objs.size (Obj.mapSeq (· ++ vs.toArray)) }) :
    wpAny (model prog w) A (collect (.ref t)) Q E s := by
  obtain ⟨o, e, c, n, d⟩ := id ht
  have e2 : (s.heap.push (seqObj "list" #[] 0)).get? t = some o := Heap.get?_push_of_some _ e
  have nw : (s.heap.push (seqObj "list" #[] 0)).get? s.heap.objs.size = some (seqObj "list" #[] 0) := Heap.get?_push_size _ rfl
  unfold collect
  refine wpAny_bind (wpAny_runValue (codeAny_builtin entry_proto_collect' ?_))
  show wpAny _ _ (newList [] >>= fun l => again (.builtin "list.__iadd__" ⟨[l, .ref t], []⟩)) _ _ s
  refine wpAny_bind (wpAny_newList (wpAny_pure ⟨Code.quiet_builtin _ (by decide +kernel), codeAny_builtin entry_list_iadd' ?_⟩))
  show wpAny _ _ (Builtin.List.listExtendWith (.ref s.heap.objs.size) (.ref t) (.ref s.heap.objs.size)) _ _ _
  unfold Builtin.List.listExtendWith
  refine wpAny_bind (wpAny_typeOf (T := "tuple") ⟨o, e2, c⟩ ?_)
  rw [if_pos (by rw [show (Value.type "tuple" == Value.type "tuple") = true from by rfl, Bool.or_true])]
  refine wpAny_bind (listItems_at e2 d (wpAny_bind (listItems_at nw rfl ?_)))
  rw [if_neg (by simp)]
  refine wpAny_bind (listUpdate_at nw rfl (wpAny_pure ?_) (Nat.zero_le _) (by simp; omega))
  show wpAny (model prog w) A (load s.heap.objs.size >>= fun o => (match o.data with | .seq xs _ => pure xs.toList | _ => unsupported "internal:collect")) Q E _
  refine wpAny_bind (wpAny_load (get?_update_seq nw _) ?_)
  show wpAny _ _ (pure ((#[] : Array Value) ++ vs.toArray).toList) Q E _
  have el : ((#[] : Array Value) ++ vs.toArray).toList = vs := by simp
  rw [el]
  exact wpAny_pure h
theorem sortedT_ints {t : Addr} {vs : List Value} {ns : List Int} {Q : Value → Shared → Prop} (ht : IsTup s.heap t vs.toArray) (hI : IntsAre vs ns) (hsz : vs.length ≤ sizeLine)
    (h : ∀ (out : Array Value) (ns' : List Int), IntsAre out.toList ns' → ns'.Perm ns → ns'.Pairwise (· ≤ ·) → Q (.ref (s.heap.objs.size + 1)) { s with heap := sortedAll s.heap vs out }) : wpAny (model prog w) A (call (.builtin "sorted") [.ref t]) Q E s := by
  refine Calls.call_function_entry kind_sorted plain_sorted entry_sorted (args_sorted1 _) ?_
  unfold Builtin.«sorted»
  refine wpAny_bind (m := checkCount "sorted" 1 1 _) (wpAny_pure (wpAny_bind (collectT ht hsz (wpAny_bind (wpAny_newList ?_ hsz)))))
  have en : ((s.heap.push (seqObj "list" #[] 0)).update s.heap.objs.size (Obj.mapSeq (· ++ vs.toArray))).objs.size = s.heap.objs.size + 1 := (Heap.size_update ..).trans (size_push' ..)
  have eL : (((s.heap.push (seqObj "list" #[] 0)).update s.heap.objs.size (Obj.mapSeq (· ++ vs.toArray))).push (seqObj "list" vs.toArray 0)).get? (s.heap.objs.size + 1) = some (seqObj "list" vs.toArray 0) := en ▸ Heap.get?_push_size _ rfl
  rw [show ({ s with heap := (s.heap.push (seqObj "list" #[] 0)).update s.heap.objs.size (Obj.mapSeq (· ++ vs.toArray)) } : Shared).heap.objs.size = s.heap.objs.size + 1 from en]
  exact wpAny_bind (wpAny_holding (wpAny_call_entry slot_list_sort ⟨_, eL, rfl⟩ entry_list_sort (list_sort_treeAny eL hI hsz fun out ns' a1 a2 a3 => ⟨_, rfl, wpAny_pure ⟨_, rfl, h out ns' a1 a2 a3⟩⟩) (args_list_sort _)))
end
section
variable {X : Cx} {a : Expr} {ta : TE} {aa : AE} {pos : Pos} {K : PySem.W.Frag}
def rSortIT (K : PySem.W.Frag) : List V → Hp → VK → Prop := fun vs H Q => ∃ (p : Addr) (ns : List Int), vs = [.ref p] ∧ SqT K H p (ns.map .int) ∧ ∀ l, H l = none → Q (.ref l) (upd H l (.lst ((isort ns).map .int)))
theorem call_sortIT : CallR X (.builtin "sorted") (rSortIT X.K) := by
  intro pins s σ H vs us Q I r h
  obtain ⟨p, ns, rfl, hs, q⟩ := h
  obtain ⟨its, rv, ht, hz⟩ := I.tuple hs
  rw [Vals.ref1 r]
  refine sortedT_ints ht (intsAre_of rv) (by rw [← rv.length]; exact hz) fun out ns' a1 a2 a3 => ?_
  obtain ⟨ep, e⟩ := sortedAll_at s.heap its out
  have en : ns' = isort ns := sorted_uniq (a2.trans (isort_perm ns).symm) a3 (isort_sorted ns)
  subst en
  refine ⟨.ref _, upd H (s.heap.objs.size + 1) (.lst ((isort ns).map .int)), I.laid (t' := s.toks) (fun _ _ => sortedAll_old) (Nat.le_succ _) ⟨?_, out.toList, ep, vals_of_ints a1, e⟩, rfl, q _ (I.hok.fresh (Nat.le_succ _))⟩
  rw [List.length_map, (isort_perm ns).length_eq]
  rw [List.length_map] at hz
  exact hz
def aSortIT (r : Ret) (Γ : Sl) (M : Mem) (Q : Ret → Sl → Mem → Prop) : Prop := match r with
  | .dat (.tup ds) => match intsOf ds with
    | some ns => Q (.tmp (.lst ((isort ns).map .int))) Γ M
    | none => False
  | _ => False
theorem rd_sortIT : RdU K ρ (rSortIT K) aSortIT := by
  intro B σ H H1 G Γ M rx x Q R k r1 h q
  unfold aSortIT at h
  split at h
  · rename_i ds
    split at h
    · rename_i ns hn
      obtain ⟨p, xs, e, hx, rl⟩ := rep_tup.mp (show Rep K G (.tup ds) x from r1)
      rw [intsOf_ok hn, repL_map_int] at rl
      subst rl
      exact ⟨p, ns, by rw [e], ex_t k.ex hx, fun l hl => q.newL k (repL_map_int.mpr rfl) h l hl⟩
    · exact h.elim
  · exact h.elim
theorem q_sortIT {p : Pos} (hm : X.mg "sorted" = none) (ha : QE X ρ a ta aa) (hg : Gl X "sorted" := by rfl) (na : starEach [a] X.env = (false, eval a X.env) :: starEach [] X.env := by rfl) (hK : X.K = K := by rfl) :
    QE X ρ (.Call (.Name "sorted" p) [a] [] pos) (tCB (rSortIT K) (tCons ta tNil)) (aCall1 aSortIT aa) := by subst hK; exact q_callB1 call_sortIT rd_sortIT hm ha hg (na := na)
end
def e_aSortIT := @aSortIT.eq_def
end Gw

/-! own exceptions made by keywords -/
namespace Gw
open PySem PySem.W L2 PyProof.Rows
variable {ρ : Ent}
section
variable {M : Model} {A : Around} {E : Value → Shared → Prop} {h : Heap} {g : Array GenState} {d : Drawn} {t : Nat} {os : OsState} {kw : List (Str × Value)} {rest : List Value} {R : Result → Shared → Prop} {prog : Program} {w : World}
variable {nm q : Str} {C N : Addr} {bs bm bmB : List Value} {hdct : Bool} {sn : List Str} {sub : List Value} {ab : Bool} {col : Option Bool} {dd : Option Addr} {k0 k1 k2 k3 k5 : Option Value} {B newId initId : String}
/-- BaseException.__new__ lets keywords be -/
theorem checkK (F : ExcBaseFacts B newId initId bmB) (hT : ∀ X : String, bm.contains (.type X) = bmB.contains (.type X)) {Q : Unit → Shared → Prop} (hC : h.get? C = some (excClassObj nm q C N bs bm hdct sn sub ab col dd k0 k1 k2 k3 k5 newId))
    (hq : Q () ⟨h, g, d, t, os⟩) : wpAny M A (checkBuiltinCall newId ⟨.ref C :: rest, kw⟩) Q E ⟨h, g, d, t, os⟩ := by
  have hB : (Value.ref C :: bm).contains (.type B) = true := by
    rw [List.contains_cons, hT, F.hasB]
    exact Bool.or_true _
  have hst := F.noStar
  simp only [checkBuiltinCall, F.newKind, F.newSplit]
  simp only [F.newRow]
  repeat (first
    | refine wpAny_loadPart_at hC ?_
    | (refine wpAny_isSubtype_exc hC ?_
       rw [hB])
    | refine wpAny_staticBase_exc hC ?_
    | refine wpAny_madeBy_exc hC ?_
    | wp_step)
  all_goals first
    | exact hq
    | skip
theorem newK (F : ExcBaseFacts B newId initId bmB) (hT : ∀ X : String, bm.contains (.type X) = bmB.contains (.type X)) (hC : h.get? C = some (excClassObj nm q C N bs bm hdct sn sub ab col dd k0 k1 k2 k3 k5 newId))
    (hq : R (.ok (.ret (.ref (h.objs.size + 1)))) ⟨(h.push (kdv_tup rest)).push (HandSPX.excO C h.objs.size), g, d, t, os⟩) (hr : rest.length ≤ sizeLine) : codeAny (model prog w) A (.builtin newId ⟨.ref C :: rest, kw⟩) R ⟨h, g, d, t, os⟩ := by
  have he := F.ends
  have h1 : (Value.ref C :: bm).contains (.type B) = true := by
    rw [List.contains_cons, hT, F.hasB]
    exact Bool.or_true _
  have h2 : (Value.ref C :: bm).contains (.type "AttributeError") = false := by
    rw [List.contains_cons, hT, F.noAttr]; rfl
  have h3 : (Value.ref C :: bm).contains (.type "NameError") = false := by
    rw [List.contains_cons, hT, F.noName]; rfl
  refine codeAny_builtinAt F.entry ?_
  unfold Builtin.«BaseException.__new__»
  refine PySem.wpAt_bind ?_
  show PySem.wpAt _ _ _ (stack >>= _) _ _ _
  refine PySem.wpAt_bind (PySem.wpAt_stack fun p below => ?_)
  refine PySem.wpAt_of_wpAny ?_
  wp_walk
  refine PySem.wpAt_of_wpAny ?_
  rw [F.owner]
  repeat (first
    | with_reducible refine wpAny_madeHere_exc F.canon hC ?_
    | with_reducible refine wpAny_loadPart_at hC ?_
    | (with_reducible refine wpAny_isSubtype_exc hC ?_
       first
         | rw [h1]
         | rw [h2]
         | rw [h3])
    | wp_step)
  show R _ _
  rw [Heap.size_push]
  exact hq
theorem typeCallK (F : ExcBaseFacts B newId initId bmB) (hT : ∀ X : String, bm.contains (.type X) = bmB.contains (.type X)) {fI : Addr} {Q : Fin → Shared → Prop} (hC : h.get? C = some (excClassObj nm q C N bs bm hdct sn sub ab col dd k0 k1 k2 k3 k5 newId))
    (hi : Looks (model prog w) h (typeLookup (.ref C) "__init__") (some (.ref fI))) (hb : ∀ self, Looks (model prog w) h (bindSpecial (.ref fI) self) (.ref fI, [self])) (hr : rest.length ≤ sizeLine)
    (hq : codeAny (model prog w) A (.call (.ref fI) ⟨.ref (h.objs.size + 1) :: rest, kw⟩) (fun r s' => match r with | .ok (.ret v) => v = .none ∧ Q (.done (.ret (.ref (h.objs.size + 1)))) s' | .ok _ => False | .error e => E e s') ⟨(h.push (kdv_tup rest)).push (HandSPX.excO C h.objs.size), g, d, t, os⟩) :
    wpAny (model prog w) A (Builtin.«type.__call__» ⟨.ref C :: rest, kw⟩) Q E ⟨h, g, d, t, os⟩ := by
  repeat (first
    | with_reducible refine wpAny_loadPart_at hC ?_
    | with_reducible refine wpAny_madeBy_exc hC ?_
    | wp_step)
  refine codeAny_call_builtin_code (Code.quiet_builtin _ F.quiet) (checkK F hT hC (newK F hT hC ?_ hr))
  show wpAny _ _ _ _ _ _
  have old : ∀ b o, h.get? b = some o → ((h.push (kdv_tup rest)).push (HandSPX.excO C h.objs.size)).get? b = some o := fun b o e => Heap.get?_push_of_some _ (Heap.get?_push_of_some _ e)
  have hC2 := old _ _ hC
  have new : ((h.push (kdv_tup rest)).push (HandSPX.excO C h.objs.size)).get? (h.objs.size + 1) = some (HandSPX.excO C h.objs.size) := by heap_get
  have cC : (Value.ref C :: bm).contains (.ref C) = true := by simp
  have hi2 := hi.keeps old
  have hb2 := (hb (.ref (h.objs.size + 1))).keeps old
  unfold isInstance
  repeat (first
    | with_reducible refine wpAny_loadPart_at new ?_
    | (with_reducible refine wpAny_isSubtype_exc hC2 ?_
       rw [cC])
    | wp_step)
  show wpAny _ _ (typeLookup (.ref C) _) _ _ _
  refine hi2.at (wpAny_holding (wpAny_bind (hb2.at ?_)))
  refine wpAny_bind (wpAny_call (codeAny_mono hq fun r s' z => ?_))
  rcases r with e | (v | _ | _ | _) <;> first
    | exact z
    | exact z.elim
    | skip
  obtain ⟨rfl, z⟩ := z
  first
    | exact wpAny_pure (wpAny_pure z)
    | (wp_walk
       exact z)
theorem checkTK {Q : Unit → Shared → Prop} (hC : h.get? C = some (excClassObj nm q C N bs bm hdct sn sub ab col dd k0 k1 k2 k3 k5 newId)) (hq : Q () ⟨h, g, d, t, os⟩) : wpAny M A (checkBuiltinCall "type.__call__" ⟨.ref C :: rest, kw⟩) Q E ⟨h, g, d, t, os⟩ := by
  have f3 := tc_sub
  have ty : (⟨h, g, d, t, os⟩ : Shared).TypeIs (.ref C) "type" := ⟨_, hC, rfl⟩
  simp only [checkBuiltinCall]
  simp only [tc_kind, tc_split]
  repeat (any_goals (first
    | assumption
    | with_reducible refine wpAny_loadPart_at hC ?_
    | with_reducible refine wpAny_onRaise ?_
    | with_reducible refine wpAny_map ?_
    | wp_step))
theorem callOwnK (F : ExcBaseFacts B newId initId bmB) (hT : ∀ X : String, bm.contains (.type X) = bmB.contains (.type X)) {fI : Addr} (hC : h.get? C = some (excClassObj nm q C N bs bm hdct sn sub ab col dd k0 k1 k2 k3 k5 newId))
    (hi : Looks (model prog w) h (typeLookup (.ref C) "__init__") (some (.ref fI))) (hb : ∀ self, Looks (model prog w) h (bindSpecial (.ref fI) self) (.ref fI, [self])) (hr : rest.length ≤ sizeLine)
    (hq : codeAny (model prog w) (A.under (.builtin "type.__call__" ⟨.ref C :: rest, kw⟩)) (.call (.ref fI) ⟨.ref (h.objs.size + 1) :: rest, kw⟩) (InitBack (h.objs.size + 1) R) ⟨(h.push (kdv_tup rest)).push (HandSPX.excO C h.objs.size), g, d, t, os⟩) :
    codeAny (model prog w) A (.call (.ref C) ⟨rest, kw⟩) R ⟨h, g, d, t, os⟩ := by
  have f1 := tc_lookup
  have f2 := tc_bind (.ref C)
  have ty : (⟨h, g, d, t, os⟩ : Shared).TypeIs (.ref C) "type" := ⟨_, hC, rfl⟩
  refine codeAny_of_tree ?_
  show wpAny _ _ (callAny (.ref C) _) _ _ _
  repeat (any_goals (first
    | assumption
    | with_reducible refine wpAny_loadPart_at hC ?_
    | wp_step))
  refine ⟨rfl, ?_⟩
  refine codeAny_call_builtin_at (Code.quiet_builtin _ (by decide +kernel)) entry_typeCall (checkTK hC (typeCallK F hT hC hi hb hr ?_))
  exact codeAny_mono hq fun r s' z => by rcases r with e | (v | _ | _ | _) <;> exact z
end
/-! ### C(k = v, ..) -/
section
variable {X : Cx} {ks names : List Str} {π : List Nat} {cn : Str} {k : Nat} {p pos : Pos} {pins : List (Addr × Obj)} {σ : L2.St} {H1 : Hp} {zs : List V} {ws : List Value} {kws : List Keyword} {tk : TA} {ak : AA} {K : Frag} {mg : Str → Option Value}
/-- .. by names: the names in the order of the call, the parameters' places -/
structure XclK (P : Program) (w : World) (K : Frag) (mg : Str → Option Value) (base : Heap) (cn : Str) (names ks : List Str) (π : List Nat) (k : Nat) : Prop where
  ns : nsIn K mainGlobals cn = some (some (.ref (clsAd K cn)))
  ox : OxG K (clsAd K cn)
  no : ∀ f ∈ names, findIn K (.ref (clsAd K cn)) f = some none
  ex : ∃ (fI : Addr) (fd : FuncData) (ps : List Str), findIn K (.ref (clsAd K cn)) "__init__" = some (some (.ref fI)) ∧ typeIn K (.ref fI) = some (.type "function") ∧ FnOk P w K mg base CX0 k fI fd ps (spInit K names) ∧
    ∀ (s : Shared) (v : Value) (ws : List Value), K.In s.heap → ws.length = ks.length → BindsTo s fd ⟨[v], ks.zip ws⟩ (ps.zip (v :: permL π ws))
  ln : names.length ≤ 1000
theorem mk_runK {hp : Heap} {g1 : Array GenState} {d1 : Drawn} {t1 : Nat} {o1 : OsState} {P : Value → Shared → Prop} {E : Value → Shared → Prop} (c : XclK X.prog X.w X.K X.mg X.base cn names ks π k) (hr : Room (k + 1) X.A) (I1 : L2.Inv X pins σ H1 ⟨hp, g1, d1, t1, o1⟩) (rv : Vals zs ws) (lk : zs.length = ks.length) (len : (permL π zs).length = names.length)
    (post : ∀ (a dx : Addr) (H2 : Hp) (hp2 h2 : Heap) (g2 : Array GenState) (d2 : Drawn) (t2 : Nat), H2 = upd (upd H1 dx (exd dx (names.zip (permL π zs)).reverse)) a (exo a (clsAd X.K cn) (some dx)) → H1 a = none → H1 dx = none → dx ≠ a → hp.objs.size ≤ a → (∀ b o, hp.get? b = some o → hp2.get? b = some o) →
      L2.Inv X pins σ (upd H1 a (exo a (clsAd X.K cn) none)) ⟨hp2, g1, d1, t1, o1⟩ → Un (frs X.stack) [] (upd H1 a (exo a (clsAd X.K cn) none)) H2 hp2 h2 → HOk X.prog X.w H2 h2 → AllBare g2 → P (.ref a) ⟨h2, g2, d2, t2, o1⟩) :
    wpAny (model X.prog X.w) X.A (call (.ref (clsAd X.K cn)) [] (ks.zip ws)) P E ⟨hp, g1, d1, t1, o1⟩ := by
  obtain ⟨B, newId, initId, bmB, FB, SF, hin, _⟩ := c.ox.ex
  obtain ⟨fI, fd, ps, hfi, hty, F, hb⟩ := c.ex
  obtain ⟨_, _, _, _, _, _, _, _, _, _, _, _, _, _, _, _, hC, hT⟩ := excInit_of I1.kIn hin
  have up : ∀ b o, hp.get? b = some o → ((hp.push (kdv_tup [])).push (HandSPX.excO (clsAd X.K cn) hp.objs.size)).get? b = some o := fun b o q => Heap.get?_push_of_some _ (Heap.get?_push_of_some _ q)
  have fresh : H1 (hp.objs.size + 1) = none := I1.hok.fresh (Nat.le_succ _)
  have there : ((hp.push (kdv_tup [])).push (HandSPX.excO (clsAd X.K cn) hp.objs.size)).get? (hp.objs.size + 1) = some (HandSPX.excO (clsAd X.K cn) hp.objs.size) := by heap_get
  have I2 := I1.laid (t' := t1) up (Nat.le_succ _) (exo_ok (P := X.prog) (w := X.w) (H := upd H1 (hp.objs.size + 1) (exo (hp.objs.size + 1) (clsAd X.K cn) none)) there)
  have rv2 : Vals (V.ref (hp.objs.size + 1) :: permL π zs) (Value.ref (hp.objs.size + 1) :: permL π ws) := .cons rfl (vals_perm π rv)
  have wi : spInit X.K names (V.ref (hp.objs.size + 1) :: permL π zs) (upd H1 (hp.objs.size + 1) (exo (hp.objs.size + 1) (clsAd X.K cn) none)) (fun v H2 => v = .non ∧ ∃ dx, H2 = upd (upd H1 dx (exd dx (names.zip (permL π zs)).reverse)) (hp.objs.size + 1) (exo (hp.objs.size + 1) (clsAd X.K cn) (some dx)) ∧ H1 dx = none ∧ dx ≠ hp.objs.size + 1) (fun _ _ _ => False) := by
    refine ⟨_, _, permL π zs, rfl, len, c.ox, c.no, upd_same, fun dx n1 n2 => ⟨rfl, dx, ?_, by rw [upd_ne n2] at n1; exact n1, n2⟩⟩
    funext b
    unfold upd
    split <;> rfl
  have bt := hb ⟨(hp.push (kdv_tup [])).push (HandSPX.excO (clsAd X.K cn) hp.objs.size), g1, d1, t1, o1⟩ (Value.ref (hp.objs.size + 1)) ws I2.kIn (by rw [← rv.length]; exact lk)
  refine wpAny_call (callOwnK FB hT hC (looks_findIn I1.kIn hfi) (fun self => bind_fn I1.kIn self hty) (Nat.zero_le _) (codeAny_mono (F.run _ X.stack _ _ ⟨[_], ks.zip ws⟩ _ _ _ _ (hr.make _ [] (ks.zip ws)) (I2.env0.make _ [] (ks.zip ws)) bt rv2 wi) fun r s' z => ?_))
  match r, s', z with
  | .error _, _, z => exact z.elim
  | .ok .next, _, z => exact z.elim
  | .ok .brk, _, z => exact z.elim
  | .ok .cont, _, z => exact z.elim
  | .ok (.ret u), ⟨h2, g2, d2, t2, o2⟩, ⟨v, H2, os2, ag2, un2, ok2, ru, ev, dx, eH, n1, n2⟩ =>
    subst ev
    cases (show o2 = o1 from os2)
    exact ⟨ru, post _ dx H2 _ h2 g2 d2 t2 eH fresh n1 n2 (Nat.le_succ _) up I2 un2 ok2 ag2⟩
def tMkK (C : Addr) (names : List Str) (n : Nat) (π : List Nat) (tk : TA) : TE := fun σ H Q => tk σ H fun zs H1 => zs.length = n ∧ (permL π zs).length = names.length ∧ ∀ a dx, H1 a = none → H1 dx = none → dx ≠ a → Q (.ref a) (upd (upd H1 dx (.xd (names.zip (permL π zs)).reverse)) a (xob a C (some dx)))
theorem pe_mkK (c : XclK X.prog X.w X.K X.mg X.base cn names ks π k) (g : Agr X.K X.mg) (hr : Room (k + 1) X.A) (hkw : PK X kws tk) (hg : Gl X cn) (hall : (backToKw pos (keywordEach kws X.env)).all (·.1.isSome) = true) (hks : (backToKw pos (keywordEach kws X.env)).filterMap (·.1) = ks)
    (hdb : (cn == ("__debug__" : Str)) = false) (hpl : ((backTo pos (starEach [] X.env)).any (·.1) || (backToKw pos (keywordEach kws X.env)).any (·.1.isNone)) = false) :
    PE X (.Call (.Name cn p) [] kws pos) (tMkK (clsAd X.K cn) names ks.length π tk) := ⟨fun pins s σ H Q I w => by
  refine wpAny_Call_Name_kw (ld_glob I hg (g _ _ c.ns) (callWith_KW0 (h₀ := X.base) I.ok.mod.kin c.ox.kC hall (thn (hkw.run pos pins s σ H _ I w) ?_) hpl) hdb)
  rintro ws ⟨hp, g1, d1, t1, o1⟩ ⟨zs, H1, I1, rv, lk, len, w1⟩
  rw [hks]
  refine ⟨I1.kIn, mk_runK c hr I1 rv lk len fun a dx H2 hp2 h2 g2 d2 t2 eH n1 n2 n3 _ _ I2 un ok ag => ?_⟩
  have I3 : L2.Inv X _ σ H2 ⟨h2, g2, d2, t2, o1⟩ := I2.call' (ch := []) rfl un ok ag nofun
  have ea : H2 a = some (exo a (clsAd X.K cn) (some dx)) := by rw [eH]; exact upd_same
  have ed : H2 dx = some (exd dx (names.zip (permL π zs)).reverse) := by rw [eH, upd_ne n3]; exact upd_same
  obtain ⟨t, ha⟩ := exo_at ok ea
  obtain ⟨m, hd, rel⟩ := exd_at ok ed
  obtain ⟨u, _, _, hu, _⟩ := id hd
  refine ⟨.ref a, _, Gw.Inv.re (t' := t2) (fun b => b = a ∨ b = dx) I3 (fun b nb => ?_) (fun b hb => ?_) (fun b hb => ?_), rfl, w1 a dx n1 n2 n3⟩
  · obtain ⟨na, nd⟩ := not_or.mp nb
    exact ⟨by rw [eH, upd_ne na, upd_ne nd, upd_ne na, upd_ne nd], fun _ q => q⟩
  · rcases hb with z | z
    · exact .inl ⟨_, (congrArg H2 z).trans ea⟩
    · exact .inl ⟨_, (congrArg H2 z).trans ed⟩
  · by_cases z : b = a
    · rw [z]; exact ⟨_, upd_same, xob_ok ha ⟨rfl, rfl⟩ rfl, _, ha⟩
    · rw [hb.resolve_left z]
      exact ⟨.xd (names.zip (permL π zs)).reverse, by rw [upd_ne n3]; exact upd_same, ⟨m, hd, rel⟩, u, hu⟩⟩
def aMkK (cn : Str) (names : List Str) (n : Nat) (π : List Nat) (ak : AA) (Γ : Sl) (M : Mem) (Q : Ret → Sl → Mem → Prop) : Prop := ak Γ M fun ds Γ1 M1 => ds.length = n ∧ (permL π ds).length = names.length ∧ Q (.dat (.exc cn names.reverse (permL π ds).reverse)) Γ1 M1
theorem rd_mkK {n : Nat} (ns : nsIn K mainGlobals cn = some (some (.ref (clsAd K cn)))) (hk : RdA K ρ tk ak) : RdE K ρ (tMkK (clsAd K cn) names n π tk) (aMkK cn names n π ak) := fun B σ H G Γ M Q R k h q => hk B σ H G Γ M _ _ k h fun zs H1 G1 Γ1 M1 ds k1 e1 rl hh => by
  obtain ⟨l1, l2, hq⟩ := hh
  have rp := rl.perm π
  have lz : (permL π zs).length = names.length := by rw [rp.length]; exact l2
  refine ⟨by rw [rl.length]; exact l1, lz, fun a dx n1 n2 n3 => ?_⟩
  obtain ⟨k2, e2⟩ := k1.new (o := .xd (names.zip (permL π zs)).reverse) n2
  obtain ⟨k3, e3⟩ := k2.new (p := a) (o := xob a (clsAd K cn) (some dx)) (by rw [upd_ne (fun z => n3 z.symm)]; exact n1)
  refine q _ _ _ Γ1 M1 (.dat (.exc cn names.reverse (permL π ds).reverse)) k3 ((e1.trans e2).trans e3) (rep_exc.mpr ⟨a, _, some dx, (names.zip (permL π zs)).reverse, rfl, ns, upd_same, .inr ⟨dx, rfl, e3.g _ _ upd_same⟩, ?_, ?_⟩) hq
  · rw [List.map_reverse, zip_fst _ _ lz]
  · rw [List.map_reverse, zip_snd _ _ lz]
    exact repL_rev (rp.mono (e2.g.trans e3.g))
theorem q_mkK {n : Nat} (c : XclK X.prog X.w K mg X.base cn names ks π k) (g : Agr K mg) (hr : Room (k + 1) X.A) (hkw : QK X ρ kws tk ak) (hg : Gl X cn := by rfl) (hall : (backToKw pos (keywordEach kws X.env)).all (·.1.isSome) = true := by rfl) (hks : (backToKw pos (keywordEach kws X.env)).filterMap (·.1) = ks := by rfl)
    (hdb : (cn == ("__debug__" : Str)) = false := by decide) (hpl : ((backTo pos (starEach [] X.env)).any (·.1) || (backToKw pos (keywordEach kws X.env)).any (·.1.isNone)) = false := by rfl) (hK : X.K = K := by rfl) (hM : X.mg = mg := by rfl) (hn : ks.length = n := by rfl) :
    QE X ρ (.Call (.Name cn p) [] kws pos) (tMkK (clsAd K cn) names n π tk) (aMkK cn names n π ak) := by
  subst hK; subst hM; subst hn
  exact ⟨pe_mkK c g hr hkw.pe hg hall hks hdb hpl, rd_mkK c.ns hkw.rd⟩
end
/-! ### C(e) as a value, C without an __init__ of its own -/
section
variable {X : Cx} {K : Frag} {mg : Str → Option Value} {x : Str} {e : Expr} {ta : TE} {aa : AE} {p pos : Pos}
def tMkP (C : Addr) (ta : TE) : TE := fun σ H Q => ta σ H fun _ H1 => ∀ a, H1 a = none → Q (.ref a) (upd H1 a (xob a C none))
theorem pe_mkP (c : XclP X.K x) (g : Agr X.K X.mg) (hg : Gl X x) (he : PE X e ta) (hs : starEach [e] X.env = (false, eval e X.env) :: starEach [] X.env) (hdb : (x == ("__debug__" : Str)) = false) : PE X (.Call (.Name x p) [e] [] pos) (tMkP (clsAd X.K x) ta) := ⟨fun pins s σ H Q I w => by
  obtain ⟨B, newId, initId, bmB, F, q⟩ := c.ex
  refine wpAny_Call_Name_kw (ld_glob I hg (g _ _ c.ns) (callWith_K (h₀ := X.base) I.ok.mod.kin c.kC (thn ((pa_cons he pa_nil hs).run pos pins s σ H (fun vs H1 => match vs with | [_] => ∀ a, H1 a = none → Q (.ref a) (upd H1 a (xob a (clsAd X.K x) none)) | _ => False) I w) ?_) hs rfl) hdb)
  rintro us s1 ⟨vs, H1, I1, rv, w1⟩
  have one : vs.length = 1 ∧ ∀ a, H1 a = none → Q (.ref a) (upd H1 a (xob a (clsAd X.K x) none)) := by
    split at w1
    · exact ⟨rfl, w1⟩
    · exact w1.elim
  obtain ⟨l1, w1⟩ := one
  have few : us.length ≤ sizeLine := by rw [← rv.length, l1, sizeLine_eq]; omega
  obtain ⟨_, _, _, _, _, _, _, _, _, _, _, _, _, _, _, _, _, hC, hN, hni, T⟩ := exc_obj I1.kIn q
  refine ⟨I1.kIn, wpAny_call_exc_subT F T hC hN hni (fun h' a hm => ?_) few⟩
  have na := I1.hok.gone hm.new
  obtain ⟨t, ha, _, _⟩ := hm.there
  refine ⟨.ref a, _, Gw.Inv.re (t' := s1.toks) (fun b => b = a) I1 (fun b nb => ⟨by rw [upd_ne nb], fun o e => hm.keeps b o e⟩) (fun b hb => .inr ⟨by rw [hb]; exact na, by rw [hb]; exact hm.new⟩) (fun b hb => ?_), rfl, w1 a na⟩
  subst hb
  exact ⟨_, upd_same, xob_ok ha ⟨rfl, rfl⟩ rfl, _, ha⟩⟩
def aMkP (cn : Str) (aa : AE) (Γ : Sl) (M : Mem) (Q : Ret → Sl → Mem → Prop) : Prop := aa Γ M fun _ Γ1 M1 => Q (.dat (.exc cn [] [])) Γ1 M1
theorem q_mkP (c : XclP K x) (g : Agr K mg) (ha : QE X ρ e ta aa) (hg : Gl X x := by rfl) (hdb : (x == ("__debug__" : Str)) = false := by decide) (hs : starEach [e] X.env = (false, eval e X.env) :: starEach [] X.env := by rfl) (hK : X.K = K := by rfl) (hM : X.mg = mg := by rfl) :
    QE X ρ (.Call (.Name x p) [e] [] pos) (tMkP (clsAd K x) ta) (aMkP x aa) := by
  subst hK; subst hM
  refine ⟨pe_mkP c g hg ha.pe hs hdb, fun B σ H G Γ M Q R k h q => ha.rd B σ H G Γ M _ _ k h fun v H1 G1 Γ1 M1 r k1 e1 rr hh a na => ?_⟩
  obtain ⟨k2, e2⟩ := k1.new (p := a) (o := xob a (clsAd X.K x) none) na
  exact q _ _ _ Γ1 M1 (.dat (.exc x [] [])) k2 (e1.trans e2) (rep_exc.mpr ⟨a, _, none, [], rfl, c.ns, upd_same, .inl ⟨rfl, rfl⟩, rfl, repL_nil.mpr rfl⟩) hh
end
def e_aMk := @aMk.eq_def
def e_aMkK := @aMkK.eq_def
def e_aMkP := @aMkP.eq_def
end Gw

namespace Law
open PySem L2 Gw
/-! ### the drawer: one shared list of two whole numbers, ahead of all else -/
def HM (a : Addr) (g s : Int) (M : Mem) : Mem := (a, .lst [.int g, .int s]) :: M
structure HOk (g s : Int) : Prop where
  s0 : 0 ≤ s
  s1 : s < 2305843009213693951
def S__law_hand : ASp := fun ds M Q => ∃ (ns : List Int) (k : Int), ds = [.scr (ns.map .int), .int k] ∧ 0 ≤ k ∧ k ≤ 100 ∧ ∀ a g s, a ∉ dom M → HOk g s → Q (.dat (.ref a)) (HM a g s M)
def S__law_take : ASp := fun ds M Q => ∃ a g s M0 m, ds = [.ref a, .int m] ∧ M = HM a g s M0 ∧ a ∉ dom M0 ∧ HOk g s ∧ 0 < m ∧ m ≤ 10 ^ 40 ∧ ∀ d g' s', 0 ≤ d → d < m → HOk g' s' → Q (.dat (.int d)) (HM a g' s' M0)
def S__law_pick : ASp := fun ds M Q => ∃ a g s M0 xs, ds = [.ref a, .lst xs] ∧ M = HM a g s M0 ∧ a ∉ dom M0 ∧ HOk g s ∧ 0 < xs.length ∧ xs.length ≤ 1000 ∧ ∀ d g' s', d ∈ xs → HOk g' s' → Q (.dat d) (HM a g' s' M0)
theorem ar__law_hand : Ar 2 S__law_hand := fun _ _ _ ⟨_, _, e, _⟩ => by rw [e]; rfl
theorem ar__law_take : Ar 2 S__law_take := fun _ _ _ ⟨_, _, _, _, _, e, _⟩ => by rw [e]; rfl
theorem ar__law_pick : Ar 2 S__law_pick := fun _ _ _ ⟨_, _, _, _, _, e, _⟩ => by rw [e]; rfl

/-! ### all refusals -/
def exNames : List Str := ["NoText", "NoKind", "TooGreat", "NoLine", "NoProgram", "NoFit", "Nothing", "NoStep", "NoPlace", "NoGate", "NoStage", "Unclean"]
def exs (m : Int) (w : Str) (o : D) : List D := [.exc "NoText" ["line"] [.int m], .exc "NoKind" ["why", "place"] [.str w, o], .exc "TooGreat" ["word"] [.str w], .exc "NoLine" ["line"] [o], .exc "NoProgram" [] [], .exc "NoFit" [] [], .exc "Nothing" [] [], .exc "NoStep" [] [],
  .exc "NoPlace" ["place"] [o], .exc "NoGate" ["number"] [.int m], .exc "NoStage" ["stage"] [.str w], .exc "Unclean" ["row", "place"] [.str w, o]]
/-- a number, a word, a thing that are drawn -/
structure Drew (m : Int) (w : Str) (o : D) : Prop where
  m : m = 0 ∨ m = 1 ∨ m = 599 ∨ m = 10 ^ 40 ∨ m = -1
  w : w = "wires" ∨ w = "laid" ∨ w = "" ∨ w = "twice"
  o : o = .non ∨ o = .bl true ∨ o = .tup [.int 0, .int 0, .int 1] ∨ o = .tup [] ∨ o = .lst [.int 1] ∨ o = .str "x"
def rsD (i : Int) (m : Int) (w : Str) : D := if i = 0 then .tup [.str "refused", .str w] else if i = 1 then .tup [.str "missing", .int m] else .tup [.str "halted", .int m, .str w]
def S__law_made : ASp := fun ds M Q => ∃ m w o, ds = [.int m, .str w, o] ∧ Q (.dat (.tup [.lst (exs m w o), .lst (exs m w o)])) M
def S__law_values_right : ASp := fun ds M Q => ∃ m w o, ds = [.lst (exs m w o), .int m, .str w, o] ∧ Drew m w o ∧ Q (.dat (.bl true)) M
def S__law_classes_right : ASp := fun ds M Q => ∃ m w o, ds = [.lst (exs m w o)] ∧ Q (.dat (.bl true)) M
def S__law_raised : ASp := fun ds M Q => ∃ i m w, ds = [.int i, .int m, .str w] ∧ Q (.dat (rsD i m w)) M
theorem ar__law_made : Ar 3 S__law_made := fun _ _ _ ⟨_, _, _, e, _⟩ => by rw [e]; rfl
theorem ar__law_values_right : Ar 4 S__law_values_right := fun _ _ _ ⟨_, _, _, e, _⟩ => by rw [e]; rfl
theorem ar__law_classes_right : Ar 1 S__law_classes_right := fun _ _ _ ⟨_, _, _, e, _⟩ => by rw [e]; rfl
theorem ar__law_raised : Ar 3 S__law_raised := fun _ _ _ ⟨_, _, _, e, _⟩ => by rw [e]; rfl
def SLawP : List Int → Prop := fun ns => ns.length ≤ 63
def S_law : ASp := SLaw SLawP
theorem ar_law : Ar 1 S_law := Gw.ar_law SLawP
theorem sLawP_all : ∀ ns : List Int, ns.length ≤ 63 → (∀ z ∈ ns, Builtin.Int.intBits z ≤ 1048576) → SLawP ns := fun _ h _ => h

/-! ### the text, the abstract bodies (printed by gen.py) -/
def top (i : Nat) : Stmt := PySem.Challenge.pw_gatewaves_k05_refusals_made.main.body.getD i (.Pass ⟨0, 0, 0, 0⟩)
def i_NoLine : Stmt := (match top 11 with | .ClassDef _ _ _ b _ _ _ _ _ _ _ => b | _ => []).getD 0 (.Pass ⟨0, 0, 0, 0⟩)
def i_TooGreat : Stmt := (match top 7 with | .ClassDef _ _ _ b _ _ _ _ _ _ _ => b | _ => []).getD 0 (.Pass ⟨0, 0, 0, 0⟩)
def i_NoKind : Stmt := (match top 6 with | .ClassDef _ _ _ b _ _ _ _ _ _ _ => b | _ => []).getD 0 (.Pass ⟨0, 0, 0, 0⟩)
def i_NoText : Stmt := (match top 4 with | .ClassDef _ _ _ b _ _ _ _ _ _ _ => b | _ => []).getD 0 (.Pass ⟨0, 0, 0, 0⟩)
def i_Unclean : Stmt := (match top 15 with | .ClassDef _ _ _ b _ _ _ _ _ _ _ => b | _ => []).getD 0 (.Pass ⟨0, 0, 0, 0⟩)
def i_NoStage : Stmt := (match top 14 with | .ClassDef _ _ _ b _ _ _ _ _ _ _ => b | _ => []).getD 0 (.Pass ⟨0, 0, 0, 0⟩)
def i_NoGate : Stmt := (match top 13 with | .ClassDef _ _ _ b _ _ _ _ _ _ _ => b | _ => []).getD 0 (.Pass ⟨0, 0, 0, 0⟩)
def i_NoPlace : Stmt := (match top 12 with | .ClassDef _ _ _ b _ _ _ _ _ _ _ => b | _ => []).getD 0 (.Pass ⟨0, 0, 0, 0⟩)
abbrev s__law_hand : Stmt := top 17
abbrev N__law_hand : List Str := ["_law_script", "_law_k", "_law_cell", "_law_great"]
def as__law_hand_t1 : AS := (aSeq (aAsgF (aOp (aIC CM fun i j => .int (i * j)) (aOp (aIC (fun _ j => j ≠ 0) fun i j => .int (i.fmod j)) (aCall1 aAbs (aVar 2)) (aOp (aIC CPowW fun i j => .int (i ^ j.toNat)) (aOp (aIC CPowW fun i j => .int (i ^ j.toNat)) (aC (.int 10)) (aC (.int 60))) (aC (.int 5)))) (aCall1 aInt (aOp (aI0 fun i j => .bl (decide (j ≤ i))) (aCall1 aAbs (aVar 2)) (aOp (aIC CPowW fun i j => .int (i ^ j.toNat)) (aC (.int 10)) (aC (.int 18)))))) 3)
  (aRet (aSh (aLst (aCons (aVar 3) (aCons (aOp (aIC (fun _ j => j ≠ 0) fun i j => .int (i.fmod j)) (aOp (aIC CM fun i j => .int (i * j)) (aOp (aI0 fun i j => .int (i + j)) (aOp (aI0 fun i j => .int (i + j)) (aOp (aIC (fun _ j => j ≠ 0) fun i j => .int (i.fmod j)) (aVar 2) (aC (.int 2305843009213693951))) (aOp (aIC CM fun i j => .int (i * j)) (aOp (aIC CM fun i j => .int (i * j)) (aC (.int 7919)) (aVar 1)) (aVar 1))) (aC (.int 11))) (aC (.int 48271))) (aC (.int 2305843009213693951))) aNil))))))
def as__law_hand : AS := (aSeq (aAsgF (aOp (aI0 fun i j => .int (i + j)) (aOp (aIC CM fun i j => .int (i * j)) (aC (.int 3)) (aVar 1)) (aCall1 aLen (aVar 0))) 2)
  (aSeq (aIfS (aTst (aOp (aI0 fun i j => .bl (decide (i < j))) (aVar 1) (aCall1 aLen (aVar 0)))) (aAsgF (aOp aIx (aVar 0) (aVar 1)) 2) aNext)
  as__law_hand_t1))
abbrev s__law_take : Stmt := top 18
abbrev N__law_take : List Str := ["_law_hand_here", "_law_many", "_law_digit"]
def as__law_take_t1 : AS := (aSeq (aSetI (aOp (aIC (fun _ j => j ≠ 0) fun i j => .int (i.fmod j)) (aOp (aI0 fun i j => .int (i + j)) (aOp (aIC CM fun i j => .int (i * j)) (aOp aIx (aVar 0) (aC (.int 1))) (aC (.int 1181783497276652981))) (aC (.int 12345678910987))) (aC (.int 2305843009213693951))) (aVar 0) (aC (.int 1)))
  (aRet (aOp (aIC (fun _ j => j ≠ 0) fun i j => .int (i.fmod j)) (aOp (aIC CDivW fun i j => .int (i / j)) (aOp (aIC (fun _ j => j ≠ 0) fun i j => .int (i.fmod j)) (aOp (aIC CM fun i j => .int (i * j)) (aOp (aIC CDivW fun i j => .int (i / j)) (aOp aIx (aVar 0) (aC (.int 1))) (aC (.int 65537))) (aOp (aI0 fun i j => .int (i + j)) (aOp (aIC (fun _ j => j ≠ 0) fun i j => .int (i.fmod j)) (aOp aIx (aVar 0) (aC (.int 1))) (aC (.int 65537))) (aC (.int 3)))) (aC (.int 2305843009213693921))) (aC (.int 97))) (aVar 1))))
def as__law_take : AS := (aSeq (aIfS (aTst (aOp (aI0 fun i j => .bl (decide (j < i))) (aOp aIx (aVar 0) (aC (.int 0))) (aC (.int 0)))) (aSeq (aAsgF (aOp (aIC (fun _ j => j ≠ 0) fun i j => .int (i.fmod j)) (aOp aIx (aVar 0) (aC (.int 0))) (aVar 1)) 2)
  (aSeq (aSetI (aOp (aIC CDivW fun i j => .int (i / j)) (aOp aIx (aVar 0) (aC (.int 0))) (aVar 1)) (aVar 0) (aC (.int 0)))
  (aRet (aVar 2)))) aNext)
  as__law_take_t1)
abbrev s__law_pick : Stmt := top 19
abbrev N__law_pick : List Str := ["_law_hand_here", "_law_some"]
def as__law_pick : AS := (aRet (aOp aIx (aVar 1) (aCall S__law_take (aCons (aVar 0) (aCons (aCall1 aLen (aVar 1)) aNil)))))
abbrev s__law_made : Stmt := top 20
abbrev N__law_made : List Str := ["_law_many", "_law_whom", "_law_odd", "_law_first", "_law_other"]
def as__law_made : AS := (aSeq (aAsgF (aLst (aCons (aMk "NoText" ["line"] (aCons (aVar 0) aNil)) (aCons (aMk "NoKind" ["place", "why"] (aCons (aVar 2) (aCons (aVar 1) aNil))) (aCons (aMk "TooGreat" ["word"] (aCons (aVar 1) aNil)) (aCons (aMk "NoLine" ["line"] (aCons (aVar 2) aNil)) (aCons (aMkP "NoProgram" (aC (.str "no"))) (aCons (aMkP "NoFit" (aC (.str "no"))) (aCons (aMkP "Nothing" (aC (.str "no"))) aNil)))))))) 3)
  (aSeq (aAsgF (aOp aCat (aVar 3) (aLst (aCons (aMkP "NoStep" (aC (.str "no"))) (aCons (aMk "NoPlace" ["place"] (aCons (aVar 2) aNil)) (aCons (aMk "NoGate" ["number"] (aCons (aVar 0) aNil)) (aCons (aMk "NoStage" ["stage"] (aCons (aVar 1) aNil)) (aCons (aMk "Unclean" ["place", "row"] (aCons (aVar 2) (aCons (aVar 1) aNil))) aNil))))))) 3)
  (aSeq (aAsgF (aLst (aCons (aMkK "NoText" ["line"] 1 [0] (aCons (aVar 0) aNil)) (aCons (aMkK "NoKind" ["place", "why"] 2 [1, 0] (aCons (aVar 1) (aCons (aVar 2) aNil))) (aCons (aMkK "TooGreat" ["word"] 1 [0] (aCons (aVar 1) aNil)) (aCons (aMkK "NoLine" ["line"] 1 [0] (aCons (aVar 2) aNil)) (aCons (aMkP "NoProgram" (aC (.str "so"))) aNil)))))) 4)
  (aSeq (aAsgF (aOp aCat (aVar 4) (aLst (aCons (aMkP "NoFit" (aC (.str "so"))) (aCons (aMkP "Nothing" (aC (.str "so"))) (aCons (aMkP "NoStep" (aC (.str "so"))) (aCons (aMkK "NoPlace" ["place"] 1 [0] (aCons (aVar 2) aNil)) (aCons (aMkK "NoGate" ["number"] 1 [0] (aCons (aVar 0) aNil)) aNil))))))) 4)
  (aRet (aTup (aCons (aVar 3) (aCons (aOp aCat (aVar 4) (aLst (aCons (aMkK "NoStage" ["stage"] 1 [0] (aCons (aVar 1) aNil)) (aCons (aMkK "Unclean" ["place", "row"] 2 [1, 0] (aCons (aVar 1) (aCons (aVar 2) aNil))) aNil)))) aNil))))))))
abbrev s__law_values_right : Stmt := top 21
abbrev N__law_values_right : List Str := ["_law_some", "_law_many", "_law_whom", "_law_odd", "_law_told"]
def as__law_values_right : AS := (aSeq (aAsgF (aLst (aCons (aUn (aXf ["NoText", "NoKind", "TooGreat", "NoLine", "NoProgram", "NoFit", "Nothing", "NoStep", "NoPlace", "NoGate", "NoStage", "Unclean"] "line") (aOp aIx (aVar 0) (aC (.int 0)))) (aCons (aUn (aXf ["NoText", "NoKind", "TooGreat", "NoLine", "NoProgram", "NoFit", "Nothing", "NoStep", "NoPlace", "NoGate", "NoStage", "Unclean"] "place") (aOp aIx (aVar 0) (aC (.int 1)))) (aCons (aUn (aXf ["NoText", "NoKind", "TooGreat", "NoLine", "NoProgram", "NoFit", "Nothing", "NoStep", "NoPlace", "NoGate", "NoStage", "Unclean"] "why") (aOp aIx (aVar 0) (aC (.int 1)))) (aCons (aUn (aXf ["NoText", "NoKind", "TooGreat", "NoLine", "NoProgram", "NoFit", "Nothing", "NoStep", "NoPlace", "NoGate", "NoStage", "Unclean"] "word") (aOp aIx (aVar 0) (aC (.int 2)))) (aCons (aUn (aXf ["NoText", "NoKind", "TooGreat", "NoLine", "NoProgram", "NoFit", "Nothing", "NoStep", "NoPlace", "NoGate", "NoStage", "Unclean"] "line") (aOp aIx (aVar 0) (aC (.int 3)))) (aCons (aUn (aXf ["NoText", "NoKind", "TooGreat", "NoLine", "NoProgram", "NoFit", "Nothing", "NoStep", "NoPlace", "NoGate", "NoStage", "Unclean"] "place") (aOp aIx (aVar 0) (aC (.int 8)))) (aCons (aUn (aXf ["NoText", "NoKind", "TooGreat", "NoLine", "NoProgram", "NoFit", "Nothing", "NoStep", "NoPlace", "NoGate", "NoStage", "Unclean"] "number") (aOp aIx (aVar 0) (aC (.int 9)))) aNil)))))))) 4)
  (aSeq (aAsgF (aOp aCat (aVar 4) (aLst (aCons (aUn (aXf ["NoText", "NoKind", "TooGreat", "NoLine", "NoProgram", "NoFit", "Nothing", "NoStep", "NoPlace", "NoGate", "NoStage", "Unclean"] "stage") (aOp aIx (aVar 0) (aC (.int 10)))) (aCons (aUn (aXf ["NoText", "NoKind", "TooGreat", "NoLine", "NoProgram", "NoFit", "Nothing", "NoStep", "NoPlace", "NoGate", "NoStage", "Unclean"] "place") (aOp aIx (aVar 0) (aC (.int 11)))) (aCons (aUn (aXf ["NoText", "NoKind", "TooGreat", "NoLine", "NoProgram", "NoFit", "Nothing", "NoStep", "NoPlace", "NoGate", "NoStage", "Unclean"] "row") (aOp aIx (aVar 0) (aC (.int 11)))) aNil))))) 4)
  (aRet (aOp (aEqS id) (aCall1 aReprN (aVar 4)) (aCall1 aReprN (aLst (aCons (aVar 1) (aCons (aVar 3) (aCons (aVar 2) (aCons (aVar 2) (aCons (aVar 3) (aCons (aVar 3) (aCons (aVar 1) (aCons (aVar 2) (aCons (aVar 3) (aCons (aVar 2) aNil))))))))))))))))
abbrev s__law_classes_right : Stmt := top 22
abbrev N__law_classes_right : List Str := ["_law_some", "_law_spot", "_law_error", "_law_flags", "_law_family", "_law_python", "_law_due", "_law_k"]
def as__law_classes_right_e1 : AE := (aOp (aEq id) (aVar 7) (aVar 1))
def as__law_classes_right_t1 : AS := (aSeq (aAsgF (aLst (aCons (aUn (aIsX ["NoText", "NoKind", "TooGreat", "NoLine", "NoProgram", "NoFit", "Nothing", "NoStep", "NoPlace", "NoGate", "NoStage", "Unclean"] ["Refused"]) (aVar 2)) (aCons (aUn (aIsX ["NoText", "NoKind", "TooGreat", "NoLine", "NoProgram", "NoFit", "Nothing", "NoStep", "NoPlace", "NoGate", "NoStage", "Unclean"] ["Missing"]) (aVar 2)) (aCons (aUn (aIsX ["NoText", "NoKind", "TooGreat", "NoLine", "NoProgram", "NoFit", "Nothing", "NoStep", "NoPlace", "NoGate", "NoStage", "Unclean"] ["Halted"]) (aVar 2)) aNil)))) 4)
  (aSeq (aAsgF (aLst (aCons (aUn (aIsX ["NoText", "NoKind", "TooGreat", "NoLine", "NoProgram", "NoFit", "Nothing", "NoStep", "NoPlace", "NoGate", "NoStage", "Unclean"] ["ValueError"]) (aVar 2)) (aCons (aUn (aIsX ["NoText", "NoKind", "TooGreat", "NoLine", "NoProgram", "NoFit", "Nothing", "NoStep", "NoPlace", "NoGate", "NoStage", "Unclean"] ["LookupError"]) (aVar 2)) (aCons (aUn (aIsX ["NoText", "NoKind", "TooGreat", "NoLine", "NoProgram", "NoFit", "Nothing", "NoStep", "NoPlace", "NoGate", "NoStage", "Unclean"] ["RuntimeError"]) (aVar 2)) aNil)))) 5)
  (aSeq (aAsgF (aLst (aCons (aOp (aI0 fun i j => .bl (decide (i < j))) (aVar 1) (aC (.int 8))) (aCons (aChain (aI0 fun i j => .bl (decide (i ≤ j))) (aI0 fun i j => .bl (decide (i < j))) (aC (.int 8)) (aVar 1) (aC (.int 11))) (aCons (aOp (aEq id) (aVar 1) (aC (.int 11))) aNil)))) 6)
  (aIfS (aOr (aTst (aOp (aEq not) (aVar 4) (aVar 6))) (aTst (aOp (aEq not) (aVar 5) (aVar 6)))) (aRet (aC (.bl false))) aNext))))
def as__law_classes_right_b1 : AS := (aSeq (aAsgF (aLst (aCons (aUn (aIsX ["NoText", "NoKind", "TooGreat", "NoLine", "NoProgram", "NoFit", "Nothing", "NoStep", "NoPlace", "NoGate", "NoStage", "Unclean"] ["NoText"]) (aVar 2)) (aCons (aUn (aIsX ["NoText", "NoKind", "TooGreat", "NoLine", "NoProgram", "NoFit", "Nothing", "NoStep", "NoPlace", "NoGate", "NoStage", "Unclean"] ["NoKind"]) (aVar 2)) (aCons (aUn (aIsX ["NoText", "NoKind", "TooGreat", "NoLine", "NoProgram", "NoFit", "Nothing", "NoStep", "NoPlace", "NoGate", "NoStage", "Unclean"] ["TooGreat"]) (aVar 2)) aNil)))) 3)
  (aSeq (aAsgF (aOp aCat (aVar 3) (aLst (aCons (aUn (aIsX ["NoText", "NoKind", "TooGreat", "NoLine", "NoProgram", "NoFit", "Nothing", "NoStep", "NoPlace", "NoGate", "NoStage", "Unclean"] ["NoLine"]) (aVar 2)) (aCons (aUn (aIsX ["NoText", "NoKind", "TooGreat", "NoLine", "NoProgram", "NoFit", "Nothing", "NoStep", "NoPlace", "NoGate", "NoStage", "Unclean"] ["NoProgram"]) (aVar 2)) (aCons (aUn (aIsX ["NoText", "NoKind", "TooGreat", "NoLine", "NoProgram", "NoFit", "Nothing", "NoStep", "NoPlace", "NoGate", "NoStage", "Unclean"] ["NoFit"]) (aVar 2)) aNil))))) 3)
  (aSeq (aAsgF (aOp aCat (aVar 3) (aLst (aCons (aUn (aIsX ["NoText", "NoKind", "TooGreat", "NoLine", "NoProgram", "NoFit", "Nothing", "NoStep", "NoPlace", "NoGate", "NoStage", "Unclean"] ["Nothing"]) (aVar 2)) (aCons (aUn (aIsX ["NoText", "NoKind", "TooGreat", "NoLine", "NoProgram", "NoFit", "Nothing", "NoStep", "NoPlace", "NoGate", "NoStage", "Unclean"] ["NoStep"]) (aVar 2)) (aCons (aUn (aIsX ["NoText", "NoKind", "TooGreat", "NoLine", "NoProgram", "NoFit", "Nothing", "NoStep", "NoPlace", "NoGate", "NoStage", "Unclean"] ["NoPlace"]) (aVar 2)) aNil))))) 3)
  (aSeq (aAsgF (aOp aCat (aVar 3) (aLst (aCons (aUn (aIsX ["NoText", "NoKind", "TooGreat", "NoLine", "NoProgram", "NoFit", "Nothing", "NoStep", "NoPlace", "NoGate", "NoStage", "Unclean"] ["NoGate"]) (aVar 2)) (aCons (aUn (aIsX ["NoText", "NoKind", "TooGreat", "NoLine", "NoProgram", "NoFit", "Nothing", "NoStep", "NoPlace", "NoGate", "NoStage", "Unclean"] ["NoStage"]) (aVar 2)) (aCons (aUn (aIsX ["NoText", "NoKind", "TooGreat", "NoLine", "NoProgram", "NoFit", "Nothing", "NoStep", "NoPlace", "NoGate", "NoStage", "Unclean"] ["Unclean"]) (aVar 2)) aNil))))) 3)
  (aSeq (aIfS (aTst (aOp (aEq not) (aVar 3) (aLc (aRng1 (aCons (aC (.int 12)) aNil)) (agN 7) aYes as__law_classes_right_e1 [7]))) (aRet (aC (.bl false))) aNext)
  as__law_classes_right_t1)))))
def as__law_classes_right_t2 : AS := (aRet (aC (.bl true)))
def as__law_classes_right : AS := (aSeq (aFor (aIenum (aCons (aVar 0) aNil)) (agT 2 (agCons (agN 1) (agCons (agN 2) agNil))) as__law_classes_right_b1)
  as__law_classes_right_t2)
abbrev s__law_raised : Stmt := top 23
abbrev N__law_raised : List Str := ["_law_which", "_law_many", "_law_whom", "e"]
def as__law_raised_h1 : AS := (aRet (aTup (aCons (aC (.str "refused")) (aCons (aUn (aXf ["NoText", "NoKind", "TooGreat", "NoLine", "NoProgram", "NoFit", "Nothing", "NoStep", "NoPlace", "NoGate", "NoStage", "Unclean"] "word") (aVar 3)) aNil))))
def as__law_raised_h2 : AS := (aRet (aTup (aCons (aC (.str "halted")) (aCons (aUn (aXf ["NoText", "NoKind", "TooGreat", "NoLine", "NoProgram", "NoFit", "Nothing", "NoStep", "NoPlace", "NoGate", "NoStage", "Unclean"] "place") (aVar 3)) (aCons (aUn (aXf ["NoText", "NoKind", "TooGreat", "NoLine", "NoProgram", "NoFit", "Nothing", "NoStep", "NoPlace", "NoGate", "NoStage", "Unclean"] "row") (aVar 3)) aNil)))))
def as__law_raised_h3 : AS := (aRet (aTup (aCons (aC (.str "missing")) (aCons (aUn (aXf ["NoText", "NoKind", "TooGreat", "NoLine", "NoProgram", "NoFit", "Nothing", "NoStep", "NoPlace", "NoGate", "NoStage", "Unclean"] "number") (aVar 3)) aNil))))
def as__law_raised : AS := (aTry ["NoText", "NoKind", "TooGreat", "NoLine", "NoProgram", "NoFit", "Nothing", "NoStep", "NoPlace", "NoGate", "NoStage", "Unclean"] (fun _ _ _ => False) (fun xw => (aSeq (aIfS (aTst (aOp (aEq id) (aVar 0) (aC (.int 0)))) (aRaise xw "TooGreat" ["word"] (aCons (aVar 2) aNil)) aNext)
  (aSeq (aIfS (aTst (aOp (aEq id) (aVar 0) (aC (.int 1)))) (aRaise xw "NoGate" ["number"] (aCons (aVar 1) aNil)) aNext)
  (aRaise xw "Unclean" ["place", "row"] (aCons (aVar 1) (aCons (aVar 2) aNil)))))) [⟨["Missing"], some 3, as__law_raised_h3⟩, ⟨["Halted"], some 3, as__law_raised_h2⟩, ⟨["Refused"], some 3, as__law_raised_h1⟩])
abbrev s_law : Stmt := top 24
abbrev N_law : List Str := ["_law_script", "_law_kept", "_law_k", "_law_hand_here", "_law_odd", "_law_some", "_law_told", "_law_many", "_law_whom", "_law_which"]
def as_law_t1 : AS := (aDrop (aMeth amApp (aVar 1) (aCons (aTup (aCons (aVar 5) (aCons (aVar 7) (aCons (aVar 8) (aCons (aVar 4) aNil))))) aNil)))
def as_law_b1 : AS := (aSeq (aIfS (aNot (aTst (aCall S__law_classes_right (aCons (aVar 5) aNil)))) (aRet (aC (.bl false))) aNext)
  as_law_t1)
def as_law_e1 : AE := (aCall S__law_raised (aCons (aVar 9) (aCons (aVar 7) (aCons (aVar 8) aNil))))
def as_law_t2 : AS := (aSeq (aAsgF (aLc (aRng1 (aCons (aC (.int 3)) aNil)) (agN 9) aYes as_law_e1 [9]) 6)
  (aIfS (aTst (aOp (aEq not) (aVar 6) (aLst (aCons (aTup (aCons (aC (.str "refused")) (aCons (aVar 8) aNil))) (aCons (aTup (aCons (aC (.str "missing")) (aCons (aVar 7) aNil))) (aCons (aTup (aCons (aC (.str "halted")) (aCons (aVar 7) (aCons (aVar 8) aNil)))) aNil)))))) (aRet (aC (.bl false))) aNext))
def as_law_b2 : AS := (aSeq (aAsgF (aCall S__law_hand (aCons (aVar 0) (aCons (aVar 2) aNil))) 3)
  (aSeq (aUnp (aTup (aCons (aCall S__law_pick (aCons (aVar 3) (aCons (aLst (aCons (aC (.int 0)) (aCons (aC (.int 1)) (aCons (aC (.int 599)) (aCons (aOp (aIC CPowW fun i j => .int (i ^ j.toNat)) (aC (.int 10)) (aC (.int 40))) (aCons (aUn aNeg (aC (.int 1))) aNil)))))) aNil))) (aCons (aCall S__law_pick (aCons (aVar 3) (aCons (aLst (aCons (aC (.str "wires")) (aCons (aC (.str "laid")) (aCons (aC (.str "")) (aCons (aC (.str "twice")) aNil))))) aNil))) aNil))) (agT 2 (agCons (agN 7) (agCons (agN 8) agNil))))
  (aSeq (aAsgF (aCall S__law_pick (aCons (aVar 3) (aCons (aLst (aCons (aC .non) (aCons (aC (.bl true)) (aCons (aTup (aCons (aC (.int 0)) (aCons (aC (.int 0)) (aCons (aC (.int 1)) aNil)))) (aCons (aTup aNil) (aCons (aLst (aCons (aC (.int 1)) aNil)) (aCons (aC (.str "x")) aNil))))))) aNil))) 4)
  (aSeq (aFor (aITup (aCall S__law_made (aCons (aVar 7) (aCons (aVar 8) (aCons (aVar 4) aNil))))) (agN 5) as_law_b1)
  as_law_t2))))
def as_law_e2 : AE := (aCall S__law_values_right (aCons (aVar 5) (aCons (aVar 7) (aCons (aVar 8) (aCons (aVar 4) aNil)))))
def as_law_t3 : AS := (aRet (aCall1 (aAllB (·.all id)) (aLc (aISeq (aVar 1)) (agT 4 (agCons (agN 5) (agCons (agN 7) (agCons (agN 8) (agCons (agN 4) agNil))))) aYes as_law_e2 [5, 7, 8, 4])))
def as_law : AS := (aSeq (aAsg (aLst aNil) 1)
  (aSeq (aFor (aRng1 (aCons (aCall2 (aI0 fun i j => .int (if j > i then j else i)) (aC (.int 1)) (aCall2 (aI0 fun i j => .int (if j < i then j else i)) (aC (.int 4)) (aCall1 aLen (aVar 0)))) aNil)) (agN 2) as_law_b2)
  as_law_t3))
local macro_rules | `(tactic| walk_at "gw") => `(tactic| simp (config := { dsimp := false }) only [↓e_aCatS, ↓e_aSlS, ↓e_aStr, ↓e_aEq0, ↓e_aLtT, ↓e_aSortSet, ↓e_aRepT, ↓e_aRevT, ↓e_aIB, ↓e_aStrB, ↓e_aEqL0, ↓e_aLc2, ↓e_aSortRows, ↓e_aTNew, ↓e_aTGet, ↓e_aTGet2, ↓e_aTPut, ↓e_aTItems, ↓e_aTIn, ↓e_aSortT, ↓e_dcTOf, ↓e_aDictT, ↓e_aDcR, ↓e_aOneR, ↓e_aPutI, ↓e_aSetI2, ↓e_aIAny, ↓e_aIsB, ↓e_aSortIt, ↓e_aListRg, ↓e_aLenSetT, ↓e_aSortSc, ↓e_aSortRowsT, ↓e_aLenSetI, ↓e_aParOO, ↓e_aCallX, ↓e_aRaise, ↓e_aTry, ↓e_aIsX, ↓e_aXf, ↓e_aSortRowsD, ↓e_aIenumT, ↓e_aCallPX, ↓e_aRaiseP, ↓e_aSortIT, ↓e_aMk, ↓e_aMkK, ↓e_aMkP, ↓e_aSeq, ↓e_aIsi, ↓e_kdOf, ↓isD, ↓e_aInT, ↓e_aRevL, ↓e_aMaxI, ↓e_aUnpS, ↓e_aLk, ↓e_aDNew, ↓e_aDisp, ↓e_apNil, ↓e_apCons, ↓e_aDGet, ↓e_aDGet2, ↓e_aDIn, ↓e_aDPut, ↓keyD, ↓e_dctOf, ↓e_cget, ↓e_cput, ↓e_aIItems, ↓e_aLItems, ↓e_aDictP, ↓e_aDictEnum, ↓e_aLast, ↓e_aLink, ↓e_aChainN, ↓e_agTL, ↓e_aUnp, ↓e_aVar, ↓e_aC, ↓e_aOp, ↓e_aI0, ↓e_aIC, ↓e_aEq, ↓e_aEqS, ↓e_aIn, ↓e_aIsN, ↓e_aIx, ↓e_aCat, ↓e_aRep, ↓e_aCatT, ↓e_aSl, ↓e_aON, ↓e_aOS, ↓e_aCall1, ↓e_aCall2, ↓e_aLen, ↓e_aAllB, ↓e_aTuple, ↓e_aList, ↓e_aAbs, ↓e_aInt, ↓e_aSortI, ↓e_aI3, ↓e_aCons, ↓e_aNil, ↓e_aTup, ↓e_aLst, ↓e_aTst, ↓e_aAnd, ↓e_aOr, ↓e_aNot, ↓e_aAndV, ↓e_aOrV, ↓e_aNotV, ↓e_aIfE, ↓e_aUn, ↓e_aNeg, ↓e_aChain, ↓e_aNext, ↓e_aBrk, ↓e_aCnt, ↓e_aDrop, ↓e_aRet, ↓e_aIfS, ↓e_aAsg, ↓e_aAsgF, ↓e_agN, ↓e_agNil, ↓e_agCons, ↓e_agT, ↓e_aPar, ↓e_aParO, ↓e_aSetI, ↓e_aAugI, ↓e_aAugL, ↓e_aMeth, ↓e_aMeth0, ↓e_amApp, ↓e_amExt, ↓e_amPop, ↓e_amPopAt, ↓e_amIns, ↓e_lget, ↓e_lput, ↓e_frz, ↓e_sqOf, ↓sqD, ↓Sq.ds, ↓e_dOf, ↓e_aCall, ↓e_aCallP, ↓e_aPar3, ↓e_aAugC, ↓e_aAugX, ↓e_aIzip, ↓e_aIrev, ↓e_aIenum, ↓permL, ↓e_aISeq, ↓e_aITup, ↓e_aRng1, ↓e_aRng2, ↓e_aFor, ↓e_aLc, ↓e_aYes, ↓e_aSh, ↓e_aShV, ↓e_aRepr, ↓e_aReprN, ↓wipeS, ↓ends_d, ↓ends_t, ↓ends_n, ↓id, size_val, Nat.zero_le, List.set_cons_zero, List.set_cons_succ, List.getElem?_cons_zero, List.getElem?_cons_succ, List.length_cons, List.length_nil, Option.isSome_some, not_true_eq_false, not_false_eq_true, true_and, and_true, ite_true, ite_false, Bool.false_eq_true, if_true, if_false, Bool.not_true, Bool.not_false, lk_self, lk_ne, at0, at1, at2, at3, at4, ix0, ix1, ix2, sx0, List.map_cons, List.map_nil, List.filterMap_cons, List.filterMap_nil, List.cons_append, List.nil_append, cmp_int, cmp_nil_l, cmp_nil_t, eqD_int, eqD_l00, eqD_l10, eqD_t00, eqD_t10])
local macro_rules | `(tactic| walk_at "gs") => `(tactic| simp (config := { dsimp := false }) only [↓e_aCatS, ↓e_aSlS, ↓e_aStr, ↓e_aEq0, ↓e_aLtT, ↓e_aSortSet, ↓e_aRepT, ↓e_aRevT, ↓e_aIB, ↓e_aStrB, ↓e_aEqL0, ↓e_aLc2, ↓e_aSortRows, ↓e_aTNew, ↓e_aTGet, ↓e_aTGet2, ↓e_aTPut, ↓e_aTItems, ↓e_aTIn, ↓e_aSortT, ↓e_dcTOf, ↓e_aDictT, ↓e_aDcR, ↓e_aOneR, ↓e_aPutI, ↓e_aSetI2, ↓e_aIAny, ↓e_aIsB, ↓e_aSortIt, ↓e_aListRg, ↓e_aLenSetT, ↓e_aSortSc, ↓e_aSortRowsT, ↓e_aLenSetI, ↓e_aParOO, ↓e_aCallX, ↓e_aRaise, ↓e_aTry, ↓e_aIsX, ↓e_aXf, ↓e_aSortRowsD, ↓e_aIenumT, ↓e_aCallPX, ↓e_aRaiseP, ↓e_aSortIT, ↓e_aMk, ↓e_aMkK, ↓e_aMkP, ↓e_aSeq, ↓e_aIsi, ↓e_kdOf, ↓isD, ↓e_aInT, ↓e_aRevL, ↓e_aMaxI, ↓e_aUnpS, ↓e_aLk, ↓e_aDNew, ↓e_aDisp, ↓e_apNil, ↓e_apCons, ↓e_aDGet, ↓e_aDGet2, ↓e_aDIn, ↓e_aDPut, ↓keyD, ↓e_dctOf, ↓e_cget, ↓e_cput, ↓e_aIItems, ↓e_aLItems, ↓e_aDictP, ↓e_aDictEnum, ↓e_aLast, ↓e_aLink, ↓e_aChainN, ↓e_agTL, ↓e_aUnp, ↓e_aVar, ↓e_aC, ↓e_aOp, ↓e_aI0, ↓e_aIC, ↓e_aEq, ↓e_aEqS, ↓e_aIn, ↓e_aIsN, ↓e_aIx, ↓e_aCat, ↓e_aRep, ↓e_aCatT, ↓e_aSl, ↓e_aON, ↓e_aOS, ↓e_aCall1, ↓e_aCall2, ↓e_aLen, ↓e_aAllB, ↓e_aTuple, ↓e_aList, ↓e_aAbs, ↓e_aInt, ↓e_aSortI, ↓e_aI3, ↓e_aCons, ↓e_aNil, ↓e_aTup, ↓e_aLst, ↓e_aTst, ↓e_aAnd, ↓e_aOr, ↓e_aNot, ↓e_aAndV, ↓e_aOrV, ↓e_aNotV, ↓e_aIfE, ↓e_aUn, ↓e_aNeg, ↓e_aChain, ↓e_aNext, ↓e_aBrk, ↓e_aCnt, ↓e_aDrop, ↓e_aRet, ↓e_aIfS, ↓e_aAsg, ↓e_aAsgF, ↓e_agN, ↓e_agNil, ↓e_agCons, ↓e_agT, ↓e_aPar, ↓e_aParO, ↓e_aSetI, ↓e_aAugI, ↓e_aAugL, ↓e_aMeth, ↓e_aMeth0, ↓e_amApp, ↓e_amExt, ↓e_amPop, ↓e_amPopAt, ↓e_amIns, ↓e_lget, ↓e_lput, ↓e_frz, ↓e_sqOf, ↓sqD, ↓Sq.ds, ↓e_dOf, ↓e_aCall, ↓e_aCallP, ↓e_aPar3, ↓e_aAugC, ↓e_aAugX, ↓e_aIzip, ↓e_aIrev, ↓e_aIenum, ↓permL, ↓e_aISeq, ↓e_aITup, ↓e_aRng1, ↓e_aRng2, ↓e_aFor, ↓e_aLc, ↓e_aYes, ↓e_aSh, ↓e_aShV, ↓e_aRepr, ↓e_aReprN, ↓wipeS, ↓ends_d, ↓ends_t, ↓ends_n, ↓id, size_val, Nat.zero_le, List.set_cons_zero, List.set_cons_succ, List.getElem?_cons_zero, List.getElem?_cons_succ, List.length_cons, List.length_nil, Option.isSome_some, not_true_eq_false, not_false_eq_true, true_and, and_true, ite_true, ite_false, Bool.false_eq_true, if_true, if_false, Bool.not_true, Bool.not_false, lk_self, lk_ne, at0, at1, at2, at3, at4, ix0, ix1, ix2, sx0, List.map_cons, List.map_nil, List.filterMap_cons, List.filterMap_nil, List.cons_append, List.nil_append, cmp_int, cmp_nil_l, cmp_nil_t, eqD_int, eqD_l00, eqD_l10, eqD_t00, eqD_t10, Nat.zero_add, Nat.reduceAdd, Nat.reduceSub, Nat.reduceLeDiff, Nat.reduceLT, List.take_succ_cons, List.take_zero, List.drop_succ_cons, List.drop_zero])
local macro_rules | `(tactic| walk_at "gq") => `(tactic| simp (config := { dsimp := false }) only [↓e_aCatS, ↓e_aSlS, ↓e_aStr, ↓e_aEq0, ↓e_aLtT, ↓e_aSortSet, ↓e_aRepT, ↓e_aRevT, ↓e_aIB, ↓e_aStrB, ↓e_aEqL0, ↓e_aLc2, ↓e_aSortRows, ↓e_aTNew, ↓e_aTGet, ↓e_aTGet2, ↓e_aTPut, ↓e_aTItems, ↓e_aTIn, ↓e_aSortT, ↓e_dcTOf, ↓e_aDictT, ↓e_aDcR, ↓e_aOneR, ↓e_aPutI, ↓e_aSetI2, ↓e_aIAny, ↓e_aIsB, ↓e_aSortIt, ↓e_aListRg, ↓e_aLenSetT, ↓e_aSortSc, ↓e_aSortRowsT, ↓e_aLenSetI, ↓e_aParOO, ↓e_aCallX, ↓e_aRaise, ↓e_aTry, ↓e_aIsX, ↓e_aXf, ↓e_aSortRowsD, ↓e_aIenumT, ↓e_aCallPX, ↓e_aRaiseP, ↓e_aSortIT, ↓e_aMk, ↓e_aMkK, ↓e_aMkP, ↓e_aSeq, ↓e_aRevL, ↓e_aMaxI, ↓e_aUnpS, ↓e_aLk, ↓e_aDNew, ↓e_aDisp, ↓e_apNil, ↓e_apCons, ↓e_aDGet, ↓e_aDGet2, ↓e_aDIn, ↓e_aDPut, ↓keyD, ↓e_dctOf, ↓e_cget, ↓e_cput, ↓e_aIItems, ↓e_aLItems, ↓e_aDictP, ↓e_aDictEnum, ↓e_aLast, ↓e_aLink, ↓e_aChainN, ↓e_agTL, ↓e_aUnp, ↓e_aVar, ↓e_aC, ↓e_aOp, ↓e_aI0, ↓e_aIC, ↓e_aEqS, ↓e_aIn, ↓e_aIsN, ↓e_aIx, ↓e_aCat, ↓e_aRep, ↓e_aCatT, ↓e_aSl, ↓e_aON, ↓e_aOS, ↓e_aCall1, ↓e_aCall2, ↓e_aLen, ↓e_aAllB, ↓e_aTuple, ↓e_aList, ↓e_aAbs, ↓e_aInt, ↓e_aSortI, ↓e_aI3, ↓e_aCons, ↓e_aNil, ↓e_aTup, ↓e_aLst, ↓e_aTst, ↓e_aAnd, ↓e_aOr, ↓e_aNot, ↓e_aAndV, ↓e_aOrV, ↓e_aNotV, ↓e_aIfE, ↓e_aUn, ↓e_aNeg, ↓e_aChain, ↓e_aNext, ↓e_aBrk, ↓e_aCnt, ↓e_aDrop, ↓e_aRet, ↓e_aIfS, ↓e_aAsg, ↓e_aAsgF, ↓e_agN, ↓e_agNil, ↓e_agCons, ↓e_agT, ↓e_aPar, ↓e_aParO, ↓e_aSetI, ↓e_aAugI, ↓e_aAugL, ↓e_aMeth, ↓e_aMeth0, ↓e_amApp, ↓e_amExt, ↓e_amPop, ↓e_amPopAt, ↓e_amIns, ↓e_lget, ↓e_lput, ↓e_frz, ↓e_sqOf, ↓sqD, ↓Sq.ds, ↓e_aCall, ↓e_aCallP, ↓e_aPar3, ↓e_aAugC, ↓e_aAugX, ↓e_aIzip, ↓e_aIrev, ↓e_aIenum, ↓permL, ↓e_aISeq, ↓e_aITup, ↓e_aRng1, ↓e_aRng2, ↓e_aFor, ↓e_aLc, ↓e_aYes, ↓e_aSh, ↓e_aShV, ↓wipeS, ↓ends_d, ↓ends_t, ↓ends_n, ↓id, size_val, Nat.zero_le, List.set_cons_zero, List.set_cons_succ, List.getElem?_cons_zero, List.getElem?_cons_succ, List.length_cons, List.length_nil, Option.isSome_some, not_true_eq_false, not_false_eq_true, true_and, and_true, ite_true, ite_false, Bool.false_eq_true, if_true, if_false, Bool.not_true, Bool.not_false, lk_self, lk_ne, at0, at1, at2, at3, at4, ix0, ix1, ix2, sx0, List.map_cons, List.map_nil, List.filterMap_cons, List.filterMap_nil, List.cons_append, List.nil_append, ↓aEq_w, ↓aInT_w, ↓aRepr_w, ↓aReprX_w, ↓aReprN_w, ↓aSortD_w, ↓aIsi_w, ↓hold_ii, ↓hold_bb, decide_true, decide_false, Nat.zero_add, Nat.reduceAdd, Nat.reduceSub, Nat.reduceLeDiff, Nat.reduceLT, List.take_succ_cons, List.take_zero, List.drop_succ_cons, List.drop_zero])
local macro_rules | `(tactic| walk_at "gwx") => `(tactic| simp (config := { dsimp := false }) only [*, ↓e_aCatS, ↓e_aSlS, ↓e_aStr, ↓e_aEq0, ↓e_aLtT, ↓e_aSortSet, ↓e_aRepT, ↓e_aRevT, ↓e_aIB, ↓e_aStrB, ↓e_aEqL0, ↓e_aLc2, ↓e_aSortRows, ↓e_aTNew, ↓e_aTGet, ↓e_aTGet2, ↓e_aTPut, ↓e_aTItems, ↓e_aTIn, ↓e_aSortT, ↓e_dcTOf, ↓e_aDictT, ↓e_aDcR, ↓e_aOneR, ↓e_aPutI, ↓e_aSetI2, ↓e_aIAny, ↓e_aIsB, ↓e_aSortIt, ↓e_aListRg, ↓e_aLenSetT, ↓e_aSortSc, ↓e_aSortRowsT, ↓e_aLenSetI, ↓e_aParOO, ↓e_aCallX, ↓e_aRaise, ↓e_aTry, ↓e_aIsX, ↓e_aXf, ↓e_aSortRowsD, ↓e_aIenumT, ↓e_aCallPX, ↓e_aRaiseP, ↓e_aSortIT, ↓e_aMk, ↓e_aMkK, ↓e_aMkP, ↓e_aSeq, ↓e_aIsi, ↓e_kdOf, ↓isD, ↓e_aInT, ↓e_aRevL, ↓e_aMaxI, ↓e_aUnpS, ↓e_aLk, ↓e_aDNew, ↓e_aDisp, ↓e_apNil, ↓e_apCons, ↓e_aDGet, ↓e_aDGet2, ↓e_aDIn, ↓e_aDPut, ↓keyD, ↓e_dctOf, ↓e_cget, ↓e_cput, ↓e_aIItems, ↓e_aLItems, ↓e_aDictP, ↓e_aDictEnum, ↓e_aLast, ↓e_aLink, ↓e_aChainN, ↓e_agTL, ↓e_aUnp, ↓e_aVar, ↓e_aC, ↓e_aOp, ↓e_aI0, ↓e_aIC, ↓e_aEq, ↓e_aEqS, ↓e_aIn, ↓e_aIsN, ↓e_aIx, ↓e_aCat, ↓e_aRep, ↓e_aCatT, ↓e_aSl, ↓e_aON, ↓e_aOS, ↓e_aCall1, ↓e_aCall2, ↓e_aLen, ↓e_aAllB, ↓e_aTuple, ↓e_aList, ↓e_aAbs, ↓e_aInt, ↓e_aSortI, ↓e_aI3, ↓e_aCons, ↓e_aNil, ↓e_aTup, ↓e_aLst, ↓e_aTst, ↓e_aAnd, ↓e_aOr, ↓e_aNot, ↓e_aAndV, ↓e_aOrV, ↓e_aNotV, ↓e_aIfE, ↓e_aUn, ↓e_aNeg, ↓e_aChain, ↓e_aNext, ↓e_aBrk, ↓e_aCnt, ↓e_aDrop, ↓e_aRet, ↓e_aIfS, ↓e_aAsg, ↓e_aAsgF, ↓e_agN, ↓e_agNil, ↓e_agCons, ↓e_agT, ↓e_aPar, ↓e_aParO, ↓e_aSetI, ↓e_aAugI, ↓e_aAugL, ↓e_aMeth, ↓e_aMeth0, ↓e_amApp, ↓e_amExt, ↓e_amPop, ↓e_amPopAt, ↓e_amIns, ↓e_lget, ↓e_lput, ↓e_frz, ↓e_sqOf, ↓sqD, ↓Sq.ds, ↓e_dOf, ↓e_aCall, ↓e_aCallP, ↓e_aPar3, ↓e_aAugC, ↓e_aAugX, ↓e_aIzip, ↓e_aIrev, ↓e_aIenum, ↓permL, ↓e_aISeq, ↓e_aITup, ↓e_aRng1, ↓e_aRng2, ↓e_aFor, ↓e_aLc, ↓e_aYes, ↓e_aSh, ↓e_aShV, ↓e_aRepr, ↓e_aReprN, ↓wipeS, ↓ends_d, ↓ends_t, ↓ends_n, ↓id, size_val, Nat.zero_le, List.set_cons_zero, List.set_cons_succ, List.getElem?_cons_zero, List.getElem?_cons_succ, List.length_cons, List.length_nil, Option.isSome_some, not_true_eq_false, not_false_eq_true, true_and, and_true, ite_true, ite_false, Bool.false_eq_true, if_true, if_false, Bool.not_true, Bool.not_false, lk_self, lk_ne, at0, at1, at2, at3, at4, ix0, ix1, ix2, sx0, List.map_cons, List.map_nil, List.filterMap_cons, List.filterMap_nil, List.cons_append, List.nil_append, cmp_int, cmp_nil_l, cmp_nil_t, eqD_int, eqD_l00, eqD_l10, eqD_t00, eqD_t10])
local macro_rules | `(tactic| walk_at "gsx") => `(tactic| simp (config := { dsimp := false }) only [*, ↓e_aCatS, ↓e_aSlS, ↓e_aStr, ↓e_aEq0, ↓e_aLtT, ↓e_aSortSet, ↓e_aRepT, ↓e_aRevT, ↓e_aIB, ↓e_aStrB, ↓e_aEqL0, ↓e_aLc2, ↓e_aSortRows, ↓e_aTNew, ↓e_aTGet, ↓e_aTGet2, ↓e_aTPut, ↓e_aTItems, ↓e_aTIn, ↓e_aSortT, ↓e_dcTOf, ↓e_aDictT, ↓e_aDcR, ↓e_aOneR, ↓e_aPutI, ↓e_aSetI2, ↓e_aIAny, ↓e_aIsB, ↓e_aSortIt, ↓e_aListRg, ↓e_aLenSetT, ↓e_aSortSc, ↓e_aSortRowsT, ↓e_aLenSetI, ↓e_aParOO, ↓e_aCallX, ↓e_aRaise, ↓e_aTry, ↓e_aIsX, ↓e_aXf, ↓e_aSortRowsD, ↓e_aIenumT, ↓e_aCallPX, ↓e_aRaiseP, ↓e_aSortIT, ↓e_aMk, ↓e_aMkK, ↓e_aMkP, ↓e_aSeq, ↓e_aIsi, ↓e_kdOf, ↓isD, ↓e_aInT, ↓e_aRevL, ↓e_aMaxI, ↓e_aUnpS, ↓e_aLk, ↓e_aDNew, ↓e_aDisp, ↓e_apNil, ↓e_apCons, ↓e_aDGet, ↓e_aDGet2, ↓e_aDIn, ↓e_aDPut, ↓keyD, ↓e_dctOf, ↓e_cget, ↓e_cput, ↓e_aIItems, ↓e_aLItems, ↓e_aDictP, ↓e_aDictEnum, ↓e_aLast, ↓e_aLink, ↓e_aChainN, ↓e_agTL, ↓e_aUnp, ↓e_aVar, ↓e_aC, ↓e_aOp, ↓e_aI0, ↓e_aIC, ↓e_aEq, ↓e_aEqS, ↓e_aIn, ↓e_aIsN, ↓e_aIx, ↓e_aCat, ↓e_aRep, ↓e_aCatT, ↓e_aSl, ↓e_aON, ↓e_aOS, ↓e_aCall1, ↓e_aCall2, ↓e_aLen, ↓e_aAllB, ↓e_aTuple, ↓e_aList, ↓e_aAbs, ↓e_aInt, ↓e_aSortI, ↓e_aI3, ↓e_aCons, ↓e_aNil, ↓e_aTup, ↓e_aLst, ↓e_aTst, ↓e_aAnd, ↓e_aOr, ↓e_aNot, ↓e_aAndV, ↓e_aOrV, ↓e_aNotV, ↓e_aIfE, ↓e_aUn, ↓e_aNeg, ↓e_aChain, ↓e_aNext, ↓e_aBrk, ↓e_aCnt, ↓e_aDrop, ↓e_aRet, ↓e_aIfS, ↓e_aAsg, ↓e_aAsgF, ↓e_agN, ↓e_agNil, ↓e_agCons, ↓e_agT, ↓e_aPar, ↓e_aParO, ↓e_aSetI, ↓e_aAugI, ↓e_aAugL, ↓e_aMeth, ↓e_aMeth0, ↓e_amApp, ↓e_amExt, ↓e_amPop, ↓e_amPopAt, ↓e_amIns, ↓e_lget, ↓e_lput, ↓e_frz, ↓e_sqOf, ↓sqD, ↓Sq.ds, ↓e_dOf, ↓e_aCall, ↓e_aCallP, ↓e_aPar3, ↓e_aAugC, ↓e_aAugX, ↓e_aIzip, ↓e_aIrev, ↓e_aIenum, ↓permL, ↓e_aISeq, ↓e_aITup, ↓e_aRng1, ↓e_aRng2, ↓e_aFor, ↓e_aLc, ↓e_aYes, ↓e_aSh, ↓e_aShV, ↓e_aRepr, ↓e_aReprN, ↓wipeS, ↓ends_d, ↓ends_t, ↓ends_n, ↓id, size_val, Nat.zero_le, List.set_cons_zero, List.set_cons_succ, List.getElem?_cons_zero, List.getElem?_cons_succ, List.length_cons, List.length_nil, Option.isSome_some, not_true_eq_false, not_false_eq_true, true_and, and_true, ite_true, ite_false, Bool.false_eq_true, if_true, if_false, Bool.not_true, Bool.not_false, lk_self, lk_ne, at0, at1, at2, at3, at4, ix0, ix1, ix2, sx0, List.map_cons, List.map_nil, List.filterMap_cons, List.filterMap_nil, List.cons_append, List.nil_append, cmp_int, cmp_nil_l, cmp_nil_t, eqD_int, eqD_l00, eqD_l10, eqD_t00, eqD_t10, Nat.zero_add, Nat.reduceAdd, Nat.reduceSub, Nat.reduceLeDiff, Nat.reduceLT, List.take_succ_cons, List.take_zero, List.drop_succ_cons, List.drop_zero])
local macro_rules | `(tactic| walk_at "sz") => `(tactic| simp only [Nat.zero_add, Nat.reduceAdd, Nat.reduceLT, Nat.reduceLeDiff, List.length_append, List.length_cons, List.length_nil, true_and, and_true])
/-! ### the drawer: hand, take, pick -/
theorem pw10 : (10 : Int) ^ Int.toNat 40 = 10 ^ 40 := rfl
theorem div_w {i j : Int} (h0 : 0 < j) (h1 : j < 2 ^ 900) : CDivW i j := ⟨h0, by
  have : j.natAbs < 2 ^ 900 := by omega
  have h2 : j.natAbs.log2 < 900 := (Nat.log2_lt (by omega)).mpr this
  omega⟩
theorem mul_w {i j : Int} (h0 : i.natAbs < 2 ^ 2000) (h1 : j.natAbs < 2 ^ 2000) : CM i j := .inr (by
  unfold CMulW
  have l : ∀ n : Nat, n < 2 ^ 2000 → n.log2 < 2000 := fun n h => by
    by_cases e : n = 0
    · subst e; decide
    · exact (Nat.log2_lt e).mpr h
  have := l _ h0
  have := l _ h1
  omega)
theorem rd__law_take : ∀ ds M Q, S__law_take ds M Q → as__law_take (endsOf Q) (slots N__law_take.length ds) M := by
  rintro ds M Q ⟨a, g, s, M0, m, rfl, rfl, ha, hs, m0, m1, h⟩
  show as__law_take (endsOf Q) [.dat _, .dat _, .non] _
  have hm : m ≠ 0 := by omega
  have dv : ∀ i, CDivW i m := fun i => div_w m0 (by omega)
  have put : ∀ c c' : Cell, mput ((a, c) :: M0) a c' = (a, c') :: M0 := fun c c' => mput_self ha
  unfold as__law_take
  unfold HM at h ⊢
  by_cases hg : 0 < g
  · walk_at "gwx"
    simp only [decide_true, if_true]
    refine ⟨hm, ?_⟩
    exact h _ _ _ (fmod_lo m0) (fmod_hi m0) ⟨hs.s0, hs.s1⟩
  · walk_at "gwx"
    simp only [decide_false, Bool.false_eq_true, if_false]
    unfold as__law_take_t1
    walk_at "gwx"
    have q0 := fmod_lo (a := s * 1181783497276652981 + 12345678910987) (b := 2305843009213693951) (by decide)
    have q1 := fmod_hi (a := s * 1181783497276652981 + 12345678910987) (b := 2305843009213693951) (by decide)
    have r0 := fmod_lo (a := (s * 1181783497276652981 + 12345678910987).fmod 2305843009213693951) (b := 65537) (by decide)
    have r1 := fmod_hi (a := (s * 1181783497276652981 + 12345678910987).fmod 2305843009213693951) (b := 65537) (by decide)
    refine ⟨mul_r (by decide) (by decide), by decide, div_ok (by decide) (by decide), by decide, mul_r (by omega) (by omega), by decide, div_ok (by decide) (by decide), hm, ?_⟩
    exact h _ _ _ (fmod_lo m0) (fmod_hi m0) ⟨q0, q1⟩
theorem rd__law_pick : ∀ ds M Q, S__law_pick ds M Q → as__law_pick (endsOf Q) (slots N__law_pick.length ds) M := by
  rintro ds M Q ⟨a, g, s, M0, xs, rfl, rfl, ha, hs, x0, x1, h⟩
  show as__law_pick (endsOf Q) [.dat _, .dat _] _
  unfold as__law_pick
  walk_at "gw"
  refine ⟨a, g, s, M0, _, rfl, rfl, ha, hs, by omega, by omega, ?_⟩
  intro d g' s' d0 d1 hs'
  obtain ⟨x, e1, e2⟩ := atI_in (xs := xs) d0 d1
  walk_at "gwx"
  exact h x g' s' (List.mem_of_getElem? e2) hs'
theorem rd__law_hand : ∀ ds M Q, S__law_hand ds M Q → as__law_hand (endsOf Q) (slots N__law_hand.length ds) M := by
  rintro ds M Q ⟨ns, k, rfl, k0, k1, h⟩
  show as__law_hand (endsOf Q) [.dat _, .dat _, .non, .non] _
  have rest : ∀ c : Int, as__law_hand_t1 (endsOf Q) [.dat (.scr (ns.map .int)), .dat (.int k), .dat (.int c), .non] M := by
    intro c
    unfold as__law_hand_t1
    walk_at "gw"
    refine ⟨by unfold CPowW; decide, by unfold CPowW; decide, by decide, by unfold CPowW; decide, mul_r (by (repeat' split) <;> omega) (by (repeat' split) <;> omega), by decide, mul_l (by decide) (by decide), mul_r (by omega) (by omega), mul_r (by decide) (by decide), by decide, by decide, fun p hp => ?_⟩
    exact h _ _ _ hp ⟨fmod_lo (by decide), fmod_hi (by decide)⟩
  unfold as__law_hand
  walk_at "gw"
  refine ⟨mul_l (by decide) (by decide), ?_⟩
  by_cases hk : k < ((ns.map D.int).length : Int)
  · obtain ⟨d, e1, e2⟩ := atI_in (xs := ns.map D.int) k0 hk
    rw [List.getElem?_map, Option.map_eq_some_iff] at e2
    obtain ⟨c, _, rfl⟩ := e2
    simp only [hk, decide_true, if_true, e1]
    exact rest c
  · simp only [hk, decide_false, Bool.false_eq_true, if_false]
    exact rest _
theorem turns4 (n : Nat) : 0 ≤ (if (if (n : Int) < 4 then (n : Int) else 4) > 1 then if (n : Int) < 4 then (n : Int) else 4 else 1) ∧ (if (if (n : Int) < 4 then (n : Int) else 4) > 1 then if (n : Int) < 4 then (n : Int) else 4 else 1) ≤ 4 := by
  by_cases h : (n : Int) < 4
  · simp only [h, if_true]; split <;> omega
  · simp only [h, if_false]; split <;> omega

/-! ### things that are shown -/
structure Nice (d : D) (k w : Nat) : Prop where
  pl : plainN d = true
  sh : (toPyN d).showable = true
  dep : depN d ≤ k
  wid : widN d ≤ w
theorem Nice.ok {d : D} {k w : Nat} (h : Nice d k w) (hk : k ≤ 90) (hw : w ≤ 16777216) : shOkN d = true := by
  have l1 := dep_pyN d
  have l2 := shown_widN d
  have l3 : sizeLine = 16777216 := size_val
  have := h.dep
  have := h.wid
  simp only [shOkN, Bool.and_eq_true, decide_eq_true_eq]
  exact ⟨⟨⟨h.pl, h.sh⟩, by omega⟩, by omega⟩
theorem nice_int {i : Int} (h0 : -128 < i) (h1 : i < 128) : Nice (.int i) 0 10 := by
  have l : i.natAbs.log2 < 7 := by
    rcases Nat.eq_zero_or_pos i.natAbs with e | e
    · rw [e]; decide
    · exact (Nat.log2_lt (by omega)).mpr (by omega)
  refine ⟨rfl, ?_, Nat.le_refl _, ?_⟩
  · rw [toPyN, PyData.showable]; exact decide_eq_true (by omega)
  · rw [widN]; omega
theorem niceL {k w : Nat} : ∀ {ds : List D}, (∀ d ∈ ds, Nice d k w) → plainNL ds = true ∧ PyData.showableAll (toPyNL ds) = true ∧ depNL ds ≤ k ∧ widNL ds ≤ ds.length * (w + 2)
  | [], _ => ⟨rfl, by rw [toPyNL, PyData.showableAll], Nat.zero_le _, by rw [widNL]; omega⟩
  | d :: ds, h => by
    obtain ⟨a, b, c, e⟩ := niceL fun x hx => h x (List.mem_cons_of_mem _ hx)
    have n := h d List.mem_cons_self
    have := n.dep
    have := n.wid
    refine ⟨by rw [plainNL, n.pl, a]; rfl, by rw [toPyNL, PyData.showableAll, n.sh, b]; rfl, by rw [depNL]; omega, ?_⟩
    rw [widNL, List.length_cons, Nat.succ_mul]
    omega
theorem nice_tup {k w n : Nat} {ds : List D} (h : ∀ d ∈ ds, Nice d k w) (hn : ds.length ≤ n) : Nice (.tup ds) (k + 1) (n * (w + 2) + 3) := by
  obtain ⟨a, b, c, e⟩ := niceL h
  have := Nat.mul_le_mul_right (w + 2) hn
  refine ⟨by rw [plainN]; exact a, by rw [toPyN, PyData.showable]; exact b, by rw [depN]; omega, by rw [widN]; omega⟩
theorem nice_row {r : List Int} {n : Nat} (h : ∀ z ∈ r, -128 < z ∧ z < 128) (hn : r.length ≤ n) : Nice (rowD r) 1 (n * 12 + 3) := nice_tup (fun d hd => by
  obtain ⟨z, hz, rfl⟩ := List.mem_map.mp hd
  exact nice_int (h z hz).1 (h z hz).2) (by rw [List.length_map]; exact hn)
/-! ### what is shown is a text -/
theorem okS_L : ∀ {ds : List D}, (∀ d ∈ ds, PyData.strOk (shDN d) = true) → ∀ t ∈ PyData.shownAll (toPyNL ds), PyData.strOk t = true
  | [], _, t, h => by rw [toPyNL, PyData.shownAll] at h; cases h
  | d :: ds, hs, t, h => by
    rw [toPyNL, PyData.shownAll] at h
    rcases List.mem_cons.mp h with e | e
    · rw [e]; exact hs d List.mem_cons_self
    · exact okS_L (fun x hx => hs x (List.mem_cons_of_mem _ hx)) t e
theorem okS_tup {ds : List D} (h : ∀ d ∈ ds, PyData.strOk (shDN d) = true) : PyData.strOk (shDN (.tup ds)) = true := by
  rw [shDN, toPyN, PyData.shown]
  exact ok_app (ok_app (ok_str _) (ok_join (ok_str _) _ (okS_L h))) (ok_str _)
theorem okS_int (i : Int) : PyData.strOk (shDN (.int i)) = true := by rw [shDN, toPyN, PyData.shown]; exact ok_str _
theorem pair_same {x y : Str} (hx : PyData.strOk x = true) (hy : PyData.strOk y = true) : cmpOk (.tup [.str x, .str y]) = true ∧ eqD (.tup [.str x, .str y]) (.tup [.str x, .str y]) = true :=
  ⟨cmp_of (by simp [safe, safeL, hx, hy]) (by simp [dep, depL]), eqD_refl (by simp [Gw.plain, Gw.plainL])⟩
theorem Nice.mono {d : D} {k w k' w' : Nat} (h : Nice d k w) (hk : k ≤ k') (hw : w ≤ w') : Nice d k' w' := ⟨h.pl, h.sh, Nat.le_trans h.dep hk, Nat.le_trans h.wid hw⟩


theorem rd__law_made : ∀ ds M Q, S__law_made ds M Q → as__law_made (endsOf Q) (slots N__law_made.length ds) M := by
  rintro ds M Q ⟨m, w, o, rfl, h⟩
  show as__law_made (endsOf Q) [.dat _, .dat _, .dat _, .non, .non] _
  unfold as__law_made
  walk_at "gw"
  exact ⟨by decide, by decide, by decide, by decide, by decide, by decide, by decide, by decide, by decide, h⟩
theorem wah_no {R : List Str} {xw : XW} {A : AEnds} {cns : List Str} {i : Option Nat} {as : AS} {r : List AH} {cn : Str} {ns : List Str} {ds : List D} {Γ : Sl} {M : Mem} (h1 : R.contains cn = true) (h2 : isX cns cn = false) (h : wAH R xw A r ⟨cn, ns, ds⟩ Γ M) : wAH R xw A (⟨cns, i, as⟩ :: r) ⟨cn, ns, ds⟩ Γ M := by
  refine ⟨h1, ?_⟩
  rw [show isX (AH.mk cns i as).cns (Xc.mk cn ns ds).cn = false from h2]
  exact h
theorem wah_yes {R : List Str} {xw : XW} {A : AEnds} {cns : List Str} {i : Option Nat} {as : AS} {r : List AH} {cn : Str} {ns : List Str} {ds : List D} {Γ : Sl} {M : Mem} (h1 : R.contains cn = true) (h2 : isX cns cn = true) (h : as (onAsA i A) (toAsA i ⟨cn, ns, ds⟩ Γ) M) : wAH R xw A (⟨cns, i, as⟩ :: r) ⟨cn, ns, ds⟩ Γ M := by
  refine ⟨h1, ?_⟩
  rw [if_pos (show isX (AH.mk cns i as).cns (Xc.mk cn ns ds).cn = true from h2)]
  exact h
theorem rd__law_raised : ∀ ds M Q, S__law_raised ds M Q → as__law_raised (endsOf Q) (slots N__law_raised.length ds) M := by
  rintro ds M Q ⟨i, m, w, rfl, h⟩
  show as__law_raised (endsOf Q) [.dat _, .dat _, .dat _, .non] _
  unfold as__law_raised
  walk_at "gw"
  unfold rsD at h
  by_cases c0 : i = 0
  · simp only [c0, decide_true, if_true] at h ⊢
    refine wah_no (by decide) (by decide) (wah_no (by decide) (by decide) (wah_yes (by decide) (by decide) ?_))
    show as__law_raised_h1 _ [.dat (.int 0), .dat (.int m), .dat (.str w), .dat (.exc "TooGreat" ["word"] [.str w])] M
    unfold as__law_raised_h1
    walk_at "gw"
    refine ⟨by decide, ?_⟩
    rw [show List.lookup ("word" : Str) ((["word"] : List Str).zip [D.str w]) = some (.str w) from by simp [List.lookup]]
    walk_at "gw"
    exact ⟨by decide, h⟩
  · simp only [c0, decide_false, Bool.false_eq_true, if_false] at h ⊢
    by_cases c1 : i = 1
    · simp only [c1, decide_true, if_true] at h ⊢
      refine wah_yes (by decide) (by decide) ?_
      show as__law_raised_h3 _ [.dat (.int 1), .dat (.int m), .dat (.str w), .dat (.exc "NoGate" ["number"] [.int m])] M
      unfold as__law_raised_h3
      walk_at "gw"
      refine ⟨by decide, ?_⟩
      rw [show List.lookup ("number" : Str) ((["number"] : List Str).zip [D.int m]) = some (.int m) from by simp [List.lookup]]
      walk_at "gw"
      exact ⟨by decide, h⟩
    · simp only [c1, decide_false, Bool.false_eq_true, if_false] at h ⊢
      refine wah_no (by decide) (by decide) (wah_yes (by decide) (by decide) ?_)
      show as__law_raised_h2 _ [.dat (.int i), .dat (.int m), .dat (.str w), .dat (.exc "Unclean" ["row", "place"] [.str w, .int m])] M
      unfold as__law_raised_h2
      walk_at "gw"
      refine ⟨by decide, ?_⟩
      rw [show List.lookup ("place" : Str) ((["row", "place"] : List Str).zip [D.str w, .int m]) = some (.int m) from by rfl]
      walk_at "gw"
      refine ⟨by decide, ?_⟩
      rw [show List.lookup ("row" : Str) ((["row", "place"] : List Str).zip [D.str w, .int m]) = some (.str w) from by rfl]
      walk_at "gw"
      exact ⟨by decide, h⟩
/-! ### the classes -/
def flagsOf (cn : Str) : List Bool := exNames.map fun c => isX [c] cn
def famOf (cn : Str) : List Bool := [isX ["Refused"] cn, isX ["Missing"] cn, isX ["Halted"] cn]
def pyOf (cn : Str) : List Bool := [isX ["ValueError"] cn, isX ["LookupError"] cn, isX ["RuntimeError"] cn]
def dueOf (i : Int) : List Bool := [decide (i < 8), decide (8 ≤ i) && decide (i < 11), decide (i = 11)]
def okC (i : Int) (cn : Str) : Bool := exNames.contains cn && (decide (flagsOf cn = (List.range 12).map fun (k : Nat) => decide ((k : Int) = i)) && (decide (famOf cn = dueOf i) && decide (pyOf cn = dueOf i)))
def okL : Int → List Str → Bool
  | _, [] => true
  | i, c :: r => okC i c && okL (i + 1) r
theorem okL_all : okL 0 exNames = true := by decide +kernel
theorem bools_cmp (bs : List Bool) : cmpOk (.lst (bs.map .bl)) = true := by
  refine cmp_of ?_ ?_
  · simp only [safe]
    induction bs with
    | nil => rfl
    | cons b bs ih => rw [List.map_cons, safeL, ih]; rfl
  · simp only [dep]
    have : depL (bs.map .bl) = 0 := by
      induction bs with
      | nil => rfl
      | cons b bs ih => rw [List.map_cons, depL, ih]; rfl
    omega
def eqI (i : Int) : D → D
  | .int k => .bl (decide (k = i))
  | _ => .non
theorem aEq_lst {f : Bool → Bool} {x y : Ret} {bs : List Bool} {Γ : Sl} {M : Mem} {Q : Ret → Sl → Mem → Prop} (hx : dOf x Γ M = some (.lst (bs.map .bl))) (hy : dOf y Γ M = some (.lst (bs.map .bl))) (q : Q (.dat (.bl (f true))) Γ M) : aEq f x y Γ M Q := by
  have pl : Gw.plain (.lst (bs.map .bl)) = true := by
    simp only [Gw.plain]
    clear hx hy
    induction bs with
    | nil => rfl
    | cons b bs ih => rw [List.map_cons, Gw.plainL, ih]; rfl
  unfold aEq
  rw [hx, hy]
  exact ⟨bools_cmp bs, bools_cmp bs, (eqD_refl pl).symm ▸ q⟩
theorem class_turn {A : AEnds} {i : Int} {cn : Str} {ns : List Str} {ds : List D} {s0 s3 s4 s5 s6 s7 : Slot} {M : Mem} (ok : okC i cn = true) (i0 : 0 ≤ i) (i1 : i < 12) (hk : ∀ s3 s4 s5 s6 s7, A.nx [s0, .dat (.int i), .dat (.exc cn ns ds), s3, s4, s5, s6, s7] M) :
    as__law_classes_right_b1 A [s0, .dat (.int i), .dat (.exc cn ns ds), s3, s4, s5, s6, s7] M := by
  simp only [okC, Bool.and_eq_true, decide_eq_true_eq] at ok
  obtain ⟨k1, k2, k3, k4⟩ := ok
  have k1 : (["NoText", "NoKind", "TooGreat", "NoLine", "NoProgram", "NoFit", "Nothing", "NoStep", "NoPlace", "NoGate", "NoStage", "Unclean"] : List Str).contains cn = true := k1
  unfold as__law_classes_right_b1
  walk_at "gq"
  refine ⟨k1, k1, k1, k1, k1, k1, k1, k1, k1, k1, k1, k1, ⟨by decide, by decide⟩, ?_⟩
  refine lcMap (eqI i) (rngD 0 12) [] (by decide) (fun d hd P hP => ?_) ?_
  · obtain ⟨k, _, rfl⟩ := List.mem_map.mp hd
    unfold as__law_classes_right_e1
    walk_at "gw"
    exact hP
  have ea : [] ++ (rngD 0 12).map (eqI i) = (flagsOf cn).map D.bl := by
    rw [k2, List.nil_append, rngD, List.map_map, List.map_map]
    refine List.map_congr_left fun k _ => ?_
    simp [eqI]
  rw [ea]
  refine aEq_lst (bs := flagsOf cn) rfl rfl ?_
  walk_at "gq"
  unfold as__law_classes_right_t1
  walk_at "gq"
  refine ⟨k1, k1, k1, k1, k1, k1, ?_⟩
  by_cases c : 8 ≤ i
  · simp only [c, decide_true, if_true]
    have e : (dueOf i).map D.bl = [.bl (decide (i < 8)), .bl (decide (i < 11)), .bl (decide (i = 11))] := by simp [dueOf, c]
    refine aEq_lst (bs := famOf cn) rfl (by rw [k3, e]; rfl) ?_
    walk_at "gq"
    refine aEq_lst (bs := pyOf cn) rfl (by rw [k4, e]; rfl) ?_
    walk_at "gq"
    exact hk _ _ _ _ _
  · simp only [c, decide_false, Bool.false_eq_true, if_false]
    have e : (dueOf i).map D.bl = [.bl (decide (i < 8)), .bl false, .bl (decide (i = 11))] := by simp [dueOf, c]
    refine aEq_lst (bs := famOf cn) rfl (by rw [k3, e]; rfl) ?_
    walk_at "gq"
    refine aEq_lst (bs := pyOf cn) rfl (by rw [k4, e]; rfl) ?_
    walk_at "gq"
    exact hk _ _ _ _ _
def matchE : List D → List Str → Prop
  | [], [] => True
  | .exc cn _ _ :: ds, c :: cs => cn = c ∧ matchE ds cs
  | _, _ => False
theorem class_loop {A : AEnds} {s0 : Slot} {M : Mem} (hk : ∀ s1 s2 s3 s4 s5 s6 s7, A.nx [s0, s1, s2, s3, s4, s5, s6, s7] M) : ∀ (ds : List D) (cs : List Str) (i : Nat) (s1 s2 s3 s4 s5 s6 s7 : Slot), matchE ds cs → okL i cs = true → i + ds.length ≤ 12 →
    aForL (agT 2 (agCons (agN 1) (agCons (agN 2) agNil))) as__law_classes_right_b1 (enumD i ds) A [s0, s1, s2, s3, s4, s5, s6, s7] M
  | [], _, i, s1, s2, s3, s4, s5, s6, s7, _, _, _ => hk _ _ _ _ _ _ _
  | d :: ds, [], i, s1, s2, s3, s4, s5, s6, s7, hm, ho, i1 => by cases d <;> exact hm.elim
  | d :: ds, c :: cs, i, s1, s2, s3, s4, s5, s6, s7, hm, ho, i1 => by
    cases d with
    | exc cn ns es =>
      obtain ⟨rfl, hm⟩ := hm
      simp only [okL, Bool.and_eq_true] at ho
      rw [List.length_cons] at i1
      rw [enumD]
      unfold aForL
      walk_at "gw"
      refine class_turn ho.1 (by omega) (by omega) fun s3 s4 s5 s6 s7 => ?_
      exact class_loop hk ds cs (i + 1) _ _ _ _ _ _ _ hm ho.2 (by omega)
    | _ => exact hm.elim
theorem rd__law_classes_right : ∀ ds M Q, S__law_classes_right ds M Q → as__law_classes_right (endsOf Q) (slots N__law_classes_right.length ds) M := by
  rintro ds M Q ⟨m, w, o, rfl, h⟩
  show as__law_classes_right (endsOf Q) [.dat _, .non, .non, .non, .non, .non, .non, .non] _
  unfold as__law_classes_right
  walk_at "gw"
  refine class_loop (fun s1 s2 s3 s4 s5 s6 s7 => ?_) (exs m w o) exNames 0 _ _ _ _ _ _ _ ⟨rfl, rfl, rfl, rfl, rfl, rfl, rfl, rfl, rfl, rfl, rfl, rfl, trivial⟩ okL_all (by show 0 + 12 ≤ 12; decide)
  unfold as__law_classes_right_t2
  walk_at "gw"
  exact h
/-! ### the values -/
theorem nice_str {x : Str} {n : Nat} (h1 : (PyData.str x).showable = true) (h2 : (reprText x).length ≤ n) : Nice (.str x) 0 n := ⟨rfl, by rw [toPyN]; exact h1, Nat.le_refl _, by rw [widN]; exact h2⟩
theorem nice_int' {i : Int} (h : i.natAbs ≤ 10 ^ 40) : Nice (.int i) 0 142 := by
  have l : i.natAbs.log2 < 134 := by
    rcases Nat.eq_zero_or_pos i.natAbs with e | e
    · rw [e]; decide
    · exact (Nat.log2_lt (by omega)).mpr (by omega)
  refine ⟨rfl, ?_, Nat.le_refl _, ?_⟩
  · rw [toPyN, PyData.showable]; exact decide_eq_true (by omega)
  · rw [widN]; omega
theorem Drew.nm {m : Int} {w : Str} {o : D} (h : Drew m w o) : Nice (.int m) 1 150 := by
  refine (nice_int' ?_).mono (by decide) (by decide)
  rcases h.m with rfl | rfl | rfl | rfl | rfl <;> decide
theorem Drew.nw {m : Int} {w : Str} {o : D} (h : Drew m w o) : Nice (.str w) 1 150 := by
  refine (nice_str (n := 12) ?_ ?_).mono (by decide) (by decide)
  · rcases h.w with rfl | rfl | rfl | rfl <;> rfl
  · rcases h.w with rfl | rfl | rfl | rfl <;> decide +kernel
theorem Drew.no {m : Int} {w : Str} {o : D} (h : Drew m w o) : Nice o 1 150 := by
  rcases h.o with rfl | rfl | rfl | rfl | rfl | rfl
  · exact ⟨rfl, rfl, by decide, by rw [widN]; decide⟩
  · exact ⟨rfl, rfl, by decide, by rw [widN]; decide⟩
  · exact (nice_row (r := [0, 0, 1]) (n := 3) (by decide) (by decide)).mono (by decide) (by decide)
  · exact (nice_row (r := []) (n := 3) (by decide) (by decide)).mono (by decide) (by decide)
  · have := nice_row (r := [1]) (n := 3) (by decide) (by decide)
    exact ⟨rfl, rfl, by decide, by rw [widN, widNL, widNL, widN]; decide⟩
  · exact (nice_str (n := 12) rfl (by decide +kernel)).mono (by decide) (by decide)
theorem nice_lst {k w n : Nat} {ds : List D} (h : ∀ d ∈ ds, Nice d k w) (hn : ds.length ≤ n) : Nice (.lst ds) (k + 1) (n * (w + 2) + 3) := by
  obtain ⟨a, b, c, e⟩ := niceL h
  have := Nat.mul_le_mul_right (w + 2) hn
  refine ⟨by rw [plainN]; exact a, by rw [toPyN, PyData.showable]; exact b, by rw [depN]; omega, by rw [widN]; omega⟩
theorem aReprN_at {r : Ret} {d : D} {Γ : Sl} {M : Mem} {Q : Ret → Sl → Mem → Prop} (hr : dOf r Γ M = some d) (h : shOkN d = true) (q : Q (.dat (.str (shDN d))) Γ M) : aReprN r Γ M Q := by
  unfold aReprN
  rw [hr]
  exact ⟨h, q⟩
theorem rd__law_values_right : ∀ ds M Q, S__law_values_right ds M Q → as__law_values_right (endsOf Q) (slots N__law_values_right.length ds) M := by
  rintro ds M Q ⟨m, w, o, rfl, dr, h⟩
  show as__law_values_right (endsOf Q) [.dat (.lst (exs m w o)), .dat _, .dat _, .dat _, .non] _
  have ok : shOkN (.lst [.int m, o, .str w, .str w, o, o, .int m, .str w, o, .str w]) = true := by
    refine (nice_lst (n := 10) (k := 1) (w := 150) (fun d hd => ?_) (by simp)).ok (by decide) (by decide)
    simp only [List.mem_cons, List.not_mem_nil, or_false] at hd
    rcases hd with rfl | rfl | rfl | rfl | rfl | rfl | rfl | rfl | rfl | rfl
    all_goals first | exact dr.nm | exact dr.nw | exact dr.no
  have at0 : ∀ (i : Int) (n : Nat) (d : D), i = n → (exs m w o)[n]? = some d → atI (exs m w o) i = some d := fun i n d e h => by
    obtain ⟨hl, _⟩ := List.getElem?_eq_some_iff.mp h
    obtain ⟨x, e1, e2⟩ := atI_in (xs := exs m w o) (i := i) (by omega) (by omega)
    rw [e1, ← e2, ← h, e]; rfl
  have a0 := at0 0 0 (.exc "NoText" ["line"] [.int m]) rfl rfl
  have a1 := at0 1 1 (.exc "NoKind" ["why", "place"] [.str w, o]) rfl rfl
  have a2 := at0 2 2 (.exc "TooGreat" ["word"] [.str w]) rfl rfl
  have a3 := at0 3 3 (.exc "NoLine" ["line"] [o]) rfl rfl
  have a8 := at0 8 8 (.exc "NoPlace" ["place"] [o]) rfl rfl
  have a9 := at0 9 9 (.exc "NoGate" ["number"] [.int m]) rfl rfl
  have a10 := at0 10 10 (.exc "NoStage" ["stage"] [.str w]) rfl rfl
  have a11 := at0 11 11 (.exc "Unclean" ["row", "place"] [.str w, o]) rfl rfl
  have cNoGate : (["NoText", "NoKind", "TooGreat", "NoLine", "NoProgram", "NoFit", "Nothing", "NoStep", "NoPlace", "NoGate", "NoStage", "Unclean"] : List Str).contains "NoGate" = true := by decide
  have cNoKind : (["NoText", "NoKind", "TooGreat", "NoLine", "NoProgram", "NoFit", "Nothing", "NoStep", "NoPlace", "NoGate", "NoStage", "Unclean"] : List Str).contains "NoKind" = true := by decide
  have cNoLine : (["NoText", "NoKind", "TooGreat", "NoLine", "NoProgram", "NoFit", "Nothing", "NoStep", "NoPlace", "NoGate", "NoStage", "Unclean"] : List Str).contains "NoLine" = true := by decide
  have cNoPlace : (["NoText", "NoKind", "TooGreat", "NoLine", "NoProgram", "NoFit", "Nothing", "NoStep", "NoPlace", "NoGate", "NoStage", "Unclean"] : List Str).contains "NoPlace" = true := by decide
  have cNoStage : (["NoText", "NoKind", "TooGreat", "NoLine", "NoProgram", "NoFit", "Nothing", "NoStep", "NoPlace", "NoGate", "NoStage", "Unclean"] : List Str).contains "NoStage" = true := by decide
  have cNoText : (["NoText", "NoKind", "TooGreat", "NoLine", "NoProgram", "NoFit", "Nothing", "NoStep", "NoPlace", "NoGate", "NoStage", "Unclean"] : List Str).contains "NoText" = true := by decide
  have cTooGreat : (["NoText", "NoKind", "TooGreat", "NoLine", "NoProgram", "NoFit", "Nothing", "NoStep", "NoPlace", "NoGate", "NoStage", "Unclean"] : List Str).contains "TooGreat" = true := by decide
  have cUnclean : (["NoText", "NoKind", "TooGreat", "NoLine", "NoProgram", "NoFit", "Nothing", "NoStep", "NoPlace", "NoGate", "NoStage", "Unclean"] : List Str).contains "Unclean" = true := by decide
  have l0 : List.lookup ("line" : Str) ((["line"] : List Str).zip [D.int m]) = some (D.int m) := rfl
  have l1 : List.lookup ("place" : Str) ((["why", "place"] : List Str).zip [D.str w, o]) = some o := rfl
  have l2 : List.lookup ("why" : Str) ((["why", "place"] : List Str).zip [D.str w, o]) = some (D.str w) := rfl
  have l3 : List.lookup ("word" : Str) ((["word"] : List Str).zip [D.str w]) = some (D.str w) := rfl
  have l4 : List.lookup ("line" : Str) ((["line"] : List Str).zip [o]) = some o := rfl
  have l5 : List.lookup ("place" : Str) ((["place"] : List Str).zip [o]) = some o := rfl
  have l6 : List.lookup ("number" : Str) ((["number"] : List Str).zip [D.int m]) = some (D.int m) := rfl
  have l7 : List.lookup ("stage" : Str) ((["stage"] : List Str).zip [D.str w]) = some (D.str w) := rfl
  have l8 : List.lookup ("place" : Str) ((["row", "place"] : List Str).zip [D.str w, o]) = some o := rfl
  have l9 : List.lookup ("row" : Str) ((["row", "place"] : List Str).zip [D.str w, o]) = some (D.str w) := rfl
  unfold as__law_values_right
  walk_at "gq"
  simp only [a0, a1, a2, a3, a8, a9, a10, a11, cNoGate, cNoKind, cNoLine, cNoPlace, cNoStage, cNoText, cTooGreat, cUnclean, l0, l1, l2, l3, l4, l5, l6, l7, l8, l9, true_and]
  refine aReprN_of ok ?_
  walk_at "gq"
  refine aReprN_at rfl ok ?_
  walk_at "gq"
  exact h
/-! ### the law -/
def keptD (p : Int × Str × D) : D := .tup [.lst (exs p.1 p.2.1 p.2.2), .int p.1, .str p.2.1, p.2.2]
theorem all_true {α : Type} : ∀ xs : List α, (xs.map fun _ => true).all id = true
  | [] => rfl
  | _ :: xs => by rw [List.map_cons, List.all_cons, all_true xs]; rfl
theorem rd_law : ∀ ds M Q, S_law ds M Q → as_law (endsOf Q) (slots N_law.length ds) M := by
  rintro ds M Q ⟨ns, rfl, rfl, hl, h⟩
  show as_law (endsOf Q) [.dat _, .non, .non, .non, .non, .non, .non, .non, .non, .non] _
  unfold as_law
  walk_at "gw"
  have t4 := turns4 (ns.map D.int).length
  refine ⟨⟨by omega, by omega⟩, ?_⟩
  refine forR (fun i k Γ M' => ∃ (ps : List (Int × Str × D)) (s2 s3 s4 s5 s6 s7 s8 s9 : Slot), 0 ≤ i ∧ i + k ≤ 4 ∧ ps.length ≤ 2 * i.toNat ∧ (∀ p ∈ ps, Drew p.1 p.2.1 p.2.2) ∧ Γ = [.dat (.scr (ns.map .int)), .own (.lst (ps.map keptD)), s2, s3, s4, s5, s6, s7, s8, s9]) ?_ ?_ _ ⟨[], _, _, _, _, _, _, _, _, by decide, by omega, by simp, by simp, rfl⟩
  · rintro i Γ M' ⟨ps, s2, s3, s4, s5, s6, s7, s8, s9, i0, i1, pl, pd, rfl⟩
    unfold as_law_t3
    walk_at "gw"
    refine lcMapA keptD (fun _ => .bl true) ps [] (by simp; omega) (fun p hp P hP => ?_) ?_
    · unfold as_law_e2
      show agT 4 _ (keptD p) _ _
      unfold keptD
      walk_at "gw"
      refine ⟨p.1, p.2.1, p.2.2, rfl, pd p hp, ?_⟩
      walk_at "gw"
      exact hP
    · walk_at "gw"
      rw [bls_fun (f := fun _ => true)]
      simp only [all_true]
      exact h _
  rintro i k Γ M0 K ⟨ps, s2, s3, s4, s5, s6, s7, s8, s9, i0, i1, pl, pd, rfl⟩ hK
  unfold as_law_b2
  walk_at "gw"
  refine ⟨ns, i, rfl, i0, by omega, ?_⟩
  intro a g s ha o
  walk_at "gw"
  refine ⟨by unfold CPowW; decide, by decide, a, g, s, M0, _, rfl, rfl, ha, o, by decide, by decide, ?_⟩
  intro dm g1 s1 hm o1
  obtain ⟨m, rfl, hm'⟩ : ∃ m : Int, dm = .int m ∧ (m = 0 ∨ m = 1 ∨ m = 599 ∨ m = 10 ^ 40 ∨ m = -1) := by
    simp only [List.mem_cons, List.not_mem_nil, or_false] at hm
    rcases hm with rfl | rfl | rfl | rfl | rfl
    · exact ⟨_, rfl, .inl rfl⟩
    · exact ⟨_, rfl, .inr (.inl rfl)⟩
    · exact ⟨_, rfl, .inr (.inr (.inl rfl))⟩
    · exact ⟨_, rfl, .inr (.inr (.inr (.inl rfl)))⟩
    · exact ⟨_, rfl, .inr (.inr (.inr (.inr rfl)))⟩
  walk_at "gw"
  refine ⟨by decide, a, g1, s1, M0, _, rfl, rfl, ha, o1, by decide, by decide, ?_⟩
  intro dw g2 s2' hw o2
  obtain ⟨w, rfl, hw'⟩ : ∃ w : Str, dw = .str w ∧ (w = "wires" ∨ w = "laid" ∨ w = "" ∨ w = "twice") := by
    simp only [List.mem_cons, List.not_mem_nil, or_false] at hw
    rcases hw with rfl | rfl | rfl | rfl
    · exact ⟨_, rfl, .inl rfl⟩
    · exact ⟨_, rfl, .inr (.inl rfl)⟩
    · exact ⟨_, rfl, .inr (.inr (.inl rfl))⟩
    · exact ⟨_, rfl, .inr (.inr (.inr rfl))⟩
  walk_at "gw"
  refine ⟨by decide, by decide, by decide, by decide, a, g2, s2', M0, _, rfl, rfl, ha, o2, by decide, by decide, ?_⟩
  intro od g3 s3' ho o3
  have ho' : od = .non ∨ od = .bl true ∨ od = .tup [.int 0, .int 0, .int 1] ∨ od = .tup [] ∨ od = .lst [.int 1] ∨ od = .str "x" := by simpa using ho
  have dr : Drew m w od := ⟨hm', hw', ho'⟩
  walk_at "gw"
  refine ⟨m, w, od, rfl, ?_⟩
  walk_at "gw"
  refine forA (fun _ : Unit => D.lst (exs m w od)) (fun dn ls Γ M => ∃ (qs : List (Int × Str × D)) (s5 : Slot), qs.length + ls.length = ps.length + 2 ∧ (∀ p ∈ qs, Drew p.1 p.2.1 p.2.2) ∧ Γ = [.dat (.scr (ns.map .int)), .own (.lst (qs.map keptD)), .dat (.int i), .dat (.ref a), .dat od, s5, s6, .dat (.int m), .dat (.str w), s9]) ?_ ?_ [(), ()] [] ⟨ps, _, rfl, pd, rfl⟩
  · rintro _ Γ M' ⟨qs, t5, ql, qd, rfl⟩
    unfold as_law_t2
    walk_at "gw"
    refine ⟨⟨by decide, by decide⟩, ?_⟩
    refine lcMap (fun d => match d with | .int j => rsD j m w | _ => .non) (rngD 0 3) [] (by decide) (fun d hd P hP => ?_) ?_
    · obtain ⟨j, _, rfl⟩ := List.mem_map.mp hd
      unfold as_law_e1
      walk_at "gw"
      refine ⟨_, m, w, rfl, ?_⟩
      have : frz (.dat (rsD (0 + (j : Int)) m w)) [.dat (.scr (ns.map .int)), .own (.lst (qs.map keptD)), .dat (.int i), .dat (.ref a), .dat od, t5, s6, .dat (.int m), .dat (.str w), .dat (.int (0 + (j : Int)))] (fun y Γ4 => P y (wipeS Γ4 [9]) M') := by
        walk_at "gw"
        exact hP
      exact this
    · walk_at "gw"
      have sw : PyData.strOk w = true := by rcases hw' with rfl | rfl | rfl | rfl <;> exact ok_str _
      have el : (rngD 0 3).map (fun d => match d with | .int j => rsD j m w | _ => .non) = [.tup [.str "refused", .str w], .tup [.str "missing", .int m], .tup [.str "halted", .int m, .str w]] := rfl
      rw [el]
      have c : cmpOk (.lst [.tup [.str "refused", .str w], .tup [.str "missing", .int m], .tup [.str "halted", .int m, .str w]]) = true := cmp_of (by simp [safe, safeL, sw, ok_str]) (by simp [dep, depL])
      have e : eqD (.lst [.tup [.str "refused", .str w], .tup [.str "missing", .int m], .tup [.str "halted", .int m, .str w]]) (.lst [.tup [.str "refused", .str w], .tup [.str "missing", .int m], .tup [.str "halted", .int m, .str w]]) = true := eqD_refl (by simp [Gw.plain, Gw.plainL])
      rw [e]
      refine ⟨by decide, by decide, by decide, by decide, c, c, ?_⟩
      exact hK _ _ ⟨qs, _, _, _, _, _, _, _, _, by omega, by omega, by simp at ql; omega, qd, rfl⟩
  · rintro dn x ls Γ M' K' ⟨qs, t5, ql, qd, rfl⟩ hK'
    rw [List.length_cons] at ql
    unfold as_law_b1
    walk_at "gw"
    refine ⟨m, w, od, rfl, ?_⟩
    walk_at "gw"
    unfold as_law_t1
    walk_at "gw"
    refine ⟨by decide, by rw [List.length_map]; omega, hK' _ _ ⟨qs ++ [(m, w, od)], _, by rw [List.length_append, List.length_singleton]; omega, fun p hp => ?_, by rw [List.map_append]; rfl⟩⟩
    rcases List.mem_append.mp hp with hp | hp
    · exact qd p hp
    · rw [List.mem_singleton.mp hp]; exact dr

open PyProof.Rows
/-! ### the walks (printed by gen.py) -/
structure Txt (K : PySem.W.Frag) (mg : Str → Option Value) : Prop where
  len : mg "len" = none
  abs : mg "abs" = none
  int : mg "int" = none
  repr : mg "repr" = none
  enumerate : mg "enumerate" = none
  isinstance : mg "isinstance" = none
  range : mg "range" = none
  max : mg "max" = none
  min : mg "min" = none
  all : mg "all" = none
section
variable {P : Program} {w : World} {K : PySem.W.Frag} {mg : Str → Option Value} {base : Heap}
theorem sc__law_hand : FnScope N__law_hand ["_law_script", "_law_k"] (defScope s__law_hand) := ⟨rfl, rfl, rfl, by decide +kernel, rfl, by decide +kernel, by decide +kernel⟩
theorem walk__law_hand (T : Txt K mg) {f : Addr} {cd : Value} {A : Around} {outer : List Env} {s : Shared} {H : Hp} {E : XK} {ρ : Ent} (hr : Room 0 (A.deeper (envOfC "_law_hand" (defScope s__law_hand) s.heap.objs.size f cd))) (gd : A.guards = some []) :
    ∃ ts, QSs (cxOf CX0 P w K mg base N__law_hand "_law_hand" (defScope s__law_hand) f cd A outer s H E).nox ρ (defBody s__law_hand) ts as__law_hand := ⟨_, (qss_cons (qs_setF 2 sc__law_hand.nd (q_add (q_mul q_int (qv 1)) (q_len T.len (qv 0))))
    (qss_cons (qs_if (qt_cmp c_lt (qv 1) (q_len T.len (qv 0))) (qss_one (qs_setF 2 sc__law_hand.nd (q_ixS (qv 0) (qv 1)))) qss_nil)
    (qss_cons (qs_setF 3 sc__law_hand.nd (q_mul (q_mod (q_abs T.abs (qv 2)) (q_powW (q_powW q_int q_int) q_int)) (q_intB T.int (q_cmp c_ge (q_abs T.abs (qv 2)) (q_powW q_int q_int)))))
    (qss_one (qs_ret (q_sh (q_lst (qa_cons (qv 3) (qa_cons (q_mod (q_mul (q_add (q_add (q_mod (qv 2) q_int) (q_mul (q_mul q_int (qv 1)) (qv 1))) q_int) q_int) q_int) qa_nil)))))))))⟩
theorem sc__law_take : FnScope N__law_take ["_law_hand_here", "_law_many"] (defScope s__law_take) := ⟨rfl, rfl, rfl, by decide +kernel, rfl, by decide +kernel, by decide +kernel⟩
theorem walk__law_take (T : Txt K mg) {f : Addr} {cd : Value} {A : Around} {outer : List Env} {s : Shared} {H : Hp} {E : XK} {ρ : Ent} (hr : Room 0 (A.deeper (envOfC "_law_take" (defScope s__law_take) s.heap.objs.size f cd))) (gd : A.guards = some []) :
    ∃ ts, QSs (cxOf CX0 P w K mg base N__law_take "_law_take" (defScope s__law_take) f cd A outer s H E).nox ρ (defBody s__law_take) ts as__law_take := ⟨_, (qss_cons (qs_if (qt_cmp c_gt (q_ixS (qv 0) q_int) q_int) (qss_cons (qs_setF 2 sc__law_take.nd (q_mod (q_ixS (qv 0) q_int) (qv 1)))
    (qss_cons (qs_setI (q_div (q_ixS (qv 0) q_int) (qv 1)) (qv 0) q_int)
    (qss_one (qs_ret (qv 2))))) qss_nil)
    (qss_cons (qs_setI (q_mod (q_add (q_mul (q_ixS (qv 0) q_int) q_int) q_int) q_int) (qv 0) q_int)
    (qss_one (qs_ret (q_mod (q_div (q_mod (q_mul (q_div (q_ixS (qv 0) q_int) q_int) (q_add (q_mod (q_ixS (qv 0) q_int) q_int) q_int)) q_int) q_int) (qv 1))))))⟩
theorem sc__law_pick : FnScope N__law_pick ["_law_hand_here", "_law_some"] (defScope s__law_pick) := ⟨rfl, rfl, rfl, by decide +kernel, rfl, by decide +kernel, by decide +kernel⟩
theorem walk__law_pick (T : Txt K mg) (c__law_take : Cal P w K mg base "_law_take" ["_law_hand_here", "_law_many"] 1 S__law_take) {f : Addr} {cd : Value} {A : Around} {outer : List Env} {s : Shared} {H : Hp} {E : XK} {ρ : Ent} (hr : Room 1 (A.deeper (envOfC "_law_pick" (defScope s__law_pick) s.heap.objs.size f cd))) (gd : A.guards = some []) :
    ∃ ts, QSs (cxOf CX0 P w K mg base N__law_pick "_law_pick" (defScope s__law_pick) f cd A outer s H E).nox ρ (defBody s__law_pick) ts as__law_pick := ⟨_, (qss_one (qs_ret (q_ixS (qv 1) (q_callC c__law_take (hr.mono (by decide)) gd (qa_cons (qv 0) (qa_cons (q_len T.len (qv 1)) qa_nil))))))⟩
theorem sc__law_made : FnScope N__law_made ["_law_many", "_law_whom", "_law_odd"] (defScope s__law_made) := ⟨rfl, rfl, rfl, by decide +kernel, rfl, by decide +kernel, by decide +kernel⟩
theorem walk__law_made (T : Txt K mg) (x_NoLine : Xcl P w K mg base "NoLine" ["line"] 1) (x_TooGreat : Xcl P w K mg base "TooGreat" ["word"] 1) (x_NoKind : Xcl P w K mg base "NoKind" ["place", "why"] 1) (x_NoText : Xcl P w K mg base "NoText" ["line"] 1) (x_Unclean : Xcl P w K mg base "Unclean" ["place", "row"] 1) (x_NoStage : Xcl P w K mg base "NoStage" ["stage"] 1) (x_NoGate : Xcl P w K mg base "NoGate" ["number"] 1) (x_NoPlace : Xcl P w K mg base "NoPlace" ["place"] 1) (k_NoLine_line : XclK P w K mg base "NoLine" ["line"] ["line"] [0] 1) (k_TooGreat_word : XclK P w K mg base "TooGreat" ["word"] ["word"] [0] 1) (k_NoKind_why_place : XclK P w K mg base "NoKind" ["place", "why"] ["why", "place"] [1, 0] 1) (k_NoText_line : XclK P w K mg base "NoText" ["line"] ["line"] [0] 1) (k_NoGate_number : XclK P w K mg base "NoGate" ["number"] ["number"] [0] 1) (k_NoPlace_place : XclK P w K mg base "NoPlace" ["place"] ["place"] [0] 1) (k_Unclean_row_place : XclK P w K mg base "Unclean" ["place", "row"] ["row", "place"] [1, 0] 1) (k_NoStage_stage : XclK P w K mg base "NoStage" ["stage"] ["stage"] [0] 1) (y_Nothing : XclP K "Nothing") (y_NoFit : XclP K "NoFit") (y_NoProgram : XclP K "NoProgram") (y_NoStep : XclP K "NoStep") (ag : Agr K mg) {f : Addr} {cd : Value} {A : Around} {outer : List Env} {s : Shared} {H : Hp} {E : XK} {ρ : Ent} (hr : Room 2 (A.deeper (envOfC "_law_made" (defScope s__law_made) s.heap.objs.size f cd))) (gd : A.guards = some []) :
    ∃ ts, QSs (cxOf CX0 P w K mg base N__law_made "_law_made" (defScope s__law_made) f cd A outer s H E).nox ρ (defBody s__law_made) ts as__law_made := ⟨_, (qss_cons (qs_setF 3 sc__law_made.nd (q_lst (qa_cons (q_mk x_NoText ag (hr.mono (by decide)) (qa_cons (qv 0) qa_nil)) (qa_cons (q_mk x_NoKind ag (hr.mono (by decide)) (qa_cons (qv 2) (qa_cons (qv 1) qa_nil))) (qa_cons (q_mk x_TooGreat ag (hr.mono (by decide)) (qa_cons (qv 1) qa_nil)) (qa_cons (q_mk x_NoLine ag (hr.mono (by decide)) (qa_cons (qv 2) qa_nil)) (qa_cons (q_mkP y_NoProgram ag q_str) (qa_cons (q_mkP y_NoFit ag q_str) (qa_cons (q_mkP y_Nothing ag q_str) qa_nil)))))))))
    (qss_cons (qs_setF 3 sc__law_made.nd (q_cat (qv 3) (q_lst (qa_cons (q_mkP y_NoStep ag q_str) (qa_cons (q_mk x_NoPlace ag (hr.mono (by decide)) (qa_cons (qv 2) qa_nil)) (qa_cons (q_mk x_NoGate ag (hr.mono (by decide)) (qa_cons (qv 0) qa_nil)) (qa_cons (q_mk x_NoStage ag (hr.mono (by decide)) (qa_cons (qv 1) qa_nil)) (qa_cons (q_mk x_Unclean ag (hr.mono (by decide)) (qa_cons (qv 2) (qa_cons (qv 1) qa_nil))) qa_nil))))))))
    (qss_cons (qs_setF 4 sc__law_made.nd (q_lst (qa_cons (q_mkK k_NoText_line ag (hr.mono (by decide)) (qk_cons (qv 0) qk_nil)) (qa_cons (q_mkK k_NoKind_why_place ag (hr.mono (by decide)) (qk_cons (qv 1) (qk_cons (qv 2) qk_nil))) (qa_cons (q_mkK k_TooGreat_word ag (hr.mono (by decide)) (qk_cons (qv 1) qk_nil)) (qa_cons (q_mkK k_NoLine_line ag (hr.mono (by decide)) (qk_cons (qv 2) qk_nil)) (qa_cons (q_mkP y_NoProgram ag q_str) qa_nil)))))))
    (qss_cons (qs_setF 4 sc__law_made.nd (q_cat (qv 4) (q_lst (qa_cons (q_mkP y_NoFit ag q_str) (qa_cons (q_mkP y_Nothing ag q_str) (qa_cons (q_mkP y_NoStep ag q_str) (qa_cons (q_mkK k_NoPlace_place ag (hr.mono (by decide)) (qk_cons (qv 2) qk_nil)) (qa_cons (q_mkK k_NoGate_number ag (hr.mono (by decide)) (qk_cons (qv 0) qk_nil)) qa_nil))))))))
    (qss_one (qs_ret (q_tup (qa_cons (qv 3) (qa_cons (q_cat (qv 4) (q_lst (qa_cons (q_mkK k_NoStage_stage ag (hr.mono (by decide)) (qk_cons (qv 1) qk_nil)) (qa_cons (q_mkK k_Unclean_row_place ag (hr.mono (by decide)) (qk_cons (qv 1) (qk_cons (qv 2) qk_nil))) qa_nil)))) qa_nil)))))))))⟩
theorem sc__law_values_right : FnScope N__law_values_right ["_law_some", "_law_many", "_law_whom", "_law_odd"] (defScope s__law_values_right) := ⟨rfl, rfl, rfl, by decide +kernel, rfl, by decide +kernel, by decide +kernel⟩
theorem walk__law_values_right (T : Txt K mg) (XT : XTab K ["NoText", "NoKind", "TooGreat", "NoLine", "NoProgram", "NoFit", "Nothing", "NoStep", "NoPlace", "NoGate", "NoStage", "Unclean"] ["NoText", "NoKind", "TooGreat", "NoLine", "NoProgram", "NoFit", "Nothing", "NoStep", "NoPlace", "NoGate", "NoStage", "Unclean", "Refused", "Missing", "Halted", "ValueError", "LookupError", "RuntimeError"] ["line", "place", "why", "word", "number", "stage", "row"]) (ag : Agr K mg) {f : Addr} {cd : Value} {A : Around} {outer : List Env} {s : Shared} {H : Hp} {E : XK} {ρ : Ent} (hr : Room 0 (A.deeper (envOfC "_law_values_right" (defScope s__law_values_right) s.heap.objs.size f cd))) (gd : A.guards = some []) :
    ∃ ts, QSs (cxOf CX0 P w K mg base N__law_values_right "_law_values_right" (defScope s__law_values_right) f cd A outer s H E).nox ρ (defBody s__law_values_right) ts as__law_values_right := ⟨_, (qss_cons (qs_setF 4 sc__law_values_right.nd (q_lst (qa_cons (q_xf XT (q_ixS (qv 0) q_int)) (qa_cons (q_xf XT (q_ixS (qv 0) q_int)) (qa_cons (q_xf XT (q_ixS (qv 0) q_int)) (qa_cons (q_xf XT (q_ixS (qv 0) q_int)) (qa_cons (q_xf XT (q_ixS (qv 0) q_int)) (qa_cons (q_xf XT (q_ixS (qv 0) q_int)) (qa_cons (q_xf XT (q_ixS (qv 0) q_int)) qa_nil)))))))))
    (qss_cons (qs_setF 4 sc__law_values_right.nd (q_cat (qv 4) (q_lst (qa_cons (q_xf XT (q_ixS (qv 0) q_int)) (qa_cons (q_xf XT (q_ixS (qv 0) q_int)) (qa_cons (q_xf XT (q_ixS (qv 0) q_int)) qa_nil))))))
    (qss_one (qs_ret (q_cmp c_eqS (q_reprN gd (hu_big hr) T.repr (qv 4)) (q_reprN gd (hu_big hr) T.repr (q_lst (qa_cons (qv 1) (qa_cons (qv 3) (qa_cons (qv 2) (qa_cons (qv 2) (qa_cons (qv 3) (qa_cons (qv 3) (qa_cons (qv 1) (qa_cons (qv 2) (qa_cons (qv 3) (qa_cons (qv 2) qa_nil)))))))))))))))))⟩
theorem sc__law_classes_right : FnScope N__law_classes_right ["_law_some"] (defScope s__law_classes_right) := ⟨rfl, rfl, rfl, by decide +kernel, rfl, by decide +kernel, by decide +kernel⟩
theorem walk__law_classes_right (T : Txt K mg) (XT : XTab K ["NoText", "NoKind", "TooGreat", "NoLine", "NoProgram", "NoFit", "Nothing", "NoStep", "NoPlace", "NoGate", "NoStage", "Unclean"] ["NoText", "NoKind", "TooGreat", "NoLine", "NoProgram", "NoFit", "Nothing", "NoStep", "NoPlace", "NoGate", "NoStage", "Unclean", "Refused", "Missing", "Halted", "ValueError", "LookupError", "RuntimeError"] ["line", "place", "why", "word", "number", "stage", "row"]) (ag : Agr K mg) {f : Addr} {cd : Value} {A : Around} {outer : List Env} {s : Shared} {H : Hp} {E : XK} {ρ : Ent} (hr : Room 0 (A.deeper (envOfC "_law_classes_right" (defScope s__law_classes_right) s.heap.objs.size f cd))) (gd : A.guards = some []) :
    ∃ ts, QSs (cxOf CX0 P w K mg base N__law_classes_right "_law_classes_right" (defScope s__law_classes_right) f cd A outer s H E).nox ρ (defBody s__law_classes_right) ts as__law_classes_right := ⟨_, (qss_cons (qs_for (qi_enumL T.enumerate (qa_cons (qv 0) qa_nil)) (qg_tup (qgs_cons (qg_name 1 sc__law_classes_right.nd) (qgs_cons (qg_name 2 sc__law_classes_right.nd) qgs_nil))) (qss_cons (qs_setF 3 sc__law_classes_right.nd (q_lst (qa_cons (q_isX1 XT ag T.isinstance (qv 2)) (qa_cons (q_isX1 XT ag T.isinstance (qv 2)) (qa_cons (q_isX1 XT ag T.isinstance (qv 2)) qa_nil)))))
    (qss_cons (qs_setF 3 sc__law_classes_right.nd (q_cat (qv 3) (q_lst (qa_cons (q_isX1 XT ag T.isinstance (qv 2)) (qa_cons (q_isX1 XT ag T.isinstance (qv 2)) (qa_cons (q_isX1 XT ag T.isinstance (qv 2)) qa_nil))))))
    (qss_cons (qs_setF 3 sc__law_classes_right.nd (q_cat (qv 3) (q_lst (qa_cons (q_isX1 XT ag T.isinstance (qv 2)) (qa_cons (q_isX1 XT ag T.isinstance (qv 2)) (qa_cons (q_isX1 XT ag T.isinstance (qv 2)) qa_nil))))))
    (qss_cons (qs_setF 3 sc__law_classes_right.nd (q_cat (qv 3) (q_lst (qa_cons (q_isX1 XT ag T.isinstance (qv 2)) (qa_cons (q_isX1 XT ag T.isinstance (qv 2)) (qa_cons (q_isX1 XT ag T.isinstance (qv 2)) qa_nil))))))
    (qss_cons (qs_if (qt_cmp (c_ne hr.units) (qv 3) (q_comp (own := [("_law_k", 7)]) sc__law_classes_right.nd (qi_range1 T.range (qa_cons q_int qa_nil)) (blkOk_by (own := [("_law_k", 7)]) (N := N__law_classes_right) (sc := defScope s__law_classes_right) (by decide +kernel)) (fun _ _ _ _ _ => (qg_name 7 sc__law_classes_right.nd)) (fun _ _ _ _ _ => qts_nil) (fun _ _ _ _ _ => (q_cmp (c_eq hr.units) (qv 7) (qv 1))) s)) (qss_one (qs_ret q_bl)) qss_nil)
    (qss_cons (qs_setF 4 sc__law_classes_right.nd (q_lst (qa_cons (q_isX1 XT ag T.isinstance (qv 2)) (qa_cons (q_isX1 XT ag T.isinstance (qv 2)) (qa_cons (q_isX1 XT ag T.isinstance (qv 2)) qa_nil)))))
    (qss_cons (qs_setF 5 sc__law_classes_right.nd (q_lst (qa_cons (q_isX1 XT ag T.isinstance (qv 2)) (qa_cons (q_isX1 XT ag T.isinstance (qv 2)) (qa_cons (q_isX1 XT ag T.isinstance (qv 2)) qa_nil)))))
    (qss_cons (qs_setF 6 sc__law_classes_right.nd (q_lst (qa_cons (q_cmp c_lt (qv 1) q_int) (qa_cons (q_chain c_le c_lt q_int (qv 1) q_int) (qa_cons (q_cmp (c_eq hr.units) (qv 1) q_int) qa_nil)))))
    (qss_one (qs_if (QW.qt (qw_or (qt_cmp (c_ne hr.units) (qv 4) (qv 6)) (qw_or1 (qt_cmp (c_ne hr.units) (qv 5) (qv 6))))) (qss_one (qs_ret q_bl)) qss_nil)))))))))))
    (qss_one (qs_ret q_bl)))⟩
theorem sc__law_raised : FnScope N__law_raised ["_law_which", "_law_many", "_law_whom"] (defScope s__law_raised) := ⟨rfl, rfl, rfl, by decide +kernel, rfl, by decide +kernel, by decide +kernel⟩
theorem walk__law_raised (T : Txt K mg) (x_TooGreat : Xcl P w K mg base "TooGreat" ["word"] 1) (x_NoGate : Xcl P w K mg base "NoGate" ["number"] 1) (x_Unclean : Xcl P w K mg base "Unclean" ["place", "row"] 1) (XT : XTab K ["NoText", "NoKind", "TooGreat", "NoLine", "NoProgram", "NoFit", "Nothing", "NoStep", "NoPlace", "NoGate", "NoStage", "Unclean"] ["NoText", "NoKind", "TooGreat", "NoLine", "NoProgram", "NoFit", "Nothing", "NoStep", "NoPlace", "NoGate", "NoStage", "Unclean", "Refused", "Missing", "Halted", "ValueError", "LookupError", "RuntimeError"] ["line", "place", "why", "word", "number", "stage", "row"]) (ag : Agr K mg) {f : Addr} {cd : Value} {A : Around} {outer : List Env} {s : Shared} {H : Hp} {E : XK} {ρ : Ent} (hr : Room 2 (A.deeper (envOfC "_law_raised" (defScope s__law_raised) s.heap.objs.size f cd))) (gd : A.guards = some []) :
    ∃ ts, QSs (cxOf CX0 P w K mg base N__law_raised "_law_raised" (defScope s__law_raised) f cd A outer s H E).nox ρ (defBody s__law_raised) ts as__law_raised := ⟨_, (qss_one (qs_try (xw := fun _ _ _ => False) XT takes_none5 (fun _ _ _ _ _ _ _ _ _ _ _ z => z.elim) (fun ρ' W' xw' pn xe tk' po' cn' => (qss_cons (qs_if (qt_cmp (c_eq hr.units) (qv 0) q_int) (qss_one (q_raise x_TooGreat ag tk' cn' (hr.mono (by decide)) (qa_cons (qv 2) qa_nil))) qss_nil)
    (qss_cons (qs_if (qt_cmp (c_eq hr.units) (qv 0) q_int) (qss_one (q_raise x_NoGate ag tk' cn' (hr.mono (by decide)) (qa_cons (qv 1) qa_nil))) qss_nil)
    (qss_one (q_raise x_Unclean ag tk' cn' (hr.mono (by decide)) (qa_cons (qv 1) (qa_cons (qv 2) qa_nil))))))) (.as (cns := ["Missing"]) (i := 3) (.one (cls_names ag XT (by decide) rfl (by decide) (by decide))) (by decide) sc__law_raised.nd rfl rfl (fun _ => (qss_one (qs_ret (q_tup (qa_cons q_str (qa_cons (q_xf XT (qv 3)) qa_nil)))))) (.as (cns := ["Halted"]) (i := 3) (.one (cls_names ag XT (by decide) rfl (by decide) (by decide))) (by decide) sc__law_raised.nd rfl rfl (fun _ => (qss_one (qs_ret (q_tup (qa_cons q_str (qa_cons (q_xf XT (qv 3)) (qa_cons (q_xf XT (qv 3)) qa_nil))))))) (.as (cns := ["Refused"]) (i := 3) (.one (cls_names ag XT (by decide) rfl (by decide) (by decide))) (by decide) sc__law_raised.nd rfl rfl (fun _ => (qss_one (qs_ret (q_tup (qa_cons q_str (qa_cons (q_xf XT (qv 3)) qa_nil)))))) .nil)))))⟩
theorem sc_law : FnScope N_law ["_law_script"] (defScope s_law) := ⟨rfl, rfl, rfl, by decide +kernel, rfl, by decide +kernel, by decide +kernel⟩
theorem walk_law (T : Txt K mg) (c__law_hand : Cal P w K mg base "_law_hand" ["_law_script", "_law_k"] 1 S__law_hand) (c__law_pick : Cal P w K mg base "_law_pick" ["_law_hand_here", "_law_some"] 2 S__law_pick) (c__law_made : Cal P w K mg base "_law_made" ["_law_many", "_law_whom", "_law_odd"] 3 S__law_made) (c__law_classes_right : Cal P w K mg base "_law_classes_right" ["_law_some"] 1 S__law_classes_right) (c__law_raised : Cal P w K mg base "_law_raised" ["_law_which", "_law_many", "_law_whom"] 3 S__law_raised) (c__law_values_right : Cal P w K mg base "_law_values_right" ["_law_some", "_law_many", "_law_whom", "_law_odd"] 1 S__law_values_right) {f : Addr} {cd : Value} {A : Around} {outer : List Env} {s : Shared} {H : Hp} {E : XK} {ρ : Ent} (hr : Room 3 (A.deeper (envOfC "law" (defScope s_law) s.heap.objs.size f cd))) (gd : A.guards = some []) :
    ∃ ts, QSs (cxOf CX0 P w K mg base N_law "law" (defScope s_law) f cd A outer s H E).nox ρ (defBody s_law) ts as_law := ⟨_, (qss_cons (qs_set 1 sc_law.nd (q_lst qa_nil))
    (qss_cons (qs_for (qi_range1 T.range (qa_cons (q_max2 T.max q_int (q_min2 T.min q_int (q_len T.len (qv 0)))) qa_nil)) (qg_name 2 sc_law.nd) (qss_cons (qs_setF 3 sc_law.nd (q_callC c__law_hand (hr.mono (by decide)) gd (qa_cons (qv 0) (qa_cons (qv 2) qa_nil))))
    (qss_cons (qs_unp (q_tup (qa_cons (q_callC c__law_pick (hr.mono (by decide)) gd (qa_cons (qv 3) (qa_cons (q_lst (qa_cons q_int (qa_cons q_int (qa_cons q_int (qa_cons (q_powW q_int q_int) (qa_cons (q_neg q_int) qa_nil)))))) qa_nil))) (qa_cons (q_callC c__law_pick (hr.mono (by decide)) gd (qa_cons (qv 3) (qa_cons (q_lst (qa_cons q_str (qa_cons q_str (qa_cons q_str (qa_cons q_str qa_nil))))) qa_nil))) qa_nil))) (qg_tup (qgs_cons (qg_name 7 sc_law.nd) (qgs_cons (qg_name 8 sc_law.nd) qgs_nil))))
    (qss_cons (qs_setF 4 sc_law.nd (q_callC c__law_pick (hr.mono (by decide)) gd (qa_cons (qv 3) (qa_cons (q_lst (qa_cons q_non (qa_cons q_bl (qa_cons (q_tup (qa_cons q_int (qa_cons q_int (qa_cons q_int qa_nil)))) (qa_cons (q_tup qa_nil) (qa_cons (q_lst (qa_cons q_int qa_nil)) (qa_cons q_str qa_nil))))))) qa_nil))))
    (qss_cons (qs_for (qi_tup (q_callC c__law_made (hr.mono (by decide)) gd (qa_cons (qv 7) (qa_cons (qv 8) (qa_cons (qv 4) qa_nil))))) (qg_name 5 sc_law.nd) (qss_cons (qs_if (qt_not (qt_val (q_callC c__law_classes_right (hr.mono (by decide)) gd (qa_cons (qv 5) qa_nil)))) (qss_one (qs_ret q_bl)) qss_nil)
    (qss_one (qs_expr (q_append (qv 1) (qa_cons (q_tup (qa_cons (qv 5) (qa_cons (qv 7) (qa_cons (qv 8) (qa_cons (qv 4) qa_nil))))) qa_nil))))))
    (qss_cons (qs_setLcF 6 (own := [("_law_which", 9)]) sc_law.nd (qi_range1 T.range (qa_cons q_int qa_nil)) (blkOk_by (own := [("_law_which", 9)]) (N := N_law) (sc := defScope s_law) (by decide +kernel)) (fun _ _ _ _ _ => (qg_name 9 sc_law.nd)) (fun _ _ _ _ _ => qts_nil) (fun _ _ _ _ _ => (q_callC c__law_raised (hr.mono (by decide)) gd (qa_cons (qv 9) (qa_cons (qv 7) (qa_cons (qv 8) qa_nil))))) s)
    (qss_one (qs_if (qt_cmp (c_ne hr.units) (qv 6) (q_lst (qa_cons (q_tup (qa_cons q_str (qa_cons (qv 8) qa_nil))) (qa_cons (q_tup (qa_cons q_str (qa_cons (qv 7) qa_nil))) (qa_cons (q_tup (qa_cons q_str (qa_cons (qv 7) (qa_cons (qv 8) qa_nil)))) qa_nil))))) (qss_one (qs_ret q_bl)) qss_nil))))))))
    (qss_one (qs_ret (q_all T.all (q_comp (own := [("_law_some", 5), ("_law_many", 7), ("_law_whom", 8), ("_law_odd", 4)]) sc_law.nd (qi_list (qv 1)) (blkOk_by (own := [("_law_some", 5), ("_law_many", 7), ("_law_whom", 8), ("_law_odd", 4)]) (N := N_law) (sc := defScope s_law) (by decide +kernel)) (fun _ _ _ _ _ => (qg_tup (qgs_cons (qg_name 5 sc_law.nd) (qgs_cons (qg_name 7 sc_law.nd) (qgs_cons (qg_name 8 sc_law.nd) (qgs_cons (qg_name 4 sc_law.nd) qgs_nil)))))) (fun _ _ _ _ _ => qts_nil) (fun _ _ _ _ _ => (q_callC c__law_values_right (hr.mono (by decide)) gd (qa_cons (qv 5) (qa_cons (qv 7) (qa_cons (qv 8) (qa_cons (qv 4) qa_nil)))))) s))))))⟩
end
/-! ### the end (printed by gen.py) -/
section
variable {P : Program} {w : World} {K : PySem.W.Frag} {mg : Str → Option Value} {base : Heap}
theorem ok__law_hand {f : Addr} {fd : FuncData} (F : Fun K "_law_hand" "_law_hand" s__law_hand f fd) (T : Txt K mg) : FnG P w K mg base CX0 1 f fd ["_law_script", "_law_k"] (spA K 2 S__law_hand) :=
  fn_ok F sc__law_hand ar__law_hand (fun _ _ _ _ _ _ _ hr gd => walk__law_hand T hr gd) rd__law_hand
theorem ok__law_take {f : Addr} {fd : FuncData} (F : Fun K "_law_take" "_law_take" s__law_take f fd) (T : Txt K mg) : FnG P w K mg base CX0 1 f fd ["_law_hand_here", "_law_many"] (spA K 2 S__law_take) :=
  fn_ok F sc__law_take ar__law_take (fun _ _ _ _ _ _ _ hr gd => walk__law_take T hr gd) rd__law_take
theorem ok__law_pick {f : Addr} {fd : FuncData} (F : Fun K "_law_pick" "_law_pick" s__law_pick f fd) (T : Txt K mg) (c__law_take : Cal P w K mg base "_law_take" ["_law_hand_here", "_law_many"] 1 S__law_take) : FnG P w K mg base CX0 2 f fd ["_law_hand_here", "_law_some"] (spA K 2 S__law_pick) :=
  fn_ok F sc__law_pick ar__law_pick (fun _ _ _ _ _ _ _ hr gd => walk__law_pick T c__law_take hr gd) rd__law_pick
theorem ok__law_made {f : Addr} {fd : FuncData} (F : Fun K "_law_made" "_law_made" s__law_made f fd) (T : Txt K mg) (x_NoLine : Xcl P w K mg base "NoLine" ["line"] 1) (x_TooGreat : Xcl P w K mg base "TooGreat" ["word"] 1) (x_NoKind : Xcl P w K mg base "NoKind" ["place", "why"] 1) (x_NoText : Xcl P w K mg base "NoText" ["line"] 1) (x_Unclean : Xcl P w K mg base "Unclean" ["place", "row"] 1) (x_NoStage : Xcl P w K mg base "NoStage" ["stage"] 1) (x_NoGate : Xcl P w K mg base "NoGate" ["number"] 1) (x_NoPlace : Xcl P w K mg base "NoPlace" ["place"] 1) (k_NoLine_line : XclK P w K mg base "NoLine" ["line"] ["line"] [0] 1) (k_TooGreat_word : XclK P w K mg base "TooGreat" ["word"] ["word"] [0] 1) (k_NoKind_why_place : XclK P w K mg base "NoKind" ["place", "why"] ["why", "place"] [1, 0] 1) (k_NoText_line : XclK P w K mg base "NoText" ["line"] ["line"] [0] 1) (k_NoGate_number : XclK P w K mg base "NoGate" ["number"] ["number"] [0] 1) (k_NoPlace_place : XclK P w K mg base "NoPlace" ["place"] ["place"] [0] 1) (k_Unclean_row_place : XclK P w K mg base "Unclean" ["place", "row"] ["row", "place"] [1, 0] 1) (k_NoStage_stage : XclK P w K mg base "NoStage" ["stage"] ["stage"] [0] 1) (y_Nothing : XclP K "Nothing") (y_NoFit : XclP K "NoFit") (y_NoProgram : XclP K "NoProgram") (y_NoStep : XclP K "NoStep") (ag : Agr K mg) : FnG P w K mg base CX0 3 f fd ["_law_many", "_law_whom", "_law_odd"] (spA K 3 S__law_made) :=
  fn_ok F sc__law_made ar__law_made (fun _ _ _ _ _ _ _ hr gd => walk__law_made T x_NoLine x_TooGreat x_NoKind x_NoText x_Unclean x_NoStage x_NoGate x_NoPlace k_NoLine_line k_TooGreat_word k_NoKind_why_place k_NoText_line k_NoGate_number k_NoPlace_place k_Unclean_row_place k_NoStage_stage y_Nothing y_NoFit y_NoProgram y_NoStep ag hr gd) rd__law_made
theorem ok__law_values_right {f : Addr} {fd : FuncData} (F : Fun K "_law_values_right" "_law_values_right" s__law_values_right f fd) (T : Txt K mg) (XT : XTab K ["NoText", "NoKind", "TooGreat", "NoLine", "NoProgram", "NoFit", "Nothing", "NoStep", "NoPlace", "NoGate", "NoStage", "Unclean"] ["NoText", "NoKind", "TooGreat", "NoLine", "NoProgram", "NoFit", "Nothing", "NoStep", "NoPlace", "NoGate", "NoStage", "Unclean", "Refused", "Missing", "Halted", "ValueError", "LookupError", "RuntimeError"] ["line", "place", "why", "word", "number", "stage", "row"]) (ag : Agr K mg) : FnG P w K mg base CX0 1 f fd ["_law_some", "_law_many", "_law_whom", "_law_odd"] (spA K 4 S__law_values_right) :=
  fn_ok F sc__law_values_right ar__law_values_right (fun _ _ _ _ _ _ _ hr gd => walk__law_values_right T XT ag hr gd) rd__law_values_right
theorem ok__law_classes_right {f : Addr} {fd : FuncData} (F : Fun K "_law_classes_right" "_law_classes_right" s__law_classes_right f fd) (T : Txt K mg) (XT : XTab K ["NoText", "NoKind", "TooGreat", "NoLine", "NoProgram", "NoFit", "Nothing", "NoStep", "NoPlace", "NoGate", "NoStage", "Unclean"] ["NoText", "NoKind", "TooGreat", "NoLine", "NoProgram", "NoFit", "Nothing", "NoStep", "NoPlace", "NoGate", "NoStage", "Unclean", "Refused", "Missing", "Halted", "ValueError", "LookupError", "RuntimeError"] ["line", "place", "why", "word", "number", "stage", "row"]) (ag : Agr K mg) : FnG P w K mg base CX0 1 f fd ["_law_some"] (spA K 1 S__law_classes_right) :=
  fn_ok F sc__law_classes_right ar__law_classes_right (fun _ _ _ _ _ _ _ hr gd => walk__law_classes_right T XT ag hr gd) rd__law_classes_right
theorem ok__law_raised {f : Addr} {fd : FuncData} (F : Fun K "_law_raised" "_law_raised" s__law_raised f fd) (T : Txt K mg) (x_TooGreat : Xcl P w K mg base "TooGreat" ["word"] 1) (x_NoGate : Xcl P w K mg base "NoGate" ["number"] 1) (x_Unclean : Xcl P w K mg base "Unclean" ["place", "row"] 1) (XT : XTab K ["NoText", "NoKind", "TooGreat", "NoLine", "NoProgram", "NoFit", "Nothing", "NoStep", "NoPlace", "NoGate", "NoStage", "Unclean"] ["NoText", "NoKind", "TooGreat", "NoLine", "NoProgram", "NoFit", "Nothing", "NoStep", "NoPlace", "NoGate", "NoStage", "Unclean", "Refused", "Missing", "Halted", "ValueError", "LookupError", "RuntimeError"] ["line", "place", "why", "word", "number", "stage", "row"]) (ag : Agr K mg) : FnG P w K mg base CX0 3 f fd ["_law_which", "_law_many", "_law_whom"] (spA K 3 S__law_raised) :=
  fn_ok F sc__law_raised ar__law_raised (fun _ _ _ _ _ _ _ hr gd => walk__law_raised T x_TooGreat x_NoGate x_Unclean XT ag hr gd) rd__law_raised
theorem ok_law {f : Addr} {fd : FuncData} (F : Fun K "law" "law" s_law f fd) (T : Txt K mg) (c__law_hand : Cal P w K mg base "_law_hand" ["_law_script", "_law_k"] 1 S__law_hand) (c__law_pick : Cal P w K mg base "_law_pick" ["_law_hand_here", "_law_some"] 2 S__law_pick) (c__law_made : Cal P w K mg base "_law_made" ["_law_many", "_law_whom", "_law_odd"] 3 S__law_made) (c__law_classes_right : Cal P w K mg base "_law_classes_right" ["_law_some"] 1 S__law_classes_right) (c__law_raised : Cal P w K mg base "_law_raised" ["_law_which", "_law_many", "_law_whom"] 3 S__law_raised) (c__law_values_right : Cal P w K mg base "_law_values_right" ["_law_some", "_law_many", "_law_whom", "_law_odd"] 1 S__law_values_right) : FnG P w K mg base CX0 4 f fd ["_law_script"] (spA K 1 S_law) :=
  fn_ok F sc_law ar_law (fun _ _ _ _ _ _ _ hr gd => walk_law T c__law_hand c__law_pick c__law_made c__law_classes_right c__law_raised c__law_values_right hr gd) rd_law
end
theorem all_mk {l : PySem.W.OpenLaw} {w : World} {K : PySem.W.Frag} {h : Heap} {mg : Str → Option Value} {fa : Addr} (X : K.In h) (G : h.Ns mainGlobals mg) (hfa : mg "law" = some (.ref fa))
    {f0 : Addr} {od0 an0 : Option Addr} {sl0 : Array (Option Value)} {oc0 kV0 dc0 pm0 cd0 ct0 : Value} (a0 : PySem.W.nsIn K mainGlobals "_law_hand" = some (some (.ref f0))) (l0 : K.lookup f0 = some ⟨oc0, od0, .func (PySem.W.fnOf "_law_hand" "_law_hand" (defArgs s__law_hand) (defBody s__law_hand) (defScope s__law_hand) .none kV0 dc0 pm0 an0 cd0 ct0), sl0⟩) (q0 : PySem.W.codeIn K cd0 "_law_hand" = true) (k0 : PySem.W.keepIn K (.ref f0) = true)
    {f1 : Addr} {od1 an1 : Option Addr} {sl1 : Array (Option Value)} {oc1 kV1 dc1 pm1 cd1 ct1 : Value} (a1 : PySem.W.nsIn K mainGlobals "_law_take" = some (some (.ref f1))) (l1 : K.lookup f1 = some ⟨oc1, od1, .func (PySem.W.fnOf "_law_take" "_law_take" (defArgs s__law_take) (defBody s__law_take) (defScope s__law_take) .none kV1 dc1 pm1 an1 cd1 ct1), sl1⟩) (q1 : PySem.W.codeIn K cd1 "_law_take" = true) (k1 : PySem.W.keepIn K (.ref f1) = true)
    {f2 : Addr} {od2 an2 : Option Addr} {sl2 : Array (Option Value)} {oc2 kV2 dc2 pm2 cd2 ct2 : Value} (a2 : PySem.W.nsIn K mainGlobals "_law_pick" = some (some (.ref f2))) (l2 : K.lookup f2 = some ⟨oc2, od2, .func (PySem.W.fnOf "_law_pick" "_law_pick" (defArgs s__law_pick) (defBody s__law_pick) (defScope s__law_pick) .none kV2 dc2 pm2 an2 cd2 ct2), sl2⟩) (q2 : PySem.W.codeIn K cd2 "_law_pick" = true) (k2 : PySem.W.keepIn K (.ref f2) = true)
    {f3 : Addr} {od3 an3 : Option Addr} {sl3 : Array (Option Value)} {oc3 kV3 dc3 pm3 cd3 ct3 : Value} (a3 : PySem.W.nsIn K mainGlobals "_law_made" = some (some (.ref f3))) (l3 : K.lookup f3 = some ⟨oc3, od3, .func (PySem.W.fnOf "_law_made" "_law_made" (defArgs s__law_made) (defBody s__law_made) (defScope s__law_made) .none kV3 dc3 pm3 an3 cd3 ct3), sl3⟩) (q3 : PySem.W.codeIn K cd3 "_law_made" = true) (k3 : PySem.W.keepIn K (.ref f3) = true)
    {f4 : Addr} {od4 an4 : Option Addr} {sl4 : Array (Option Value)} {oc4 kV4 dc4 pm4 cd4 ct4 : Value} (a4 : PySem.W.nsIn K mainGlobals "_law_values_right" = some (some (.ref f4))) (l4 : K.lookup f4 = some ⟨oc4, od4, .func (PySem.W.fnOf "_law_values_right" "_law_values_right" (defArgs s__law_values_right) (defBody s__law_values_right) (defScope s__law_values_right) .none kV4 dc4 pm4 an4 cd4 ct4), sl4⟩) (q4 : PySem.W.codeIn K cd4 "_law_values_right" = true) (k4 : PySem.W.keepIn K (.ref f4) = true)
    {f5 : Addr} {od5 an5 : Option Addr} {sl5 : Array (Option Value)} {oc5 kV5 dc5 pm5 cd5 ct5 : Value} (a5 : PySem.W.nsIn K mainGlobals "_law_classes_right" = some (some (.ref f5))) (l5 : K.lookup f5 = some ⟨oc5, od5, .func (PySem.W.fnOf "_law_classes_right" "_law_classes_right" (defArgs s__law_classes_right) (defBody s__law_classes_right) (defScope s__law_classes_right) .none kV5 dc5 pm5 an5 cd5 ct5), sl5⟩) (q5 : PySem.W.codeIn K cd5 "_law_classes_right" = true) (k5 : PySem.W.keepIn K (.ref f5) = true)
    {f6 : Addr} {od6 an6 : Option Addr} {sl6 : Array (Option Value)} {oc6 kV6 dc6 pm6 cd6 ct6 : Value} (a6 : PySem.W.nsIn K mainGlobals "_law_raised" = some (some (.ref f6))) (l6 : K.lookup f6 = some ⟨oc6, od6, .func (PySem.W.fnOf "_law_raised" "_law_raised" (defArgs s__law_raised) (defBody s__law_raised) (defScope s__law_raised) .none kV6 dc6 pm6 an6 cd6 ct6), sl6⟩) (q6 : PySem.W.codeIn K cd6 "_law_raised" = true) (k6 : PySem.W.keepIn K (.ref f6) = true)
    {f7 : Addr} {od7 an7 : Option Addr} {sl7 : Array (Option Value)} {oc7 kV7 dc7 pm7 cd7 ct7 : Value} (a7 : PySem.W.nsIn K mainGlobals "law" = some (some (.ref f7))) (l7 : K.lookup f7 = some ⟨oc7, od7, .func (PySem.W.fnOf "law" "law" (defArgs s_law) (defBody s_law) (defScope s_law) .none kV7 dc7 pm7 an7 cd7 ct7), sl7⟩) (q7 : PySem.W.codeIn K cd7 "law" = true) (k7 : PySem.W.keepIn K (.ref f7) = true)
    (z_len : PySem.W.nsIn K mainGlobals "len" = some none)
    (z_abs : PySem.W.nsIn K mainGlobals "abs" = some none)
    (z_int : PySem.W.nsIn K mainGlobals "int" = some none)
    (z_repr : PySem.W.nsIn K mainGlobals "repr" = some none)
    (z_enumerate : PySem.W.nsIn K mainGlobals "enumerate" = some none)
    (z_isinstance : PySem.W.nsIn K mainGlobals "isinstance" = some none)
    (z_range : PySem.W.nsIn K mainGlobals "range" = some none)
    (z_max : PySem.W.nsIn K mainGlobals "max" = some none)
    (z_min : PySem.W.nsIn K mainGlobals "min" = some none)
    (z_all : PySem.W.nsIn K mainGlobals "all" = some none)
    (XB : xtabB K ["NoText", "NoKind", "TooGreat", "NoLine", "NoProgram", "NoFit", "Nothing", "NoStep", "NoPlace", "NoGate", "NoStage", "Unclean"] ["NoText", "NoKind", "TooGreat", "NoLine", "NoProgram", "NoFit", "Nothing", "NoStep", "NoPlace", "NoGate", "NoStage", "Unclean", "Refused", "Missing", "Halted", "ValueError", "LookupError", "RuntimeError"] ["line", "place", "why", "word", "number", "stage", "row"] = true)
    {C_NoLine I_NoLine : Addr} {od_NoLine an_NoLine : Option Addr} {sl_NoLine : Array (Option Value)} {oc_NoLine kV_NoLine dc_NoLine pm_NoLine cd_NoLine ct_NoLine : Value}
    (xa_NoLine : PySem.W.nsIn K mainGlobals "NoLine" = some (some (.ref C_NoLine)))
    (xo_NoLine : PySem.W.excInitIn K C_NoLine [.type "ValueError", .type "Exception", .type "BaseException", .type "object"] "ValueError.__new__" = true)
    (xv_NoLine : PySem.W.excOver K C_NoLine [.type "ValueError", .type "Exception", .type "BaseException", .type "object"] = true)
    (xh_NoLine : PySem.W.hasDictIn K C_NoLine = true)
    (xs_NoLine : PySem.W.findIn K (.ref C_NoLine) "__setattr__" = some (some (.builtin "object.__setattr__")))
    (xe_NoLine : PySem.W.subIn K (.ref C_NoLine) (.type "BaseException") = some true)
    (xy_NoLine : PySem.W.typeIn K (.ref C_NoLine) = some (.type "type"))
    (xk_NoLine : PySem.W.keepIn K (.ref C_NoLine) = true)
    (xf0_NoLine : PySem.W.findIn K (.ref C_NoLine) "line" = some none)
    (xi_NoLine : PySem.W.findIn K (.ref C_NoLine) "__init__" = some (some (.ref I_NoLine)))
    (xz_NoLine : PySem.W.typeIn K (.ref I_NoLine) = some (.type "function"))
    (xl_NoLine : K.lookup I_NoLine = some ⟨oc_NoLine, od_NoLine, .func (PySem.W.fnOf "__init__" "NoLine.__init__" (defArgs i_NoLine) (defBody i_NoLine) (defScope i_NoLine) .none kV_NoLine dc_NoLine pm_NoLine an_NoLine cd_NoLine ct_NoLine), sl_NoLine⟩)
    (xq_NoLine : PySem.W.codeIn K cd_NoLine "NoLine.__init__" = true)
    (xj_NoLine : PySem.W.keepIn K (.ref I_NoLine) = true)
    {C_TooGreat I_TooGreat : Addr} {od_TooGreat an_TooGreat : Option Addr} {sl_TooGreat : Array (Option Value)} {oc_TooGreat kV_TooGreat dc_TooGreat pm_TooGreat cd_TooGreat ct_TooGreat : Value}
    (xa_TooGreat : PySem.W.nsIn K mainGlobals "TooGreat" = some (some (.ref C_TooGreat)))
    (xo_TooGreat : PySem.W.excInitIn K C_TooGreat [.type "ValueError", .type "Exception", .type "BaseException", .type "object"] "ValueError.__new__" = true)
    (xv_TooGreat : PySem.W.excOver K C_TooGreat [.type "ValueError", .type "Exception", .type "BaseException", .type "object"] = true)
    (xh_TooGreat : PySem.W.hasDictIn K C_TooGreat = true)
    (xs_TooGreat : PySem.W.findIn K (.ref C_TooGreat) "__setattr__" = some (some (.builtin "object.__setattr__")))
    (xe_TooGreat : PySem.W.subIn K (.ref C_TooGreat) (.type "BaseException") = some true)
    (xy_TooGreat : PySem.W.typeIn K (.ref C_TooGreat) = some (.type "type"))
    (xk_TooGreat : PySem.W.keepIn K (.ref C_TooGreat) = true)
    (xf0_TooGreat : PySem.W.findIn K (.ref C_TooGreat) "word" = some none)
    (xi_TooGreat : PySem.W.findIn K (.ref C_TooGreat) "__init__" = some (some (.ref I_TooGreat)))
    (xz_TooGreat : PySem.W.typeIn K (.ref I_TooGreat) = some (.type "function"))
    (xl_TooGreat : K.lookup I_TooGreat = some ⟨oc_TooGreat, od_TooGreat, .func (PySem.W.fnOf "__init__" "TooGreat.__init__" (defArgs i_TooGreat) (defBody i_TooGreat) (defScope i_TooGreat) .none kV_TooGreat dc_TooGreat pm_TooGreat an_TooGreat cd_TooGreat ct_TooGreat), sl_TooGreat⟩)
    (xq_TooGreat : PySem.W.codeIn K cd_TooGreat "TooGreat.__init__" = true)
    (xj_TooGreat : PySem.W.keepIn K (.ref I_TooGreat) = true)
    {C_NoKind I_NoKind : Addr} {od_NoKind an_NoKind : Option Addr} {sl_NoKind : Array (Option Value)} {oc_NoKind kV_NoKind dc_NoKind pm_NoKind cd_NoKind ct_NoKind : Value}
    (xa_NoKind : PySem.W.nsIn K mainGlobals "NoKind" = some (some (.ref C_NoKind)))
    (xo_NoKind : PySem.W.excInitIn K C_NoKind [.type "ValueError", .type "Exception", .type "BaseException", .type "object"] "ValueError.__new__" = true)
    (xv_NoKind : PySem.W.excOver K C_NoKind [.type "ValueError", .type "Exception", .type "BaseException", .type "object"] = true)
    (xh_NoKind : PySem.W.hasDictIn K C_NoKind = true)
    (xs_NoKind : PySem.W.findIn K (.ref C_NoKind) "__setattr__" = some (some (.builtin "object.__setattr__")))
    (xe_NoKind : PySem.W.subIn K (.ref C_NoKind) (.type "BaseException") = some true)
    (xy_NoKind : PySem.W.typeIn K (.ref C_NoKind) = some (.type "type"))
    (xk_NoKind : PySem.W.keepIn K (.ref C_NoKind) = true)
    (xf0_NoKind : PySem.W.findIn K (.ref C_NoKind) "place" = some none)
    (xf1_NoKind : PySem.W.findIn K (.ref C_NoKind) "why" = some none)
    (xi_NoKind : PySem.W.findIn K (.ref C_NoKind) "__init__" = some (some (.ref I_NoKind)))
    (xz_NoKind : PySem.W.typeIn K (.ref I_NoKind) = some (.type "function"))
    (xl_NoKind : K.lookup I_NoKind = some ⟨oc_NoKind, od_NoKind, .func (PySem.W.fnOf "__init__" "NoKind.__init__" (defArgs i_NoKind) (defBody i_NoKind) (defScope i_NoKind) .none kV_NoKind dc_NoKind pm_NoKind an_NoKind cd_NoKind ct_NoKind), sl_NoKind⟩)
    (xq_NoKind : PySem.W.codeIn K cd_NoKind "NoKind.__init__" = true)
    (xj_NoKind : PySem.W.keepIn K (.ref I_NoKind) = true)
    {C_NoText I_NoText : Addr} {od_NoText an_NoText : Option Addr} {sl_NoText : Array (Option Value)} {oc_NoText kV_NoText dc_NoText pm_NoText cd_NoText ct_NoText : Value}
    (xa_NoText : PySem.W.nsIn K mainGlobals "NoText" = some (some (.ref C_NoText)))
    (xo_NoText : PySem.W.excInitIn K C_NoText [.type "ValueError", .type "Exception", .type "BaseException", .type "object"] "ValueError.__new__" = true)
    (xv_NoText : PySem.W.excOver K C_NoText [.type "ValueError", .type "Exception", .type "BaseException", .type "object"] = true)
    (xh_NoText : PySem.W.hasDictIn K C_NoText = true)
    (xs_NoText : PySem.W.findIn K (.ref C_NoText) "__setattr__" = some (some (.builtin "object.__setattr__")))
    (xe_NoText : PySem.W.subIn K (.ref C_NoText) (.type "BaseException") = some true)
    (xy_NoText : PySem.W.typeIn K (.ref C_NoText) = some (.type "type"))
    (xk_NoText : PySem.W.keepIn K (.ref C_NoText) = true)
    (xf0_NoText : PySem.W.findIn K (.ref C_NoText) "line" = some none)
    (xi_NoText : PySem.W.findIn K (.ref C_NoText) "__init__" = some (some (.ref I_NoText)))
    (xz_NoText : PySem.W.typeIn K (.ref I_NoText) = some (.type "function"))
    (xl_NoText : K.lookup I_NoText = some ⟨oc_NoText, od_NoText, .func (PySem.W.fnOf "__init__" "NoText.__init__" (defArgs i_NoText) (defBody i_NoText) (defScope i_NoText) .none kV_NoText dc_NoText pm_NoText an_NoText cd_NoText ct_NoText), sl_NoText⟩)
    (xq_NoText : PySem.W.codeIn K cd_NoText "NoText.__init__" = true)
    (xj_NoText : PySem.W.keepIn K (.ref I_NoText) = true)
    {C_Unclean I_Unclean : Addr} {od_Unclean an_Unclean : Option Addr} {sl_Unclean : Array (Option Value)} {oc_Unclean kV_Unclean dc_Unclean pm_Unclean cd_Unclean ct_Unclean : Value}
    (xa_Unclean : PySem.W.nsIn K mainGlobals "Unclean" = some (some (.ref C_Unclean)))
    (xo_Unclean : PySem.W.excInitIn K C_Unclean [.type "RuntimeError", .type "Exception", .type "BaseException", .type "object"] "RuntimeError.__new__" = true)
    (xv_Unclean : PySem.W.excOver K C_Unclean [.type "RuntimeError", .type "Exception", .type "BaseException", .type "object"] = true)
    (xh_Unclean : PySem.W.hasDictIn K C_Unclean = true)
    (xs_Unclean : PySem.W.findIn K (.ref C_Unclean) "__setattr__" = some (some (.builtin "object.__setattr__")))
    (xe_Unclean : PySem.W.subIn K (.ref C_Unclean) (.type "BaseException") = some true)
    (xy_Unclean : PySem.W.typeIn K (.ref C_Unclean) = some (.type "type"))
    (xk_Unclean : PySem.W.keepIn K (.ref C_Unclean) = true)
    (xf0_Unclean : PySem.W.findIn K (.ref C_Unclean) "place" = some none)
    (xf1_Unclean : PySem.W.findIn K (.ref C_Unclean) "row" = some none)
    (xi_Unclean : PySem.W.findIn K (.ref C_Unclean) "__init__" = some (some (.ref I_Unclean)))
    (xz_Unclean : PySem.W.typeIn K (.ref I_Unclean) = some (.type "function"))
    (xl_Unclean : K.lookup I_Unclean = some ⟨oc_Unclean, od_Unclean, .func (PySem.W.fnOf "__init__" "Unclean.__init__" (defArgs i_Unclean) (defBody i_Unclean) (defScope i_Unclean) .none kV_Unclean dc_Unclean pm_Unclean an_Unclean cd_Unclean ct_Unclean), sl_Unclean⟩)
    (xq_Unclean : PySem.W.codeIn K cd_Unclean "Unclean.__init__" = true)
    (xj_Unclean : PySem.W.keepIn K (.ref I_Unclean) = true)
    {C_NoStage I_NoStage : Addr} {od_NoStage an_NoStage : Option Addr} {sl_NoStage : Array (Option Value)} {oc_NoStage kV_NoStage dc_NoStage pm_NoStage cd_NoStage ct_NoStage : Value}
    (xa_NoStage : PySem.W.nsIn K mainGlobals "NoStage" = some (some (.ref C_NoStage)))
    (xo_NoStage : PySem.W.excInitIn K C_NoStage [.type "LookupError", .type "Exception", .type "BaseException", .type "object"] "LookupError.__new__" = true)
    (xv_NoStage : PySem.W.excOver K C_NoStage [.type "LookupError", .type "Exception", .type "BaseException", .type "object"] = true)
    (xh_NoStage : PySem.W.hasDictIn K C_NoStage = true)
    (xs_NoStage : PySem.W.findIn K (.ref C_NoStage) "__setattr__" = some (some (.builtin "object.__setattr__")))
    (xe_NoStage : PySem.W.subIn K (.ref C_NoStage) (.type "BaseException") = some true)
    (xy_NoStage : PySem.W.typeIn K (.ref C_NoStage) = some (.type "type"))
    (xk_NoStage : PySem.W.keepIn K (.ref C_NoStage) = true)
    (xf0_NoStage : PySem.W.findIn K (.ref C_NoStage) "stage" = some none)
    (xi_NoStage : PySem.W.findIn K (.ref C_NoStage) "__init__" = some (some (.ref I_NoStage)))
    (xz_NoStage : PySem.W.typeIn K (.ref I_NoStage) = some (.type "function"))
    (xl_NoStage : K.lookup I_NoStage = some ⟨oc_NoStage, od_NoStage, .func (PySem.W.fnOf "__init__" "NoStage.__init__" (defArgs i_NoStage) (defBody i_NoStage) (defScope i_NoStage) .none kV_NoStage dc_NoStage pm_NoStage an_NoStage cd_NoStage ct_NoStage), sl_NoStage⟩)
    (xq_NoStage : PySem.W.codeIn K cd_NoStage "NoStage.__init__" = true)
    (xj_NoStage : PySem.W.keepIn K (.ref I_NoStage) = true)
    {C_NoGate I_NoGate : Addr} {od_NoGate an_NoGate : Option Addr} {sl_NoGate : Array (Option Value)} {oc_NoGate kV_NoGate dc_NoGate pm_NoGate cd_NoGate ct_NoGate : Value}
    (xa_NoGate : PySem.W.nsIn K mainGlobals "NoGate" = some (some (.ref C_NoGate)))
    (xo_NoGate : PySem.W.excInitIn K C_NoGate [.type "LookupError", .type "Exception", .type "BaseException", .type "object"] "LookupError.__new__" = true)
    (xv_NoGate : PySem.W.excOver K C_NoGate [.type "LookupError", .type "Exception", .type "BaseException", .type "object"] = true)
    (xh_NoGate : PySem.W.hasDictIn K C_NoGate = true)
    (xs_NoGate : PySem.W.findIn K (.ref C_NoGate) "__setattr__" = some (some (.builtin "object.__setattr__")))
    (xe_NoGate : PySem.W.subIn K (.ref C_NoGate) (.type "BaseException") = some true)
    (xy_NoGate : PySem.W.typeIn K (.ref C_NoGate) = some (.type "type"))
    (xk_NoGate : PySem.W.keepIn K (.ref C_NoGate) = true)
    (xf0_NoGate : PySem.W.findIn K (.ref C_NoGate) "number" = some none)
    (xi_NoGate : PySem.W.findIn K (.ref C_NoGate) "__init__" = some (some (.ref I_NoGate)))
    (xz_NoGate : PySem.W.typeIn K (.ref I_NoGate) = some (.type "function"))
    (xl_NoGate : K.lookup I_NoGate = some ⟨oc_NoGate, od_NoGate, .func (PySem.W.fnOf "__init__" "NoGate.__init__" (defArgs i_NoGate) (defBody i_NoGate) (defScope i_NoGate) .none kV_NoGate dc_NoGate pm_NoGate an_NoGate cd_NoGate ct_NoGate), sl_NoGate⟩)
    (xq_NoGate : PySem.W.codeIn K cd_NoGate "NoGate.__init__" = true)
    (xj_NoGate : PySem.W.keepIn K (.ref I_NoGate) = true)
    {C_NoPlace I_NoPlace : Addr} {od_NoPlace an_NoPlace : Option Addr} {sl_NoPlace : Array (Option Value)} {oc_NoPlace kV_NoPlace dc_NoPlace pm_NoPlace cd_NoPlace ct_NoPlace : Value}
    (xa_NoPlace : PySem.W.nsIn K mainGlobals "NoPlace" = some (some (.ref C_NoPlace)))
    (xo_NoPlace : PySem.W.excInitIn K C_NoPlace [.type "LookupError", .type "Exception", .type "BaseException", .type "object"] "LookupError.__new__" = true)
    (xv_NoPlace : PySem.W.excOver K C_NoPlace [.type "LookupError", .type "Exception", .type "BaseException", .type "object"] = true)
    (xh_NoPlace : PySem.W.hasDictIn K C_NoPlace = true)
    (xs_NoPlace : PySem.W.findIn K (.ref C_NoPlace) "__setattr__" = some (some (.builtin "object.__setattr__")))
    (xe_NoPlace : PySem.W.subIn K (.ref C_NoPlace) (.type "BaseException") = some true)
    (xy_NoPlace : PySem.W.typeIn K (.ref C_NoPlace) = some (.type "type"))
    (xk_NoPlace : PySem.W.keepIn K (.ref C_NoPlace) = true)
    (xf0_NoPlace : PySem.W.findIn K (.ref C_NoPlace) "place" = some none)
    (xi_NoPlace : PySem.W.findIn K (.ref C_NoPlace) "__init__" = some (some (.ref I_NoPlace)))
    (xz_NoPlace : PySem.W.typeIn K (.ref I_NoPlace) = some (.type "function"))
    (xl_NoPlace : K.lookup I_NoPlace = some ⟨oc_NoPlace, od_NoPlace, .func (PySem.W.fnOf "__init__" "NoPlace.__init__" (defArgs i_NoPlace) (defBody i_NoPlace) (defScope i_NoPlace) .none kV_NoPlace dc_NoPlace pm_NoPlace an_NoPlace cd_NoPlace ct_NoPlace), sl_NoPlace⟩)
    (xq_NoPlace : PySem.W.codeIn K cd_NoPlace "NoPlace.__init__" = true)
    (xj_NoPlace : PySem.W.keepIn K (.ref I_NoPlace) = true)
    {C_Nothing : Addr}
    (xa_Nothing : PySem.W.nsIn K mainGlobals "Nothing" = some (some (.ref C_Nothing)))
    (xp_Nothing : PySem.W.excIn K C_Nothing [.type "ValueError", .type "Exception", .type "BaseException", .type "object"] "ValueError.__new__" = true)
    (xk_Nothing : PySem.W.keepIn K (.ref C_Nothing) = true)
    (xe_Nothing : PySem.W.subIn K (.ref C_Nothing) (.type "BaseException") = some true)
    (xy_Nothing : PySem.W.typeIn K (.ref C_Nothing) = some (.type "type"))
    {C_NoFit : Addr}
    (xa_NoFit : PySem.W.nsIn K mainGlobals "NoFit" = some (some (.ref C_NoFit)))
    (xp_NoFit : PySem.W.excIn K C_NoFit [.type "ValueError", .type "Exception", .type "BaseException", .type "object"] "ValueError.__new__" = true)
    (xk_NoFit : PySem.W.keepIn K (.ref C_NoFit) = true)
    (xe_NoFit : PySem.W.subIn K (.ref C_NoFit) (.type "BaseException") = some true)
    (xy_NoFit : PySem.W.typeIn K (.ref C_NoFit) = some (.type "type"))
    {C_NoProgram : Addr}
    (xa_NoProgram : PySem.W.nsIn K mainGlobals "NoProgram" = some (some (.ref C_NoProgram)))
    (xp_NoProgram : PySem.W.excIn K C_NoProgram [.type "ValueError", .type "Exception", .type "BaseException", .type "object"] "ValueError.__new__" = true)
    (xk_NoProgram : PySem.W.keepIn K (.ref C_NoProgram) = true)
    (xe_NoProgram : PySem.W.subIn K (.ref C_NoProgram) (.type "BaseException") = some true)
    (xy_NoProgram : PySem.W.typeIn K (.ref C_NoProgram) = some (.type "type"))
    {C_NoStep : Addr}
    (xa_NoStep : PySem.W.nsIn K mainGlobals "NoStep" = some (some (.ref C_NoStep)))
    (xp_NoStep : PySem.W.excIn K C_NoStep [.type "ValueError", .type "Exception", .type "BaseException", .type "object"] "ValueError.__new__" = true)
    (xk_NoStep : PySem.W.keepIn K (.ref C_NoStep) = true)
    (xe_NoStep : PySem.W.subIn K (.ref C_NoStep) (.type "BaseException") = some true)
    (xy_NoStep : PySem.W.typeIn K (.ref C_NoStep) = some (.type "type")) :
    ∃ fd : FuncData, (∀ (s : Shared) (v : Value), BindsTo s fd ⟨[v], []⟩ [("_law_script", v)]) ∧ ∀ base : Heap, K.In base → base.Ns mainGlobals mg → FnG l.prog w K mg base CX0 4 fa fd ["_law_script"] (spLaw K SLawP) := by
  have T : Txt K mg := ⟨PySem.W.mg_none_of X G z_len, PySem.W.mg_none_of X G z_abs, PySem.W.mg_none_of X G z_int, PySem.W.mg_none_of X G z_repr, PySem.W.mg_none_of X G z_enumerate, PySem.W.mg_none_of X G z_isinstance, PySem.W.mg_none_of X G z_range, PySem.W.mg_none_of X G z_max, PySem.W.mg_none_of X G z_min, PySem.W.mg_none_of X G z_all⟩
  have e := hfa.symm.trans (PySem.W.mg_of X G a7)
  cases e
  refine ⟨_, fun s v => BindsTo.of_eq (fd := PySem.W.fnOf "law" "law" (defArgs s_law) (defBody s_law) (defScope s_law) .none kV7 dc7 pm7 an7 cd7 ct7) rfl, fun base _ _ => ?_⟩
  have ag : Agr K mg := agr_of X G
  have XT := xtabB_ok XB
  have e_Nothing : clsAd K "Nothing" = C_Nothing := by unfold clsAd; rw [xa_Nothing]
  have y_Nothing : XclP K "Nothing" := ⟨by rw [e_Nothing]; exact xa_Nothing, ⟨_, _, _, _, PySem.F.excBase_ValueError, by rw [e_Nothing]; exact xp_Nothing⟩, by rw [e_Nothing]; exact xk_Nothing, by rw [e_Nothing]; exact xe_Nothing, by rw [e_Nothing]; exact xy_Nothing⟩
  have e_NoFit : clsAd K "NoFit" = C_NoFit := by unfold clsAd; rw [xa_NoFit]
  have y_NoFit : XclP K "NoFit" := ⟨by rw [e_NoFit]; exact xa_NoFit, ⟨_, _, _, _, PySem.F.excBase_ValueError, by rw [e_NoFit]; exact xp_NoFit⟩, by rw [e_NoFit]; exact xk_NoFit, by rw [e_NoFit]; exact xe_NoFit, by rw [e_NoFit]; exact xy_NoFit⟩
  have e_NoProgram : clsAd K "NoProgram" = C_NoProgram := by unfold clsAd; rw [xa_NoProgram]
  have y_NoProgram : XclP K "NoProgram" := ⟨by rw [e_NoProgram]; exact xa_NoProgram, ⟨_, _, _, _, PySem.F.excBase_ValueError, by rw [e_NoProgram]; exact xp_NoProgram⟩, by rw [e_NoProgram]; exact xk_NoProgram, by rw [e_NoProgram]; exact xe_NoProgram, by rw [e_NoProgram]; exact xy_NoProgram⟩
  have e_NoStep : clsAd K "NoStep" = C_NoStep := by unfold clsAd; rw [xa_NoStep]
  have y_NoStep : XclP K "NoStep" := ⟨by rw [e_NoStep]; exact xa_NoStep, ⟨_, _, _, _, PySem.F.excBase_ValueError, by rw [e_NoStep]; exact xp_NoStep⟩, by rw [e_NoStep]; exact xk_NoStep, by rw [e_NoStep]; exact xe_NoStep, by rw [e_NoStep]; exact xy_NoStep⟩
  have e_NoLine : clsAd K "NoLine" = C_NoLine := by unfold clsAd; rw [xa_NoLine]
  have o_NoLine : OxG K C_NoLine := ⟨⟨_, _, _, _, PySem.F.excBase_ValueError, PySem.F.store_ValueError, xo_NoLine, xv_NoLine⟩, xh_NoLine, xs_NoLine, xe_NoLine, xy_NoLine, xk_NoLine⟩
  have x_NoLine : Xcl l.prog w K mg base "NoLine" ["line"] 1 := ⟨by rw [e_NoLine]; exact xa_NoLine, by rw [e_NoLine]; exact o_NoLine, by rw [e_NoLine]; exact fun f hf => by rw [List.mem_singleton.mp hf]; exact xf0_NoLine, ⟨I_NoLine, _, ["self", "line"], by rw [e_NoLine]; exact xi_NoLine, xz_NoLine, init1 (fun_mk (st := i_NoLine) xl_NoLine xq_NoLine xj_NoLine) (N := ["self", "line"]) ⟨rfl, rfl, rfl, by decide +kernel, rfl, by decide +kernel, by decide +kernel⟩ (fun vs hv => match vs, hv with | [_, _], _ => ⟨rfl, rfl⟩) fun _ _ _ _ _ _ => pss_one (ps_st (pv 0) (pv 1)), (fun_mk (st := i_NoLine) xl_NoLine xq_NoLine xj_NoLine).binds fun _ _ _ _ _ _ us hl => match us, hl with | [_, _], _ => rfl⟩, by decide⟩
  have k_NoLine_line : XclK l.prog w K mg base "NoLine" ["line"] ["line"] [0] 1 := ⟨by rw [e_NoLine]; exact xa_NoLine, by rw [e_NoLine]; exact o_NoLine, by rw [e_NoLine]; exact fun f hf => by rw [List.mem_singleton.mp hf]; exact xf0_NoLine, ⟨I_NoLine, _, ["self", "line"], by rw [e_NoLine]; exact xi_NoLine, xz_NoLine, init1 (fun_mk (st := i_NoLine) xl_NoLine xq_NoLine xj_NoLine) (N := ["self", "line"]) ⟨rfl, rfl, rfl, by decide +kernel, rfl, by decide +kernel, by decide +kernel⟩ (fun vs hv => match vs, hv with | [_, _], _ => ⟨rfl, rfl⟩) fun _ _ _ _ _ _ => pss_one (ps_st (pv 0) (pv 1)), fun s v ws _ h => .of_eq (match ws, h with | [_], _ => rfl)⟩, by decide⟩
  have e_TooGreat : clsAd K "TooGreat" = C_TooGreat := by unfold clsAd; rw [xa_TooGreat]
  have o_TooGreat : OxG K C_TooGreat := ⟨⟨_, _, _, _, PySem.F.excBase_ValueError, PySem.F.store_ValueError, xo_TooGreat, xv_TooGreat⟩, xh_TooGreat, xs_TooGreat, xe_TooGreat, xy_TooGreat, xk_TooGreat⟩
  have x_TooGreat : Xcl l.prog w K mg base "TooGreat" ["word"] 1 := ⟨by rw [e_TooGreat]; exact xa_TooGreat, by rw [e_TooGreat]; exact o_TooGreat, by rw [e_TooGreat]; exact fun f hf => by rw [List.mem_singleton.mp hf]; exact xf0_TooGreat, ⟨I_TooGreat, _, ["self", "word"], by rw [e_TooGreat]; exact xi_TooGreat, xz_TooGreat, init1 (fun_mk (st := i_TooGreat) xl_TooGreat xq_TooGreat xj_TooGreat) (N := ["self", "word"]) ⟨rfl, rfl, rfl, by decide +kernel, rfl, by decide +kernel, by decide +kernel⟩ (fun vs hv => match vs, hv with | [_, _], _ => ⟨rfl, rfl⟩) fun _ _ _ _ _ _ => pss_one (ps_st (pv 0) (pv 1)), (fun_mk (st := i_TooGreat) xl_TooGreat xq_TooGreat xj_TooGreat).binds fun _ _ _ _ _ _ us hl => match us, hl with | [_, _], _ => rfl⟩, by decide⟩
  have k_TooGreat_word : XclK l.prog w K mg base "TooGreat" ["word"] ["word"] [0] 1 := ⟨by rw [e_TooGreat]; exact xa_TooGreat, by rw [e_TooGreat]; exact o_TooGreat, by rw [e_TooGreat]; exact fun f hf => by rw [List.mem_singleton.mp hf]; exact xf0_TooGreat, ⟨I_TooGreat, _, ["self", "word"], by rw [e_TooGreat]; exact xi_TooGreat, xz_TooGreat, init1 (fun_mk (st := i_TooGreat) xl_TooGreat xq_TooGreat xj_TooGreat) (N := ["self", "word"]) ⟨rfl, rfl, rfl, by decide +kernel, rfl, by decide +kernel, by decide +kernel⟩ (fun vs hv => match vs, hv with | [_, _], _ => ⟨rfl, rfl⟩) fun _ _ _ _ _ _ => pss_one (ps_st (pv 0) (pv 1)), fun s v ws _ h => .of_eq (match ws, h with | [_], _ => rfl)⟩, by decide⟩
  have e_NoKind : clsAd K "NoKind" = C_NoKind := by unfold clsAd; rw [xa_NoKind]
  have o_NoKind : OxG K C_NoKind := ⟨⟨_, _, _, _, PySem.F.excBase_ValueError, PySem.F.store_ValueError, xo_NoKind, xv_NoKind⟩, xh_NoKind, xs_NoKind, xe_NoKind, xy_NoKind, xk_NoKind⟩
  have x_NoKind : Xcl l.prog w K mg base "NoKind" ["place", "why"] 1 := ⟨by rw [e_NoKind]; exact xa_NoKind, by rw [e_NoKind]; exact o_NoKind, by rw [e_NoKind]; exact fun f hf => by simp only [List.mem_cons, List.not_mem_nil, or_false] at hf; rcases hf with rfl | rfl <;> first | exact xf0_NoKind | exact xf1_NoKind, ⟨I_NoKind, _, ["self", "place", "why"], by rw [e_NoKind]; exact xi_NoKind, xz_NoKind, init2 (fun_mk (st := i_NoKind) xl_NoKind xq_NoKind xj_NoKind) (N := ["self", "place", "why"]) ⟨rfl, rfl, rfl, by decide +kernel, rfl, by decide +kernel, by decide +kernel⟩ (fun vs hv => match vs, hv with | [_, _, _], _ => ⟨rfl, rfl, rfl⟩) fun _ _ _ _ _ _ => pss_cons (ps_st (pv 0) (pv 1)) (pss_one (ps_st (pv 0) (pv 2))), (fun_mk (st := i_NoKind) xl_NoKind xq_NoKind xj_NoKind).binds fun _ _ _ _ _ _ us hl => match us, hl with | [_, _, _], _ => rfl⟩, by decide⟩
  have k_NoKind_why_place : XclK l.prog w K mg base "NoKind" ["place", "why"] ["why", "place"] [1, 0] 1 := ⟨by rw [e_NoKind]; exact xa_NoKind, by rw [e_NoKind]; exact o_NoKind, by rw [e_NoKind]; exact fun f hf => by simp only [List.mem_cons, List.not_mem_nil, or_false] at hf; rcases hf with rfl | rfl <;> first | exact xf0_NoKind | exact xf1_NoKind, ⟨I_NoKind, _, ["self", "place", "why"], by rw [e_NoKind]; exact xi_NoKind, xz_NoKind, init2 (fun_mk (st := i_NoKind) xl_NoKind xq_NoKind xj_NoKind) (N := ["self", "place", "why"]) ⟨rfl, rfl, rfl, by decide +kernel, rfl, by decide +kernel, by decide +kernel⟩ (fun vs hv => match vs, hv with | [_, _, _], _ => ⟨rfl, rfl, rfl⟩) fun _ _ _ _ _ _ => pss_cons (ps_st (pv 0) (pv 1)) (pss_one (ps_st (pv 0) (pv 2))), fun s v ws _ h => .of_eq (match ws, h with | [_, _], _ => rfl)⟩, by decide⟩
  have e_NoText : clsAd K "NoText" = C_NoText := by unfold clsAd; rw [xa_NoText]
  have o_NoText : OxG K C_NoText := ⟨⟨_, _, _, _, PySem.F.excBase_ValueError, PySem.F.store_ValueError, xo_NoText, xv_NoText⟩, xh_NoText, xs_NoText, xe_NoText, xy_NoText, xk_NoText⟩
  have x_NoText : Xcl l.prog w K mg base "NoText" ["line"] 1 := ⟨by rw [e_NoText]; exact xa_NoText, by rw [e_NoText]; exact o_NoText, by rw [e_NoText]; exact fun f hf => by rw [List.mem_singleton.mp hf]; exact xf0_NoText, ⟨I_NoText, _, ["self", "line"], by rw [e_NoText]; exact xi_NoText, xz_NoText, init1 (fun_mk (st := i_NoText) xl_NoText xq_NoText xj_NoText) (N := ["self", "line"]) ⟨rfl, rfl, rfl, by decide +kernel, rfl, by decide +kernel, by decide +kernel⟩ (fun vs hv => match vs, hv with | [_, _], _ => ⟨rfl, rfl⟩) fun _ _ _ _ _ _ => pss_one (ps_st (pv 0) (pv 1)), (fun_mk (st := i_NoText) xl_NoText xq_NoText xj_NoText).binds fun _ _ _ _ _ _ us hl => match us, hl with | [_, _], _ => rfl⟩, by decide⟩
  have k_NoText_line : XclK l.prog w K mg base "NoText" ["line"] ["line"] [0] 1 := ⟨by rw [e_NoText]; exact xa_NoText, by rw [e_NoText]; exact o_NoText, by rw [e_NoText]; exact fun f hf => by rw [List.mem_singleton.mp hf]; exact xf0_NoText, ⟨I_NoText, _, ["self", "line"], by rw [e_NoText]; exact xi_NoText, xz_NoText, init1 (fun_mk (st := i_NoText) xl_NoText xq_NoText xj_NoText) (N := ["self", "line"]) ⟨rfl, rfl, rfl, by decide +kernel, rfl, by decide +kernel, by decide +kernel⟩ (fun vs hv => match vs, hv with | [_, _], _ => ⟨rfl, rfl⟩) fun _ _ _ _ _ _ => pss_one (ps_st (pv 0) (pv 1)), fun s v ws _ h => .of_eq (match ws, h with | [_], _ => rfl)⟩, by decide⟩
  have e_Unclean : clsAd K "Unclean" = C_Unclean := by unfold clsAd; rw [xa_Unclean]
  have o_Unclean : OxG K C_Unclean := ⟨⟨_, _, _, _, PySem.F.excBase_RuntimeError, PySem.F.store_RuntimeError, xo_Unclean, xv_Unclean⟩, xh_Unclean, xs_Unclean, xe_Unclean, xy_Unclean, xk_Unclean⟩
  have x_Unclean : Xcl l.prog w K mg base "Unclean" ["place", "row"] 1 := ⟨by rw [e_Unclean]; exact xa_Unclean, by rw [e_Unclean]; exact o_Unclean, by rw [e_Unclean]; exact fun f hf => by simp only [List.mem_cons, List.not_mem_nil, or_false] at hf; rcases hf with rfl | rfl <;> first | exact xf0_Unclean | exact xf1_Unclean, ⟨I_Unclean, _, ["self", "place", "row"], by rw [e_Unclean]; exact xi_Unclean, xz_Unclean, init2 (fun_mk (st := i_Unclean) xl_Unclean xq_Unclean xj_Unclean) (N := ["self", "place", "row"]) ⟨rfl, rfl, rfl, by decide +kernel, rfl, by decide +kernel, by decide +kernel⟩ (fun vs hv => match vs, hv with | [_, _, _], _ => ⟨rfl, rfl, rfl⟩) fun _ _ _ _ _ _ => pss_cons (ps_st (pv 0) (pv 1)) (pss_one (ps_st (pv 0) (pv 2))), (fun_mk (st := i_Unclean) xl_Unclean xq_Unclean xj_Unclean).binds fun _ _ _ _ _ _ us hl => match us, hl with | [_, _, _], _ => rfl⟩, by decide⟩
  have k_Unclean_row_place : XclK l.prog w K mg base "Unclean" ["place", "row"] ["row", "place"] [1, 0] 1 := ⟨by rw [e_Unclean]; exact xa_Unclean, by rw [e_Unclean]; exact o_Unclean, by rw [e_Unclean]; exact fun f hf => by simp only [List.mem_cons, List.not_mem_nil, or_false] at hf; rcases hf with rfl | rfl <;> first | exact xf0_Unclean | exact xf1_Unclean, ⟨I_Unclean, _, ["self", "place", "row"], by rw [e_Unclean]; exact xi_Unclean, xz_Unclean, init2 (fun_mk (st := i_Unclean) xl_Unclean xq_Unclean xj_Unclean) (N := ["self", "place", "row"]) ⟨rfl, rfl, rfl, by decide +kernel, rfl, by decide +kernel, by decide +kernel⟩ (fun vs hv => match vs, hv with | [_, _, _], _ => ⟨rfl, rfl, rfl⟩) fun _ _ _ _ _ _ => pss_cons (ps_st (pv 0) (pv 1)) (pss_one (ps_st (pv 0) (pv 2))), fun s v ws _ h => .of_eq (match ws, h with | [_, _], _ => rfl)⟩, by decide⟩
  have e_NoStage : clsAd K "NoStage" = C_NoStage := by unfold clsAd; rw [xa_NoStage]
  have o_NoStage : OxG K C_NoStage := ⟨⟨_, _, _, _, PySem.F.excBase_LookupError, PySem.F.store_LookupError, xo_NoStage, xv_NoStage⟩, xh_NoStage, xs_NoStage, xe_NoStage, xy_NoStage, xk_NoStage⟩
  have x_NoStage : Xcl l.prog w K mg base "NoStage" ["stage"] 1 := ⟨by rw [e_NoStage]; exact xa_NoStage, by rw [e_NoStage]; exact o_NoStage, by rw [e_NoStage]; exact fun f hf => by rw [List.mem_singleton.mp hf]; exact xf0_NoStage, ⟨I_NoStage, _, ["self", "stage"], by rw [e_NoStage]; exact xi_NoStage, xz_NoStage, init1 (fun_mk (st := i_NoStage) xl_NoStage xq_NoStage xj_NoStage) (N := ["self", "stage"]) ⟨rfl, rfl, rfl, by decide +kernel, rfl, by decide +kernel, by decide +kernel⟩ (fun vs hv => match vs, hv with | [_, _], _ => ⟨rfl, rfl⟩) fun _ _ _ _ _ _ => pss_one (ps_st (pv 0) (pv 1)), (fun_mk (st := i_NoStage) xl_NoStage xq_NoStage xj_NoStage).binds fun _ _ _ _ _ _ us hl => match us, hl with | [_, _], _ => rfl⟩, by decide⟩
  have k_NoStage_stage : XclK l.prog w K mg base "NoStage" ["stage"] ["stage"] [0] 1 := ⟨by rw [e_NoStage]; exact xa_NoStage, by rw [e_NoStage]; exact o_NoStage, by rw [e_NoStage]; exact fun f hf => by rw [List.mem_singleton.mp hf]; exact xf0_NoStage, ⟨I_NoStage, _, ["self", "stage"], by rw [e_NoStage]; exact xi_NoStage, xz_NoStage, init1 (fun_mk (st := i_NoStage) xl_NoStage xq_NoStage xj_NoStage) (N := ["self", "stage"]) ⟨rfl, rfl, rfl, by decide +kernel, rfl, by decide +kernel, by decide +kernel⟩ (fun vs hv => match vs, hv with | [_, _], _ => ⟨rfl, rfl⟩) fun _ _ _ _ _ _ => pss_one (ps_st (pv 0) (pv 1)), fun s v ws _ h => .of_eq (match ws, h with | [_], _ => rfl)⟩, by decide⟩
  have e_NoGate : clsAd K "NoGate" = C_NoGate := by unfold clsAd; rw [xa_NoGate]
  have o_NoGate : OxG K C_NoGate := ⟨⟨_, _, _, _, PySem.F.excBase_LookupError, PySem.F.store_LookupError, xo_NoGate, xv_NoGate⟩, xh_NoGate, xs_NoGate, xe_NoGate, xy_NoGate, xk_NoGate⟩
  have x_NoGate : Xcl l.prog w K mg base "NoGate" ["number"] 1 := ⟨by rw [e_NoGate]; exact xa_NoGate, by rw [e_NoGate]; exact o_NoGate, by rw [e_NoGate]; exact fun f hf => by rw [List.mem_singleton.mp hf]; exact xf0_NoGate, ⟨I_NoGate, _, ["self", "number"], by rw [e_NoGate]; exact xi_NoGate, xz_NoGate, init1 (fun_mk (st := i_NoGate) xl_NoGate xq_NoGate xj_NoGate) (N := ["self", "number"]) ⟨rfl, rfl, rfl, by decide +kernel, rfl, by decide +kernel, by decide +kernel⟩ (fun vs hv => match vs, hv with | [_, _], _ => ⟨rfl, rfl⟩) fun _ _ _ _ _ _ => pss_one (ps_st (pv 0) (pv 1)), (fun_mk (st := i_NoGate) xl_NoGate xq_NoGate xj_NoGate).binds fun _ _ _ _ _ _ us hl => match us, hl with | [_, _], _ => rfl⟩, by decide⟩
  have k_NoGate_number : XclK l.prog w K mg base "NoGate" ["number"] ["number"] [0] 1 := ⟨by rw [e_NoGate]; exact xa_NoGate, by rw [e_NoGate]; exact o_NoGate, by rw [e_NoGate]; exact fun f hf => by rw [List.mem_singleton.mp hf]; exact xf0_NoGate, ⟨I_NoGate, _, ["self", "number"], by rw [e_NoGate]; exact xi_NoGate, xz_NoGate, init1 (fun_mk (st := i_NoGate) xl_NoGate xq_NoGate xj_NoGate) (N := ["self", "number"]) ⟨rfl, rfl, rfl, by decide +kernel, rfl, by decide +kernel, by decide +kernel⟩ (fun vs hv => match vs, hv with | [_, _], _ => ⟨rfl, rfl⟩) fun _ _ _ _ _ _ => pss_one (ps_st (pv 0) (pv 1)), fun s v ws _ h => .of_eq (match ws, h with | [_], _ => rfl)⟩, by decide⟩
  have e_NoPlace : clsAd K "NoPlace" = C_NoPlace := by unfold clsAd; rw [xa_NoPlace]
  have o_NoPlace : OxG K C_NoPlace := ⟨⟨_, _, _, _, PySem.F.excBase_LookupError, PySem.F.store_LookupError, xo_NoPlace, xv_NoPlace⟩, xh_NoPlace, xs_NoPlace, xe_NoPlace, xy_NoPlace, xk_NoPlace⟩
  have x_NoPlace : Xcl l.prog w K mg base "NoPlace" ["place"] 1 := ⟨by rw [e_NoPlace]; exact xa_NoPlace, by rw [e_NoPlace]; exact o_NoPlace, by rw [e_NoPlace]; exact fun f hf => by rw [List.mem_singleton.mp hf]; exact xf0_NoPlace, ⟨I_NoPlace, _, ["self", "place"], by rw [e_NoPlace]; exact xi_NoPlace, xz_NoPlace, init1 (fun_mk (st := i_NoPlace) xl_NoPlace xq_NoPlace xj_NoPlace) (N := ["self", "place"]) ⟨rfl, rfl, rfl, by decide +kernel, rfl, by decide +kernel, by decide +kernel⟩ (fun vs hv => match vs, hv with | [_, _], _ => ⟨rfl, rfl⟩) fun _ _ _ _ _ _ => pss_one (ps_st (pv 0) (pv 1)), (fun_mk (st := i_NoPlace) xl_NoPlace xq_NoPlace xj_NoPlace).binds fun _ _ _ _ _ _ us hl => match us, hl with | [_, _], _ => rfl⟩, by decide⟩
  have k_NoPlace_place : XclK l.prog w K mg base "NoPlace" ["place"] ["place"] [0] 1 := ⟨by rw [e_NoPlace]; exact xa_NoPlace, by rw [e_NoPlace]; exact o_NoPlace, by rw [e_NoPlace]; exact fun f hf => by rw [List.mem_singleton.mp hf]; exact xf0_NoPlace, ⟨I_NoPlace, _, ["self", "place"], by rw [e_NoPlace]; exact xi_NoPlace, xz_NoPlace, init1 (fun_mk (st := i_NoPlace) xl_NoPlace xq_NoPlace xj_NoPlace) (N := ["self", "place"]) ⟨rfl, rfl, rfl, by decide +kernel, rfl, by decide +kernel, by decide +kernel⟩ (fun vs hv => match vs, hv with | [_, _], _ => ⟨rfl, rfl⟩) fun _ _ _ _ _ _ => pss_one (ps_st (pv 0) (pv 1)), fun s v ws _ h => .of_eq (match ws, h with | [_], _ => rfl)⟩, by decide⟩
  have F__law_hand := fun_mk (st := s__law_hand) l0 q0 k0
  have c__law_hand : Cal l.prog w K mg base "_law_hand" ["_law_script", "_law_k"] 1 S__law_hand := ⟨_, _, ok__law_hand F__law_hand T, PySem.W.mg_of X G a0, k0, F__law_hand.binds fun _ _ _ _ _ _ us hl => match us, hl with | [_, _], _ => rfl, ar__law_hand⟩
  have F__law_take := fun_mk (st := s__law_take) l1 q1 k1
  have c__law_take : Cal l.prog w K mg base "_law_take" ["_law_hand_here", "_law_many"] 1 S__law_take := ⟨_, _, ok__law_take F__law_take T, PySem.W.mg_of X G a1, k1, F__law_take.binds fun _ _ _ _ _ _ us hl => match us, hl with | [_, _], _ => rfl, ar__law_take⟩
  have F__law_pick := fun_mk (st := s__law_pick) l2 q2 k2
  have c__law_pick : Cal l.prog w K mg base "_law_pick" ["_law_hand_here", "_law_some"] 2 S__law_pick := ⟨_, _, ok__law_pick F__law_pick T c__law_take, PySem.W.mg_of X G a2, k2, F__law_pick.binds fun _ _ _ _ _ _ us hl => match us, hl with | [_, _], _ => rfl, ar__law_pick⟩
  have F__law_made := fun_mk (st := s__law_made) l3 q3 k3
  have c__law_made : Cal l.prog w K mg base "_law_made" ["_law_many", "_law_whom", "_law_odd"] 3 S__law_made := ⟨_, _, ok__law_made F__law_made T x_NoLine x_TooGreat x_NoKind x_NoText x_Unclean x_NoStage x_NoGate x_NoPlace k_NoLine_line k_TooGreat_word k_NoKind_why_place k_NoText_line k_NoGate_number k_NoPlace_place k_Unclean_row_place k_NoStage_stage y_Nothing y_NoFit y_NoProgram y_NoStep ag, PySem.W.mg_of X G a3, k3, F__law_made.binds fun _ _ _ _ _ _ us hl => match us, hl with | [_, _, _], _ => rfl, ar__law_made⟩
  have F__law_values_right := fun_mk (st := s__law_values_right) l4 q4 k4
  have c__law_values_right : Cal l.prog w K mg base "_law_values_right" ["_law_some", "_law_many", "_law_whom", "_law_odd"] 1 S__law_values_right := ⟨_, _, ok__law_values_right F__law_values_right T XT ag, PySem.W.mg_of X G a4, k4, F__law_values_right.binds fun _ _ _ _ _ _ us hl => match us, hl with | [_, _, _, _], _ => rfl, ar__law_values_right⟩
  have F__law_classes_right := fun_mk (st := s__law_classes_right) l5 q5 k5
  have c__law_classes_right : Cal l.prog w K mg base "_law_classes_right" ["_law_some"] 1 S__law_classes_right := ⟨_, _, ok__law_classes_right F__law_classes_right T XT ag, PySem.W.mg_of X G a5, k5, F__law_classes_right.binds fun _ _ _ _ _ _ us hl => match us, hl with | [_], _ => rfl, ar__law_classes_right⟩
  have F__law_raised := fun_mk (st := s__law_raised) l6 q6 k6
  have c__law_raised : Cal l.prog w K mg base "_law_raised" ["_law_which", "_law_many", "_law_whom"] 3 S__law_raised := ⟨_, _, ok__law_raised F__law_raised T x_TooGreat x_NoGate x_Unclean XT ag, PySem.W.mg_of X G a6, k6, F__law_raised.binds fun _ _ _ _ _ _ us hl => match us, hl with | [_, _, _], _ => rfl, ar__law_raised⟩
  exact law_fn (ok_law (fun_mk (st := s_law) l7 q7 k7) T c__law_hand c__law_pick c__law_made c__law_classes_right c__law_raised c__law_values_right)
theorem walk {l : PySem.W.OpenLaw} {q : Program} {loose : List Str} {XP : (Str → Option Value) → Heap → Prop} {YP : World → Heap → Prop} {d : DefRec} {K : Params → PySem.W.Frag} (hn : l.most = some 63) (hdf : d.params.defaults = [])
    (hY : ∀ (w : World) (h : Heap), YP w h → (K w.params).In h)
    (F : ∀ (w : World) (mg : Str → Option Value) (fa : Addr) (h : Heap), (K w.params).In h → h.Ns mainGlobals mg → mg d.name = some (.ref fa) → ∃ fd : FuncData, (∀ (s : Shared) (u : Value), BindsTo s fd ⟨[u], []⟩ [("_law_script", u)]) ∧
      ∀ base : Heap, (K w.params).In base → base.Ns mainGlobals mg → FnG l.prog w (K w.params) mg base CX0 4 fa fd ["_law_script"] (spLaw (K w.params) SLawP)) : PySem.W.WalkO q loose XP YP l.row.toRowW d [] (fun f vs => PySem.call f vs) :=
  law_walk (n := 63) (k := 4) hn (by decide) hdf ⟨rfl, by decide, by decide⟩ hY F sLawP_all
end Law
open PySem PySem.W PyProof.Rows in
set_option maxRecDepth 100000 in
set_option maxHeartbeats 0 in
theorem PySem.Challenge.cw_gatewaves_k05_refusals_made_holds : PySem.Challenge.rw_gatewaves_k05_refusals_made.Holds := by
  w_on; o_law; k_head; (case hw => w_witness2)
  k_fill
  refine Law.walk (l := PySem.Challenge.rw_gatewaves_k05_refusals_made) rfl rfl (fun w h Y => PySem.W.kIn_of Y) ?F
  case F =>
    intro w mg fa h KX G hmg
    refine' Law.all_mk KX G hmg ?a0 ?l0 ?q0 ?k0 ?a1 ?l1 ?q1 ?k1 ?a2 ?l2 ?q2 ?k2 ?a3 ?l3 ?q3 ?k3 ?a4 ?l4 ?q4 ?k4 ?a5 ?l5 ?q5 ?k5 ?a6 ?l6 ?q6 ?k6 ?a7 ?l7 ?q7 ?k7 ?z_len ?z_abs ?z_int ?z_repr ?z_enumerate ?z_isinstance ?z_range ?z_max ?z_min ?z_all ?XB ?xa_NoLine ?xo_NoLine ?xv_NoLine ?xh_NoLine ?xs_NoLine ?xe_NoLine ?xy_NoLine ?xk_NoLine ?xf0_NoLine ?xi_NoLine ?xz_NoLine ?xl_NoLine ?xq_NoLine ?xj_NoLine ?xa_TooGreat ?xo_TooGreat ?xv_TooGreat ?xh_TooGreat ?xs_TooGreat ?xe_TooGreat ?xy_TooGreat ?xk_TooGreat ?xf0_TooGreat ?xi_TooGreat ?xz_TooGreat ?xl_TooGreat ?xq_TooGreat ?xj_TooGreat ?xa_NoKind ?xo_NoKind ?xv_NoKind ?xh_NoKind ?xs_NoKind ?xe_NoKind ?xy_NoKind ?xk_NoKind ?xf0_NoKind ?xf1_NoKind ?xi_NoKind ?xz_NoKind ?xl_NoKind ?xq_NoKind ?xj_NoKind ?xa_NoText ?xo_NoText ?xv_NoText ?xh_NoText ?xs_NoText ?xe_NoText ?xy_NoText ?xk_NoText ?xf0_NoText ?xi_NoText ?xz_NoText ?xl_NoText ?xq_NoText ?xj_NoText ?xa_Unclean ?xo_Unclean ?xv_Unclean ?xh_Unclean ?xs_Unclean ?xe_Unclean ?xy_Unclean ?xk_Unclean ?xf0_Unclean ?xf1_Unclean ?xi_Unclean ?xz_Unclean ?xl_Unclean ?xq_Unclean ?xj_Unclean ?xa_NoStage ?xo_NoStage ?xv_NoStage ?xh_NoStage ?xs_NoStage ?xe_NoStage ?xy_NoStage ?xk_NoStage ?xf0_NoStage ?xi_NoStage ?xz_NoStage ?xl_NoStage ?xq_NoStage ?xj_NoStage ?xa_NoGate ?xo_NoGate ?xv_NoGate ?xh_NoGate ?xs_NoGate ?xe_NoGate ?xy_NoGate ?xk_NoGate ?xf0_NoGate ?xi_NoGate ?xz_NoGate ?xl_NoGate ?xq_NoGate ?xj_NoGate ?xa_NoPlace ?xo_NoPlace ?xv_NoPlace ?xh_NoPlace ?xs_NoPlace ?xe_NoPlace ?xy_NoPlace ?xk_NoPlace ?xf0_NoPlace ?xi_NoPlace ?xz_NoPlace ?xl_NoPlace ?xq_NoPlace ?xj_NoPlace ?xa_Nothing ?xp_Nothing ?xk_Nothing ?xe_Nothing ?xy_Nothing ?xa_NoFit ?xp_NoFit ?xk_NoFit ?xe_NoFit ?xy_NoFit ?xa_NoProgram ?xp_NoProgram ?xk_NoProgram ?xe_NoProgram ?xy_NoProgram ?xa_NoStep ?xp_NoStep ?xk_NoStep ?xe_NoStep ?xy_NoStep
    (case a0 => k_is)
    (case l0 => k_is)
    (case q0 => k_is)
    (case k0 => k_is)
    (case a1 => k_is)
    (case l1 => k_is)
    (case q1 => k_is)
    (case k1 => k_is)
    (case a2 => k_is)
    (case l2 => k_is)
    (case q2 => k_is)
    (case k2 => k_is)
    (case a3 => k_is)
    (case l3 => k_is)
    (case q3 => k_is)
    (case k3 => k_is)
    (case a4 => k_is)
    (case l4 => k_is)
    (case q4 => k_is)
    (case k4 => k_is)
    (case a5 => k_is)
    (case l5 => k_is)
    (case q5 => k_is)
    (case k5 => k_is)
    (case a6 => k_is)
    (case l6 => k_is)
    (case q6 => k_is)
    (case k6 => k_is)
    (case a7 => k_is)
    (case l7 => k_is)
    (case q7 => k_is)
    (case k7 => k_is)
    (case z_len => k_is)
    (case z_abs => k_is)
    (case z_int => k_is)
    (case z_repr => k_is)
    (case z_enumerate => k_is)
    (case z_isinstance => k_is)
    (case z_range => k_is)
    (case z_max => k_is)
    (case z_min => k_is)
    (case z_all => k_is)
    (case XB => kernel_rfl)
    (case xa_NoLine => k_is)
    (case xo_NoLine => kernel_rfl)
    (case xv_NoLine => kernel_rfl)
    (case xh_NoLine => k_is)
    (case xs_NoLine => k_is)
    (case xe_NoLine => k_is)
    (case xy_NoLine => k_is)
    (case xk_NoLine => k_is)
    (case xf0_NoLine => k_is)
    (case xi_NoLine => k_is)
    (case xz_NoLine => k_is)
    (case xl_NoLine => k_is)
    (case xq_NoLine => k_is)
    (case xj_NoLine => k_is)
    (case xa_TooGreat => k_is)
    (case xo_TooGreat => kernel_rfl)
    (case xv_TooGreat => kernel_rfl)
    (case xh_TooGreat => k_is)
    (case xs_TooGreat => k_is)
    (case xe_TooGreat => k_is)
    (case xy_TooGreat => k_is)
    (case xk_TooGreat => k_is)
    (case xf0_TooGreat => k_is)
    (case xi_TooGreat => k_is)
    (case xz_TooGreat => k_is)
    (case xl_TooGreat => k_is)
    (case xq_TooGreat => k_is)
    (case xj_TooGreat => k_is)
    (case xa_NoKind => k_is)
    (case xo_NoKind => kernel_rfl)
    (case xv_NoKind => kernel_rfl)
    (case xh_NoKind => k_is)
    (case xs_NoKind => k_is)
    (case xe_NoKind => k_is)
    (case xy_NoKind => k_is)
    (case xk_NoKind => k_is)
    (case xf0_NoKind => k_is)
    (case xf1_NoKind => k_is)
    (case xi_NoKind => k_is)
    (case xz_NoKind => k_is)
    (case xl_NoKind => k_is)
    (case xq_NoKind => k_is)
    (case xj_NoKind => k_is)
    (case xa_NoText => k_is)
    (case xo_NoText => kernel_rfl)
    (case xv_NoText => kernel_rfl)
    (case xh_NoText => k_is)
    (case xs_NoText => k_is)
    (case xe_NoText => k_is)
    (case xy_NoText => k_is)
    (case xk_NoText => k_is)
    (case xf0_NoText => k_is)
    (case xi_NoText => k_is)
    (case xz_NoText => k_is)
    (case xl_NoText => k_is)
    (case xq_NoText => k_is)
    (case xj_NoText => k_is)
    (case xa_Unclean => k_is)
    (case xo_Unclean => kernel_rfl)
    (case xv_Unclean => kernel_rfl)
    (case xh_Unclean => k_is)
    (case xs_Unclean => k_is)
    (case xe_Unclean => k_is)
    (case xy_Unclean => k_is)
    (case xk_Unclean => k_is)
    (case xf0_Unclean => k_is)
    (case xf1_Unclean => k_is)
    (case xi_Unclean => k_is)
    (case xz_Unclean => k_is)
    (case xl_Unclean => k_is)
    (case xq_Unclean => k_is)
    (case xj_Unclean => k_is)
    (case xa_NoStage => k_is)
    (case xo_NoStage => kernel_rfl)
    (case xv_NoStage => kernel_rfl)
    (case xh_NoStage => k_is)
    (case xs_NoStage => k_is)
    (case xe_NoStage => k_is)
    (case xy_NoStage => k_is)
    (case xk_NoStage => k_is)
    (case xf0_NoStage => k_is)
    (case xi_NoStage => k_is)
    (case xz_NoStage => k_is)
    (case xl_NoStage => k_is)
    (case xq_NoStage => k_is)
    (case xj_NoStage => k_is)
    (case xa_NoGate => k_is)
    (case xo_NoGate => kernel_rfl)
    (case xv_NoGate => kernel_rfl)
    (case xh_NoGate => k_is)
    (case xs_NoGate => k_is)
    (case xe_NoGate => k_is)
    (case xy_NoGate => k_is)
    (case xk_NoGate => k_is)
    (case xf0_NoGate => k_is)
    (case xi_NoGate => k_is)
    (case xz_NoGate => k_is)
    (case xl_NoGate => k_is)
    (case xq_NoGate => k_is)
    (case xj_NoGate => k_is)
    (case xa_NoPlace => k_is)
    (case xo_NoPlace => kernel_rfl)
    (case xv_NoPlace => kernel_rfl)
    (case xh_NoPlace => k_is)
    (case xs_NoPlace => k_is)
    (case xe_NoPlace => k_is)
    (case xy_NoPlace => k_is)
    (case xk_NoPlace => k_is)
    (case xf0_NoPlace => k_is)
    (case xi_NoPlace => k_is)
    (case xz_NoPlace => k_is)
    (case xl_NoPlace => k_is)
    (case xq_NoPlace => k_is)
    (case xj_NoPlace => k_is)
    (case xa_Nothing => k_is)
    (case xp_Nothing => kernel_rfl)
    (case xk_Nothing => k_is)
    (case xe_Nothing => k_is)
    (case xy_Nothing => k_is)
    (case xa_NoFit => k_is)
    (case xp_NoFit => kernel_rfl)
    (case xk_NoFit => k_is)
    (case xe_NoFit => k_is)
    (case xy_NoFit => k_is)
    (case xa_NoProgram => k_is)
    (case xp_NoProgram => kernel_rfl)
    (case xk_NoProgram => k_is)
    (case xe_NoProgram => k_is)
    (case xy_NoProgram => k_is)
    (case xa_NoStep => k_is)
    (case xp_NoStep => kernel_rfl)
    (case xk_NoStep => k_is)
    (case xe_NoStep => k_is)
    (case xy_NoStep => k_is)
