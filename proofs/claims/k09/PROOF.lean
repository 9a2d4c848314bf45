import PyProof.Rows.All
import Wide.All
import OpenK.AllK
import Wide.FinOn
import HandS.ForMost
import HandS.Walk
import HandS.Style
import HandS.Flow
import HandS.Wide
import HandS.Zip
import HandS.More
import HandS.Rev
import HandS.Flt
import HandS.TupAny
import HandS.SortInts
import HandS.Exc
import HandS.EndBits
import PyProof.ReprLen
import HandS.Dict
import HandS.Iter
import HandS.ListItems
import HandS.NoneIn
import KE.KDictZip
import HandS.IsInst
import HandS.Deep
import KE.KUnpackStar
import KE.SortData
import KE.DataCmp
import HandS.Text
import HandS.Strs
import HandS.SetFor
import HandS.TupMul
import PyProof.NeKinds
import PyProof.TwoTypes
import PyProof.TwoTypesSub
import PyProof.AutoIntG7
import PyProof.Rows.StrBin
import PyProof.Rows.StrDigits
import PySem.Challenge.RW_gatewaves_k09_circuits_of_anything
set_option Elab.async false
set_option linter.all false
set_option maxRecDepth 100000
set_option maxHeartbeats 8000000
namespace Gw
open PySem L2

/-! ### heaps that grow -/
def Ex (H H' : Hp) : Prop := ∀ a o, H a = some o → H' a = some o
theorem Ex.refl (H : Hp) : Ex H H := fun _ _ h => h
theorem Ex.trans {H H1 H2 : Hp} (a : Ex H H1) (b : Ex H1 H2) : Ex H H2 := fun x o h => b x o (a x o h)
theorem Ex.new {H : Hp} {p : Addr} {o : HO} (h : H p = none) : Ex H (upd H p o) := fun a u e => by
  rw [upd_ne (ne_of_none e h)]; exact e
theorem Ex.none {H H' : Hp} {p : Addr} (e : Ex H H') (h : H' p = none) : H p = none := by
  cases q : H p with
  | none => rfl
  | some o => rw [e p o q] at h; cases h
theorem ex_rd {H H' : Hp} {a : Addr} {u : HO} (e : Ex H H') (h : Rd H a u) : Rd H' a u := by
  rcases h with h | ⟨o, h⟩
  · exact .inl (e _ _ h)
  · exact .inr ⟨o, e _ _ h⟩
theorem ex_l {K : PySem.W.Frag} {H H' : Hp} {a : Addr} {xs : List V} (e : Ex H H') (h : SqL K H a xs) : SqL K H' a xs := by
  rcases h with h | h
  · exact .inl (ex_rd e h)
  · exact .inr h
theorem ex_t {K : PySem.W.Frag} {H H' : Hp} {a : Addr} {xs : List V} (e : Ex H H') (h : SqT K H a xs) : SqT K H' a xs := by
  rcases h with h | h
  · exact .inl (ex_rd e h)
  · exact .inr h

/-! ### abstract data -/
inductive D where
  | non | bl (b : Bool) | int (i : Int) | str (x : Str)
  | tup (ds : List D) | lst (ds : List D) | scr (ds : List D) | ref (a : Addr)
  | dct (ks : List L2.Key) (ds : List D)
  | exc (cn : Str) (ns : List Str) (ds : List D)

/-- an exception object at a: its class, its dict -/
def xob (a C : Addr) (d : Option Addr) : HO := .ext fun h => ∃ (oe : Obj) (vs : Array Value), h.get? a = some oe ∧ Zc (.ref C) d oe ∧ oe.data = .fields vs
/-- its dict's fields -/
def XD (G : Hp) (d : Option Addr) (ws : List (Str × V)) : Prop := (d = none ∧ ws = []) ∨ ∃ dd, d = some dd ∧ G dd = some (.xd ws)
theorem XD.mono {G G' : Hp} {d : Option Addr} {ws : List (Str × V)} (e : Ex G G') (h : XD G d ws) : XD G' d ws := by
  rcases h with h | ⟨dd, h1, h2⟩
  · exact .inl h
  · exact .inr ⟨dd, h1, e _ _ h2⟩
mutual
def Rep (K : PySem.W.Frag) (G : Hp) : D → V → Prop
  | .non, v => v = .non
  | .bl b, v => v = .bl b
  | .int i, v => v = .int i
  | .str x, v => v = .str x
  | .ref a, v => v = .ref a
  | .tup ds, v => ∃ a xs, v = .ref a ∧ SqT K G a xs ∧ RepL K G ds xs
  | .lst ds, v => ∃ a xs, v = .ref a ∧ G a = some (.lst xs) ∧ RepL K G ds xs
  | .scr ds, v => ∃ a xs, v = .ref a ∧ SqL K G a xs ∧ RepL K G ds xs
  | .dct ks ds, v => ∃ a o xs, v = .ref a ∧ G a = some (.frz o (.dK (ks.zip xs))) ∧ ks.length = ds.length ∧ RepL K G ds xs
  | .exc cn ns ds, v => ∃ a C d ws, v = .ref a ∧ PySem.W.nsIn K mainGlobals cn = some (some (.ref C)) ∧ G a = some (xob a C d) ∧ XD G d ws ∧ ws.map (·.1) = ns ∧ RepL K G ds (ws.map (·.2))
def RepL (K : PySem.W.Frag) (G : Hp) : List D → List V → Prop
  | [], vs => vs = []
  | d :: ds, vs => ∃ x r, vs = x :: r ∧ Rep K G d x ∧ RepL K G ds r
end
section
variable {K : PySem.W.Frag} {G G' H H' : Hp}
theorem rep_tup {ds : List D} {v : V} : Rep K G (.tup ds) v ↔ ∃ a xs, v = .ref a ∧ SqT K G a xs ∧ RepL K G ds xs := by rw [Rep]
theorem rep_lst {ds : List D} {v : V} : Rep K G (.lst ds) v ↔ ∃ a xs, v = .ref a ∧ G a = some (.lst xs) ∧ RepL K G ds xs := by rw [Rep]
theorem rep_scr {ds : List D} {v : V} : Rep K G (.scr ds) v ↔ ∃ a xs, v = .ref a ∧ SqL K G a xs ∧ RepL K G ds xs := by rw [Rep]
theorem rep_dct {ks : List L2.Key} {ds : List D} {v : V} : Rep K G (.dct ks ds) v ↔ ∃ a o xs, v = .ref a ∧ G a = some (.frz o (.dK (ks.zip xs))) ∧ ks.length = ds.length ∧ RepL K G ds xs := by rw [Rep]
theorem rep_exc {cn : Str} {ns : List Str} {ds : List D} {v : V} : Rep K G (.exc cn ns ds) v ↔ ∃ a C d ws, v = .ref a ∧ PySem.W.nsIn K mainGlobals cn = some (some (.ref C)) ∧ G a = some (xob a C d) ∧ XD G d ws ∧ ws.map (·.1) = ns ∧ RepL K G ds (ws.map (·.2)) := by rw [Rep]
theorem repL_cons {d : D} {ds : List D} {vs : List V} : RepL K G (d :: ds) vs ↔ ∃ x r, vs = x :: r ∧ Rep K G d x ∧ RepL K G ds r := by rw [RepL]
theorem repL_nil {vs : List V} : RepL K G [] vs ↔ vs = [] := by rw [RepL]
mutual
theorem Rep.mono (e : Ex G G') : ∀ {d : D} {v : V}, Rep K G d v → Rep K G' d v
  | .non, _, h => by rw [Rep] at *; exact h
  | .bl _, _, h => by rw [Rep] at *; exact h
  | .int _, _, h => by rw [Rep] at *; exact h
  | .str _, _, h => by rw [Rep] at *; exact h
  | .ref _, _, h => by rw [Rep] at *; exact h
  | .tup _, _, h => by
    obtain ⟨a, xs, e1, h1, h2⟩ := rep_tup.mp h
    exact rep_tup.mpr ⟨a, xs, e1, ex_t e h1, RepL.mono e h2⟩
  | .lst _, _, h => by
    obtain ⟨a, xs, e1, h1, h2⟩ := rep_lst.mp h
    exact rep_lst.mpr ⟨a, xs, e1, e _ _ h1, RepL.mono e h2⟩
  | .scr _, _, h => by
    obtain ⟨a, xs, e1, h1, h2⟩ := rep_scr.mp h
    exact rep_scr.mpr ⟨a, xs, e1, ex_l e h1, RepL.mono e h2⟩
  | .dct _ _, _, h => by
    obtain ⟨a, o, xs, e1, h1, h0, h2⟩ := rep_dct.mp h
    exact rep_dct.mpr ⟨a, o, xs, e1, e _ _ h1, h0, RepL.mono e h2⟩
  | .exc _ _ _, _, h => by
    obtain ⟨a, C, d, ws, e1, h1, h2, h3, h4, h5⟩ := rep_exc.mp h
    exact rep_exc.mpr ⟨a, C, d, ws, e1, h1, e _ _ h2, h3.mono e, h4, RepL.mono e h5⟩
theorem RepL.mono (e : Ex G G') : ∀ {ds : List D} {vs : List V}, RepL K G ds vs → RepL K G' ds vs
  | [], _, h => by rw [RepL] at *; exact h
  | d :: ds, _, h => by
    obtain ⟨x, r, e1, h1, h2⟩ := repL_cons.mp h
    exact repL_cons.mpr ⟨x, r, e1, Rep.mono e h1, RepL.mono e h2⟩
end
theorem RepL.length : ∀ {ds : List D} {vs : List V}, RepL K G ds vs → vs.length = ds.length
  | [], _, h => by rw [repL_nil.mp h]; rfl
  | d :: ds, _, h => by
    obtain ⟨x, r, rfl, h1, h2⟩ := repL_cons.mp h
    rw [List.length_cons, List.length_cons, RepL.length h2]
theorem RepL.get : ∀ {ds : List D} {vs : List V} {i : Nat} {d : D}, RepL K G ds vs → ds[i]? = some d → ∃ v, vs[i]? = some v ∧ Rep K G d v
  | [], _, i, d, h, e => by simp at e
  | d0 :: ds, _, 0, d, h, e => by
    obtain ⟨x, r, rfl, h1, h2⟩ := repL_cons.mp h
    simp at e; subst e; exact ⟨x, rfl, h1⟩
  | d0 :: ds, _, i + 1, d, h, e => by
    obtain ⟨x, r, rfl, h1, h2⟩ := repL_cons.mp h
    simpa using RepL.get (i := i) h2 (by simpa using e)
theorem RepL.getV {ds : List D} {vs : List V} {i : Nat} {v : V} (h : RepL K G ds vs) (e : vs[i]? = some v) : ∃ d, ds[i]? = some d ∧ Rep K G d v := by
  have hl : i < ds.length := by rw [← h.length]; exact (List.getElem?_eq_some_iff.mp e).1
  obtain ⟨v', e', r⟩ := h.get (List.getElem?_eq_getElem hl)
  rw [e] at e'; cases e'
  exact ⟨_, List.getElem?_eq_getElem hl, r⟩
theorem RepL.append : ∀ {ds es : List D} {vs ws : List V}, RepL K G ds vs → RepL K G es ws → RepL K G (ds ++ es) (vs ++ ws)
  | [], _, _, _, h, h' => by rw [repL_nil.mp h]; exact h'
  | d :: ds, es, _, ws, h, h' => by
    obtain ⟨x, r, rfl, h1, h2⟩ := repL_cons.mp h
    exact repL_cons.mpr ⟨x, r ++ ws, rfl, h1, RepL.append h2 h'⟩
theorem RepL.one {d : D} {v : V} (h : Rep K G d v) : RepL K G [d] [v] := repL_cons.mpr ⟨v, [], rfl, h, repL_nil.mpr rfl⟩
theorem RepL.of_get : ∀ {ds : List D} {vs : List V}, vs.length = ds.length → (∀ (i : Nat) (d : D) (v : V), ds[i]? = some d → vs[i]? = some v → Rep K G d v) → RepL K G ds vs
  | [], vs, hl, _ => repL_nil.mpr (List.length_eq_zero_iff.mp hl)
  | d :: ds, [], hl, _ => by simp at hl
  | d :: ds, v :: vs, hl, h => repL_cons.mpr ⟨v, vs, rfl, h 0 d v rfl rfl, RepL.of_get (by simpa using hl) fun i d' v' a b => h (i + 1) d' v' (by simpa using a) (by simpa using b)⟩
theorem RepL.drop {ds : List D} {vs : List V} (n : Nat) (h : RepL K G ds vs) : RepL K G (ds.drop n) (vs.drop n) := by
  refine .of_get (by rw [List.length_drop, List.length_drop, h.length]) fun i d v a b => ?_
  rw [List.getElem?_drop] at a b
  obtain ⟨v', e, r⟩ := h.get a
  rw [b] at e; cases e; exact r
theorem RepL.take {ds : List D} {vs : List V} (n : Nat) (h : RepL K G ds vs) : RepL K G (ds.take n) (vs.take n) := by
  refine .of_get (by rw [List.length_take, List.length_take, h.length]) fun i d v a b => ?_
  rw [List.getElem?_take] at a b
  split at a
  · rename_i hi
    rw [if_pos hi] at b
    obtain ⟨v', e, r⟩ := h.get a
    rw [b] at e; cases e; exact r
  · cases a
theorem RepL.set {ds : List D} {vs : List V} {d : D} {v : V} (n : Nat) (h : RepL K G ds vs) (r : Rep K G d v) : RepL K G (ds.set n d) (vs.set n v) := by
  refine .of_get (by rw [List.length_set, List.length_set, h.length]) fun i d' v' a b => ?_
  rw [List.getElem?_set] at a b
  by_cases hi : n = i
  · rw [if_pos hi] at a b
    split at a
    · rename_i hn
      rw [if_pos (by rw [h.length]; exact hn)] at b
      cases a; cases b; exact r
    · cases a
  · rw [if_neg hi] at a b
    obtain ⟨w, e, q⟩ := h.get a
    rw [b] at e; cases e; exact q
theorem RepL.reverse {ds : List D} {vs : List V} (h : RepL K G ds vs) : RepL K G ds.reverse vs.reverse := by
  refine .of_get (by rw [List.length_reverse, List.length_reverse, h.length]) fun i d v a b => ?_
  have hi : i < ds.length := by simpa using (List.getElem?_eq_some_iff.mp a).1
  rw [List.getElem?_reverse hi] at a
  rw [List.getElem?_reverse (by rw [h.length]; exact hi), h.length] at b
  obtain ⟨w, e, q⟩ := h.get a
  rw [b] at e; cases e; exact q
theorem repL_map_int {ns : List Int} {vs : List V} : RepL K G (ns.map D.int) vs ↔ vs = ns.map V.int := by
  induction ns generalizing vs with
  | nil => exact repL_nil
  | cons n ns ih =>
    rw [List.map_cons, repL_cons]
    constructor
    · rintro ⟨x, r, rfl, h1, h2⟩
      rw [ih.mp h2, show x = V.int n by rw [Rep] at h1; exact h1]; rfl
    · rintro rfl
      exact ⟨_, _, rfl, by rw [Rep], ih.mpr rfl⟩
theorem repL_map_bl {bs : List Bool} {vs : List V} : RepL K G (bs.map D.bl) vs ↔ vs = bs.map V.bl := by
  induction bs generalizing vs with
  | nil => exact repL_nil
  | cons n ns ih =>
    rw [List.map_cons, repL_cons]
    constructor
    · rintro ⟨x, r, rfl, h1, h2⟩
      rw [ih.mp h2, show x = V.bl n by rw [Rep] at h1; exact h1]; rfl
    · rintro rfl
      exact ⟨_, _, rfl, by rw [Rep], ih.mpr rfl⟩
end

/-! ### cells, slots, the state -/
inductive Cell where
  | lst (ds : List D) | dct (ks : List L2.Key) (ds : List D)
inductive Slot where
  | non | dat (d : D) | own (c : Cell)
abbrev Mem := List (Addr × Cell)
abbrev Sl := List Slot
inductive Ret where
  | dat (d : D) | tmp (c : Cell) | var (i : Nat)
def CellOk (K : PySem.W.Frag) (G : Hp) : Cell → HO → Prop
  | .lst ds, o => ∃ vs, o = .lst vs ∧ RepL K G ds vs
  | .dct ks ds, o => ∃ vs, o = .dK (ks.zip vs) ∧ ks.length = ds.length ∧ RepL K G ds vs
def Cel (K : PySem.W.Frag) (H G : Hp) (a : Addr) (c : Cell) : Prop := G a = none ∧ ∃ o, H a = some o ∧ CellOk K G c o
def dom (M : Mem) : List Addr := M.map (·.1)
theorem CellOk.mono {K : PySem.W.Frag} {G G' : Hp} {c : Cell} {o : HO} (e : Ex G G') (h : CellOk K G c o) : CellOk K G' c o := by
  cases c with
  | lst ds => obtain ⟨vs, e1, h1⟩ := h; exact ⟨vs, e1, h1.mono e⟩
  | dct ks ds => obtain ⟨vs, e1, h0, h1⟩ := h; exact ⟨vs, e1, h0, h1.mono e⟩

structure Ent where
  H : Hp
  G : Hp
  A : List Addr
variable {ρ : Ent}
/-- an entry that refines an entry: frozen things have come -/
structure Refi (P B : Ent) : Prop where
  h : B.H = P.H
  a : B.A = P.A
  g : Ex P.G B.G
  gn : ∀ a o, B.G a = some o → P.G a = some o ∨ P.H a = none
theorem Refi.refl (P : Ent) : Refi P P := ⟨rfl, rfl, Ex.refl _, fun _ _ h => .inl h⟩
structure Stp (B : Ent) (H G : Hp) (M : Mem) : Prop where
  g : Ex B.G G
  fr : ∀ a o, B.H a = some o → a ∉ B.A → H a = some o
  gn : ∀ a o, G a = some o → B.G a = some o ∨ B.H a = none
  mn : ∀ a ∈ dom M, a ∈ B.A ∨ B.H a = none
  nn : ∀ a, H a = none → B.H a = none
def owned (σ : St) (Γ : Sl) (a : Addr) : Prop := ∃ (i : Nat) (c : Cell), Γ[i]? = some (Slot.own c) ∧ σ[i]? = some (some (V.ref a))
structure Ok (K : PySem.W.Frag) (ρ : Ent) (B : Ent) (σ : St) (H G : Hp) (Γ : Sl) (M : Mem) : Prop where
  st : Stp B H G M
  ex : Ex G H
  nd : (dom M).Nodup
  ms : ∀ a c, (a, c) ∈ M → Cel K H G a c
  dat : ∀ (i : Nat) (d : D), Γ[i]? = some (.dat d) → ∃ v, σ[i]? = some (some v) ∧ Rep K G d v
  own : ∀ (i : Nat) (c : Cell), Γ[i]? = some (.own c) → ∃ p, σ[i]? = some (some (.ref p)) ∧ B.H p = none ∧ p ∉ dom M ∧ Cel K H G p c
  dis : ∀ (i j : Nat) (ci cj : Cell) (p : Addr), Γ[i]? = some (.own ci) → Γ[j]? = some (.own cj) → σ[i]? = some (some (.ref p)) → σ[j]? = some (some (.ref p)) → i = j
  len : Γ.length = σ.length
  pb : Refi ρ B
/-- what an expression leaves -/
structure Es (σ : St) (H G : Hp) (Γ : Sl) (M : Mem) (H' G' : Hp) (Γ' : Sl) (M' : Mem) : Prop where
  g : Ex G G'
  tmp : ∀ a o, H a = some o → G a = none → a ∉ dom M → ¬ owned σ Γ a → H' a = some o ∧ G' a = none ∧ a ∉ dom M' ∧ ¬ owned σ Γ' a
  nn : ∀ a, H' a = none → H a = none
def RepR (K : PySem.W.Frag) (B : Ent) (σ : St) (H0 H G : Hp) (Γ : Sl) (M : Mem) : Ret → V → Prop
  | .dat d, v => Rep K G d v
  | .tmp c, v => ∃ p, v = .ref p ∧ H0 p = none ∧ B.H p = none ∧ Cel K H G p c ∧ p ∉ dom M ∧ ¬ owned σ Γ p
  | .var i, v => σ[i]? = some (some v)
section
variable {K : PySem.W.Frag} {B : Ent} {σ : St} {H G H1 G1 H2 G2 H0 : Hp} {Γ Γ1 Γ2 : Sl} {M M1 M2 : Mem}
theorem Es.refl : Es σ H G Γ M H G Γ M := ⟨Ex.refl G, fun a o h g m n => ⟨h, g, m, n⟩, fun _ h => h⟩
theorem Es.trans (a : Es σ H G Γ M H1 G1 Γ1 M1) (b : Es σ H1 G1 Γ1 M1 H2 G2 Γ2 M2) : Es σ H G Γ M H2 G2 Γ2 M2 :=
  ⟨a.g.trans b.g, fun x o h g m n => let ⟨h', g', m', n'⟩ := a.tmp x o h g m n; b.tmp x o h' g' m' n', fun x h => a.nn x (b.nn x h)⟩
theorem RepR.old {r : Ret} {v : V} {H0' : Hp} (h : RepR K B σ H0 H G Γ M r v) (e : ∀ a, H0 a = none → H0' a = none) : RepR K B σ H0' H G Γ M r v := by
  cases r with
  | dat d => exact h
  | tmp c => obtain ⟨p, e1, h0, r⟩ := h; exact ⟨p, e1, e p h0, r⟩
  | var i => exact h
theorem RepR.es {r : Ret} {v : V} (h : RepR K B σ H0 H G Γ M r v) (e : Es σ H G Γ M H1 G1 Γ1 M1) : RepR K B σ H0 H1 G1 Γ1 M1 r v := by
  cases r with
  | dat d => exact Rep.mono e.g h
  | tmp c =>
    obtain ⟨p, e1, h0, hb, ⟨hg, o, ho, hc⟩, hm, hn⟩ := h
    obtain ⟨a1, a2, a3, a4⟩ := e.tmp p o ho hg hm hn
    exact ⟨p, e1, h0, hb, ⟨a2, o, a1, hc.mono e.g⟩, a3, a4⟩
  | var i => exact h
/-- a new object of frozen data -/
theorem Ok.new {p : Addr} {o : HO} (k : Ok K ρ B σ H G Γ M) (hp : H p = none) : Ok K ρ B σ (upd H p o) (upd G p o) Γ M ∧ Es σ H G Γ M (upd H p o) (upd G p o) Γ M := by
  have gp : G p = none := k.ex.none hp
  have eG : Ex G (upd G p o) := Ex.new gp
  have eH : Ex H (upd H p o) := Ex.new hp
  have cel : ∀ a c, Cel K H G a c → Cel K (upd H p o) (upd G p o) a c := fun a c ⟨h1, u, h2, h3⟩ =>
    have ne : a ≠ p := ne_of_none h2 hp
    ⟨by rw [upd_ne ne]; exact h1, u, eH _ _ h2, h3.mono eG⟩
  refine ⟨⟨⟨k.st.g.trans eG, fun a u h n => eH _ _ (k.st.fr a u h n), fun a u h => ?_, k.st.mn, fun a h => k.st.nn a (eH.none h)⟩, fun a u h => ?_, k.nd, fun a c h => cel a c (k.ms a c h), fun i d h => ?_, fun i c h => ?_, k.dis, k.len, k.pb⟩, eG, fun a u h g m n => ?_, fun _ h => eH.none h⟩
  · by_cases e : a = p
    · subst e; exact .inr (k.st.nn _ hp)
    · rw [upd_ne e] at h; exact k.st.gn a u h
  · by_cases e : a = p
    · subst e; rw [upd_same] at h ⊢; exact h
    · rw [upd_ne e] at h ⊢; exact k.ex a u h
  · obtain ⟨v, h1, h2⟩ := k.dat i d h
    exact ⟨v, h1, h2.mono eG⟩
  · obtain ⟨q, h1, h2, h3, h4⟩ := k.own i c h
    exact ⟨q, h1, h2, h3, cel q c h4⟩
  · have ne : a ≠ p := ne_of_none h hp
    exact ⟨eH _ _ h, by rw [upd_ne ne]; exact g, m, n⟩
/-- a new object that nobody holds -/
theorem Ok.tmp {p : Addr} {o : HO} (k : Ok K ρ B σ H G Γ M) (hp : H p = none) : Ok K ρ B σ (upd H p o) G Γ M ∧ Es σ H G Γ M (upd H p o) G Γ M ∧ p ∉ dom M ∧ ¬ owned σ Γ p ∧ B.H p = none ∧ G p = none := by
  have gp : G p = none := k.ex.none hp
  have eH : Ex H (upd H p o) := Ex.new hp
  have cel : ∀ a c, Cel K H G a c → Cel K (upd H p o) G a c := fun a c ⟨h1, u, h2, h3⟩ => ⟨h1, u, eH _ _ h2, h3⟩
  have nm : p ∉ dom M := fun hm => by
    obtain ⟨⟨a, c⟩, h1, h2⟩ := List.mem_map.mp hm
    obtain ⟨_, u, h3, _⟩ := k.ms a c h1
    simp at h2; subst h2; rw [hp] at h3; cases h3
  have no : ¬ owned σ Γ p := fun ⟨i, c, h1, h2⟩ => by
    obtain ⟨q, h3, _, _, _, u, h4, _⟩ := k.own i c h1
    rw [h2] at h3; cases h3; rw [hp] at h4; cases h4
  exact ⟨⟨⟨k.st.g, fun a u h n => eH _ _ (k.st.fr a u h n), k.st.gn, k.st.mn, fun a h => k.st.nn a (eH.none h)⟩, k.ex.trans eH, k.nd, fun a c h => cel a c (k.ms a c h), k.dat, fun i c h => let ⟨q, h1, h2, h3, h4⟩ := k.own i c h; ⟨q, h1, h2, h3, cel q c h4⟩, k.dis, k.len, k.pb⟩,
    ⟨Ex.refl G, fun a u h g m n => ⟨eH _ _ h, g, m, n⟩, fun _ h => eH.none h⟩, nm, no, k.st.nn _ hp, gp⟩
/-- a thing that nobody holds is frozen -/
theorem Ok.freeze {p : Addr} {o : HO} (k : Ok K ρ B σ H G Γ M) (hp : H p = some o) (hb : B.H p = none) (hm : p ∉ dom M) (hn : ¬ owned σ Γ p) (hg : G p = none) :
    Ok K ρ B σ H (upd G p o) Γ M ∧ Ex G (upd G p o) := by
  have eG : Ex G (upd G p o) := Ex.new hg
  have cel : ∀ a c, a ≠ p → Cel K H G a c → Cel K H (upd G p o) a c := fun a c ne ⟨h1, u, h2, h3⟩ => ⟨by rw [upd_ne ne]; exact h1, u, h2, h3.mono eG⟩
  refine ⟨⟨⟨k.st.g.trans eG, k.st.fr, fun a u h => ?_, k.st.mn, k.st.nn⟩, fun a u h => ?_, k.nd, fun a c h => cel a c (fun e => hm (e ▸ List.mem_map.mpr ⟨_, h, rfl⟩)) (k.ms a c h), fun i d h => ?_, fun i c h => ?_, k.dis, k.len, k.pb⟩, eG⟩
  · by_cases e : a = p
    · subst e; exact .inr hb
    · rw [upd_ne e] at h; exact k.st.gn a u h
  · by_cases e : a = p
    · subst e; rw [upd_same] at h; cases h; exact hp
    · rw [upd_ne e] at h; exact k.ex a u h
  · obtain ⟨v, h1, h2⟩ := k.dat i d h
    exact ⟨v, h1, h2.mono eG⟩
  · obtain ⟨q, h1, h2, h3, h4⟩ := k.own i c h
    exact ⟨q, h1, h2, h3, cel q c (fun e => hn ⟨i, c, h, e ▸ h1⟩) h4⟩
theorem getElem?_setS {l : Sl} {i j : Nat} {s t : Slot} (h : (l.set i s)[j]? = some t) : (j = i ∧ t = s) ∨ (j ≠ i ∧ l[j]? = some t) := by
  rw [List.getElem?_set] at h
  by_cases e : i = j
  · rw [if_pos e] at h
    split at h
    · cases h; exact .inl ⟨e.symm, rfl⟩
    · cases h
  · rw [if_neg e] at h; exact .inr ⟨fun q => e q.symm, h⟩
/-- an own slot is frozen -/
theorem Ok.frzSlot {i : Nat} {ds : List D} (k : Ok K ρ B σ H G Γ M) (hi : Γ[i]? = some (.own (.lst ds))) :
    ∃ G' v, Ok K ρ B σ H G' (Γ.set i (.dat (.lst ds))) M ∧ Es σ H G Γ M H G' (Γ.set i (.dat (.lst ds))) M ∧ σ[i]? = some (some v) ∧ Rep K G' (.lst ds) v := by
  obtain ⟨p, s1, hb, hm, hg, o, ho, vs, rfl, hr⟩ := k.own i _ hi
  have no : ¬ owned σ (Γ.set i .non) p := fun ⟨j, c, h1, h2⟩ => by
    rcases getElem?_setS h1 with ⟨_, e⟩ | ⟨ne, e⟩
    · cases e
    · exact ne (k.dis j i _ _ p e hi h2 s1)
  have k0 : Ok K ρ B σ H G (Γ.set i .non) M := ⟨k.st, k.ex, k.nd, k.ms, fun j d h => by
      rcases getElem?_setS h with ⟨_, e⟩ | ⟨_, e⟩
      · cases e
      · exact k.dat j d e, fun j c h => by
      rcases getElem?_setS h with ⟨_, e⟩ | ⟨_, e⟩
      · cases e
      · exact k.own j c e, fun j l c c' q h h' a b => by
      rcases getElem?_setS h with ⟨_, e⟩ | ⟨_, e⟩
      · cases e
      rcases getElem?_setS h' with ⟨_, e'⟩ | ⟨_, e'⟩
      · cases e'
      exact k.dis j l c c' q e e' a b, by rw [List.length_set]; exact k.len, k.pb⟩
  obtain ⟨k1, eG⟩ := k0.freeze ho hb hm no hg
  have rp : Rep K (upd G p (.lst vs)) (.lst ds) (.ref p) := rep_lst.mpr ⟨p, vs, rfl, upd_same, hr.mono eG⟩
  refine ⟨_, _, ⟨k1.st, k1.ex, k1.nd, k1.ms, fun j d h => ?_, fun j c h => ?_, fun j l c c' q h h' a b => ?_, by rw [List.length_set]; exact k.len, k.pb⟩, ⟨eG, fun a u h g m n => ?_, fun _ h => h⟩, s1, rp⟩
  · rcases getElem?_setS h with ⟨e1, e⟩ | ⟨ne, e⟩
    · cases e; subst e1; exact ⟨_, s1, rp⟩
    · exact k1.dat j d (by rw [List.getElem?_set_ne (fun q => ne q.symm)]; exact e)
  · rcases getElem?_setS h with ⟨_, e⟩ | ⟨ne, e⟩
    · cases e
    · exact k1.own j c (by rw [List.getElem?_set_ne (fun q => ne q.symm)]; exact e)
  · rcases getElem?_setS h with ⟨_, e⟩ | ⟨_, e⟩
    · cases e
    rcases getElem?_setS h' with ⟨_, e'⟩ | ⟨_, e'⟩
    · cases e'
    exact k.dis j l c c' q e e' a b
  · have ne : a ≠ p := fun e => n ⟨i, _, hi, e ▸ s1⟩
    refine ⟨h, by rw [upd_ne ne]; exact g, m, fun ⟨j, c, h1, h2⟩ => n ?_⟩
    rcases getElem?_setS h1 with ⟨_, e⟩ | ⟨_, e⟩
    · cases e
    · exact ⟨j, c, e, h2⟩
end
end Gw

namespace Gw
open PySem L2
variable {ρ : Ent}

abbrev AE := Sl → Mem → (Ret → Sl → Mem → Prop) → Prop
abbrev AT := Sl → Mem → (Bool → Sl → Mem → Prop) → Prop
abbrev AA := Sl → Mem → (List D → Sl → Mem → Prop) → Prop
abbrev AOp := Ret → Ret → Sl → Mem → (Ret → Sl → Mem → Prop) → Prop
abbrev AUn := Ret → Sl → Mem → (Ret → Sl → Mem → Prop) → Prop
structure AEnds where
  nx : Sl → Mem → Prop
  rt : Ret → Sl → Mem → Prop
  bk : Sl → Mem → Prop
  ct : Sl → Mem → Prop
abbrev AS := AEnds → Sl → Mem → Prop

section
variable (K : PySem.W.Frag) (ρ : Ent)
def Kont (B : Ent) (σ : St) (H G : Hp) (Γ : Sl) (M : Mem) (Q : Ret → Sl → Mem → Prop) (R : VK) : Prop :=
  ∀ v H' G' Γ' M' r, Ok K ρ B σ H' G' Γ' M' → Es σ H G Γ M H' G' Γ' M' → RepR K B σ H H' G' Γ' M' r v → Q r Γ' M' → R v H'
def RdE (te : TE) (ae : AE) : Prop := ∀ B σ H G Γ M Q R, Ok K ρ B σ H G Γ M → ae Γ M Q → Kont K ρ B σ H G Γ M Q R → te σ H R
def RdT (tt : TT) (at' : AT) : Prop := ∀ B σ H G Γ M (Q : Bool → Sl → Mem → Prop) (R : Bool → Hp → Prop), Ok K ρ B σ H G Γ M → at' Γ M Q →
  (∀ b H' G' Γ' M', Ok K ρ B σ H' G' Γ' M' → Es σ H G Γ M H' G' Γ' M' → Q b Γ' M' → R b H') → tt σ H R
def RdA (ta : TA) (aa : AA) : Prop := ∀ B σ H G Γ M (Q : List D → Sl → Mem → Prop) (R : List V → Hp → Prop), Ok K ρ B σ H G Γ M → aa Γ M Q →
  (∀ vs H' G' Γ' M' ds, Ok K ρ B σ H' G' Γ' M' → Es σ H G Γ M H' G' Γ' M' → RepL K G' ds vs → Q ds Γ' M' → R vs H') → ta σ H R
def RdO (r : R2) (ao : AOp) : Prop := ∀ B σ H H1 H2 G Γ M rx ry x y Q R, Ok K ρ B σ H G Γ M → RepR K B σ H1 H G Γ M rx x → RepR K B σ H2 H G Γ M ry y → ao rx ry Γ M Q → Kont K ρ B σ H G Γ M Q R → r x y H R
/-- a call with one value -/
def RdU (r : List V → Hp → VK → Prop) (au : AUn) : Prop := ∀ B σ H H1 G Γ M rx x Q R, Ok K ρ B σ H G Γ M → RepR K B σ H1 H G Γ M rx x → au rx Γ M Q → Kont K ρ B σ H G Γ M Q R → r [x] H R
def RdU2 (r : List V → Hp → VK → Prop) (ao : AOp) : Prop := ∀ B σ H H1 H2 G Γ M rx ry x y Q R, Ok K ρ B σ H G Γ M → RepR K B σ H1 H G Γ M rx x → RepR K B σ H2 H G Γ M ry y → ao rx ry Γ M Q → Kont K ρ B σ H G Γ M Q R → r [x, y] H R
def RdV (r : V → Hp → VK → Prop) (au : AUn) : Prop := ∀ B σ H H1 G Γ M rx x Q R, Ok K ρ B σ H G Γ M → RepR K B σ H1 H G Γ M rx x → au rx Γ M Q → Kont K ρ B σ H G Γ M Q R → r x H R
end
structure QE (X : Cx) (ρ : Ent) (e : Expr) (te : TE) (ae : AE) : Prop where
  pe : PE X e te
  rd : RdE X.K ρ te ae
structure QT (X : Cx) (ρ : Ent) (e : Expr) (tt : TT) (at' : AT) : Prop where
  pe : PT X e tt
  rd : RdT X.K ρ tt at'
structure QW (X : Cx) (ρ : Ent) (e : Expr) (tt : TT) (at' : AT) : Prop where
  pe : PW X e tt
  rd : RdT X.K ρ tt at'
structure QA (X : Cx) (ρ : Ent) (es : List Expr) (ta : TA) (aa : AA) : Prop where
  pe : PA X es ta
  rd : RdA X.K ρ ta aa

section
variable {X : Cx} {a b c : Expr} {ta tb tc te : TE} {aa ab ac ae : AE} {pos : Pos} {K : PySem.W.Frag} {B : Ent} {σ : St} {H G H1 G1 H2 G2 : Hp} {Γ Γ1 Γ2 : Sl} {M M1 M2 : Mem}
theorem Kont.es {Q : Ret → Sl → Mem → Prop} {R : VK} (k : Kont K ρ B σ H G Γ M Q R) (e : Es σ H G Γ M H1 G1 Γ1 M1) : Kont K ρ B σ H1 G1 Γ1 M1 Q R :=
  fun v H' G' Γ' M' r o e' rr q => k v H' G' Γ' M' r o (e.trans e') (rr.old fun p h => e.nn p h) q

/-! ### names, constants -/
def aVar (i : Nat) (Γ : Sl) (M : Mem) (Q : Ret → Sl → Mem → Prop) : Prop := match Γ[i]? with
  | some (.dat d) => Q (.dat d) Γ M
  | some (.own _) => Q (.var i) Γ M
  | _ => False
def aC (d : D) (Γ : Sl) (M : Mem) (Q : Ret → Sl → Mem → Prop) : Prop := Q (.dat d) Γ M
theorem rd_var (i : Nat) : RdE K ρ (tVar i) (aVar i) := by
  intro B σ H G Γ M Q R k h q
  unfold aVar at h
  split at h
  · rename_i d e
    obtain ⟨v, h1, h2⟩ := k.dat i d e
    exact ⟨v, h1, q v H G Γ M (.dat d) k .refl h2 h⟩
  · rename_i c e
    obtain ⟨p, h1, _⟩ := k.own i c e
    exact ⟨_, h1, q _ H G Γ M (.var i) k .refl h1 h⟩
  · exact h.elim
theorem rd_c {v : V} {d : D} (h : ∀ G, Rep K G d v) : RdE K ρ (tC v) (aC d) := fun _ _ H G Γ M _ _ k h' q => q v H G Γ M (.dat d) k .refl (h G) h'
theorem qv (i : Nat) {x : Str} {pos : Pos} (hN : X.N[i]? = some x := by rfl) (hv : Vis X.env.scope x := by first | exact Or.inl rfl | exact Or.inr (Or.inl rfl) | exact Or.inr (Or.inr rfl)) (hd : (x == ("__debug__" : Str)) = false := by decide)
    (hcd : (x == ("__classdict__" : Str)) = false := by decide) : QE X ρ (.Name x pos) (tVar i) (aVar i) := ⟨pe_var hN hv hd hcd, rd_var i⟩
theorem q_int {i j pos} : QE X ρ (.Constant (.int i) j pos) (tC (.int i)) (aC (.int i)) := ⟨pe_int, rd_c fun _ => by rw [Rep]⟩
theorem q_bl {b j pos} : QE X ρ (.Constant (.bool b) j pos) (tC (.bl b)) (aC (.bl b)) := ⟨pe_bl, rd_c fun _ => by rw [Rep]⟩
theorem q_non {j pos} : QE X ρ (.Constant .none j pos) (tC .non) (aC .non) := ⟨pe_non, rd_c fun _ => by rw [Rep]⟩
theorem q_str {x j pos} : QE X ρ (.Constant (.str x) j pos) (tC (.str x)) (aC (.str x)) := ⟨pe_str, rd_c fun _ => by rw [Rep]⟩

/-! ### freezing -/
def frz (r : Ret) (Γ : Sl) (k : D → Sl → Prop) : Prop := match r with
  | .dat d => k d Γ
  | .tmp (.lst ds) => k (.lst ds) Γ
  | .tmp _ => False
  | .var i => match Γ[i]? with
    | some (.dat d) => k d Γ
    | some (.own (.lst ds)) => k (.lst ds) (Γ.set i (.dat (.lst ds)))
    | _ => False
theorem frz_ok {r : Ret} {v : V} {k : D → Sl → Prop} {H0 : Hp} (o : Ok K ρ B σ H1 G1 Γ1 M1) (e : Es σ H G Γ M H1 G1 Γ1 M1) (rr : RepR K B σ H H1 G1 Γ1 M1 r v) (h : frz r Γ1 k) :
    ∃ G2 Γ2 d, Ok K ρ B σ H1 G2 Γ2 M1 ∧ Es σ H G Γ M H1 G2 Γ2 M1 ∧ Rep K G2 d v ∧ k d Γ2 := by
  cases r with
  | dat d => exact ⟨G1, Γ1, d, o, e, rr, h⟩
  | tmp c =>
    obtain ⟨p, rfl, h0, hb, ⟨hg, u, hu, hc⟩, hm, hn⟩ := rr
    cases c with
    | lst ds =>
      obtain ⟨vs, rfl, hr⟩ := hc
      obtain ⟨k1, eG⟩ := o.freeze hu hb hm hn hg
      refine ⟨_, Γ1, .lst ds, k1, ⟨e.g.trans eG, fun a w h g m n => ?_, e.nn⟩, rep_lst.mpr ⟨p, vs, rfl, upd_same, hr.mono eG⟩, h⟩
      obtain ⟨a1, a2, a3, a4⟩ := e.tmp a w h g m n
      have ne : a ≠ p := ne_of_none h h0
      exact ⟨a1, by rw [upd_ne ne]; exact a2, a3, a4⟩
    | dct ks ds => exact h.elim
  | var i =>
    unfold frz at h
    dsimp only at h
    split at h
    · rename_i d e1
      obtain ⟨v', h1, h2⟩ := o.dat i d e1
      have : v' = v := by have := (show σ[i]? = some (some v) from rr); rw [h1] at this; cases this; rfl
      subst this
      exact ⟨G1, Γ1, d, o, e, h2, h⟩
    · rename_i ds e1
      obtain ⟨G2, v', k1, e2, h1, h2⟩ := o.frzSlot e1
      have : v' = v := by have := (show σ[i]? = some (some v) from rr); rw [h1] at this; cases this; rfl
      subst this
      exact ⟨G2, _, _, k1, e.trans e2, h2, h⟩
    · exact h.elim
/-- the contents of a sequence: tuple or list -/
inductive Sq where
  | tup (ds : List D) | lst (ds : List D) | scr (ds : List D)
def Sq.ds : Sq → List D
  | .tup ds => ds
  | .lst ds => ds
  | .scr ds => ds
def sqD (M : Mem) : D → Option Sq
  | .tup ds => some (.tup ds)
  | .lst ds => some (.lst ds)
  | .scr ds => some (.scr ds)
  | .ref a => match M.lookup a with
    | some (.lst ds) => some (.lst ds)
    | _ => none
  | _ => none
def sqOf (r : Ret) (Γ : Sl) (M : Mem) : Option Sq := match r with
  | .dat d => sqD M d
  | .tmp (.lst ds) => some (.lst ds)
  | .tmp _ => none
  | .var i => match Γ[i]? with
    | some (.dat d) => sqD M d
    | some (.own (.lst ds)) => some (.lst ds)
    | _ => none
theorem lookup_mem {M : Mem} {a : Addr} {c : Cell} (h : M.lookup a = some c) : (a, c) ∈ M := by
  induction M with
  | nil => cases h
  | cons x M ih =>
    obtain ⟨b, c'⟩ := x
    rw [List.lookup_cons] at h
    by_cases e : a = b
    · subst e; rw [beq_self_eq_true] at h; cases h; exact List.mem_cons_self
    · rw [beq_eq_false_iff_ne.mpr e] at h; exact List.mem_cons_of_mem _ (ih h)
/-- what stands for a sequence -/
def SqR (K : PySem.W.Frag) (H G : Hp) (s : Sq) (v : V) : Prop := match s with
  | .tup ds => ∃ a xs, v = .ref a ∧ SqT K H a xs ∧ RepL K G ds xs
  | .lst ds => ∃ a xs, v = .ref a ∧ H a = some (.lst xs) ∧ RepL K G ds xs
  | .scr ds => ∃ a xs, v = .ref a ∧ SqL K H a xs ∧ RepL K G ds xs
/-- to be read -/
theorem SqR.rd {s : Sq} {v : V} (h : SqR K H G s v) : ∃ a xs, v = .ref a ∧ ((∃ ds, s = .tup ds ∧ SqT K H a xs) ∨ ((∃ ds, s = .lst ds ∨ s = .scr ds) ∧ SqL K H a xs)) ∧ RepL K G s.ds xs := by
  cases s with
  | tup ds => obtain ⟨a, xs, e, h1, h2⟩ := h; exact ⟨a, xs, e, .inl ⟨ds, rfl, h1⟩, h2⟩
  | lst ds => obtain ⟨a, xs, e, h1, h2⟩ := h; exact ⟨a, xs, e, .inr ⟨⟨ds, .inl rfl⟩, SqL.of h1⟩, h2⟩
  | scr ds => obtain ⟨a, xs, e, h1, h2⟩ := h; exact ⟨a, xs, e, .inr ⟨⟨ds, .inr rfl⟩, h1⟩, h2⟩
theorem sqD_ok {d : D} {v : V} {s : Sq} (o : Ok K ρ B σ H G Γ M) (r : Rep K G d v) (h : sqD M d = some s) : SqR K H G s v := by
  unfold sqD at h
  split at h
  · cases h
    obtain ⟨a, xs, e, h1, h2⟩ := rep_tup.mp r
    exact ⟨a, xs, e, ex_t o.ex h1, h2⟩
  · cases h
    obtain ⟨a, xs, e, h1, h2⟩ := rep_lst.mp r
    exact ⟨a, xs, e, o.ex _ _ h1, h2⟩
  · cases h
    obtain ⟨a, xs, e, h1, h2⟩ := rep_scr.mp r
    exact ⟨a, xs, e, ex_l o.ex h1, h2⟩
  · rename_i a
    split at h
    · rename_i ds e
      cases h
      obtain ⟨_, u, hu, vs, rfl, hr⟩ := o.ms a _ (lookup_mem e)
      rw [Rep] at r
      exact ⟨a, vs, r, hu, hr⟩
    · cases h
  · cases h
theorem sqOf_ok {r : Ret} {v : V} {s : Sq} {H0 : Hp} (o : Ok K ρ B σ H G Γ M) (rr : RepR K B σ H0 H G Γ M r v) (h : sqOf r Γ M = some s) : SqR K H G s v := by
  cases r with
  | dat d => exact sqD_ok o rr h
  | tmp c =>
    cases c with
    | lst ds =>
      cases h
      obtain ⟨p, rfl, h0, hb, ⟨hg, u, hu, vs, rfl, hr⟩, hm, hn⟩ := rr
      exact ⟨p, vs, rfl, hu, hr⟩
    | dct ks ds => cases h
  | var i =>
    unfold sqOf at h
    dsimp only at h
    split at h
    · rename_i d e1
      obtain ⟨v', h1, h2⟩ := o.dat i d e1
      have : v' = v := by have := (show σ[i]? = some (some v) from rr); rw [h1] at this; cases this; rfl
      subst this
      exact sqD_ok o h2 h
    · rename_i ds e1
      cases h
      obtain ⟨p, s1, hb, hm, hg, u, ho, vs, rfl, hr⟩ := o.own i _ e1
      have : v = .ref p := by have := (show σ[i]? = some (some v) from rr); rw [s1] at this; cases this; rfl
      subst this
      exact ⟨p, vs, rfl, ho, hr⟩
    · cases h

/-! ### operators -/
def aOp (ao : AOp) (aa ab : AE) (Γ : Sl) (M : Mem) (Q : Ret → Sl → Mem → Prop) : Prop := aa Γ M fun x Γ1 M1 => ab Γ1 M1 fun y Γ2 M2 => ao x y Γ2 M2 Q
theorem rd_op {r : R2} {ao : AOp} (ho : RdO K ρ r ao) (ha : RdE K ρ ta aa) (hb : RdE K ρ tb ab) : RdE K ρ (tOp r ta tb) (aOp ao aa ab) := by
  intro B σ H G Γ M Q R k h q
  refine ha B σ H G Γ M _ _ k h fun v H1 G1 Γ1 M1 r1 k1 e1 rr1 h1 => ?_
  refine hb B σ H1 G1 Γ1 M1 _ _ k1 h1 fun u H2 G2 Γ2 M2 r2 k2 e2 rr2 h2 => ?_
  exact ho B σ H2 _ _ G2 Γ2 M2 r1 r2 v u Q R k2 (rr1.es e2) rr2 h2 (q.es (e1.trans e2))
theorem q_op {op : Operator} {r : R2} {ao : AOp} (ho : OpR X (binaryOp op) r) (hr : RdO X.K ρ r ao) (ha : QE X ρ a ta aa) (hb : QE X ρ b tb ab) : QE X ρ (.BinOp a op b pos) (tOp r ta tb) (aOp ao aa ab) := ⟨pe_op ho ha.pe hb.pe, rd_op hr ha.rd hb.rd⟩
structure CmpR (X : Cx) (ρ : Ent) (op : CmpOp) (r : R2) (ao : AOp) : Prop where
  ho : OpR X (compareOp op) r
  rd : RdO X.K ρ r ao
theorem q_cmp {op : CmpOp} {r : R2} {ao : AOp} (c : CmpR X ρ op r ao) (ha : QE X ρ a ta aa) (hb : QE X ρ b tb ab) (hm : behindInMarks op b = false := by first | exact nomark _ | rfl) : QE X ρ (.Compare a [op] [b] pos) (tOp r ta tb) (aOp ao aa ab) :=
  ⟨pe_cmpR c.ho ha.pe hb.pe hm, rd_op c.rd ha.rd hb.rd⟩
theorem q_ix {r : R2} {ao : AOp} (ho : IxR X r) (hr : RdO X.K ρ r ao) (ha : QE X ρ a ta aa) (hb : QE X ρ b tb ab) (hs : PlainIx b := by exact fun _ _ => rfl) : QE X ρ (.Subscript a b pos) (tOp r ta tb) (aOp ao aa ab) := ⟨pe_ix ho ha.pe hb.pe hs, rd_op hr ha.rd hb.rd⟩
def aI0 (g : Int → Int → D) (x : Ret) (y : Ret) (Γ : Sl) (M : Mem) (Q : Ret → Sl → Mem → Prop) : Prop := match x, y with
  | .dat (.int i), .dat (.int j) => Q (.dat (g i j)) Γ M
  | _, _ => False
def aIC (C : Int → Int → Prop) (g : Int → Int → D) (x : Ret) (y : Ret) (Γ : Sl) (M : Mem) (Q : Ret → Sl → Mem → Prop) : Prop := match x, y with
  | .dat (.int i), .dat (.int j) => C i j ∧ Q (.dat (g i j)) Γ M
  | _, _ => False
theorem rd_I0 {g : Int → Int → V} {g' : Int → Int → D} (hg : ∀ i j G, Rep K G (g' i j) (g i j)) : RdO K ρ (rI0 g) (aI0 g') := by
  intro B σ H H1 H2 G Γ M rx ry x y Q R k r1 r2 h q
  unfold aI0 at h
  split at h
  · rename_i i j
    have e1 : x = .int i := by have := r1; simp only [RepR, Rep] at this; exact this
    have e2 : y = .int j := by have := r2; simp only [RepR, Rep] at this; exact this
    exact ⟨i, j, e1, e2, q _ H G Γ M (.dat _) k .refl (hg i j G) h⟩
  · exact h.elim
theorem rd_IC {C : Int → Int → Prop} {g : Int → Int → V} {g' : Int → Int → D} (hg : ∀ i j G, Rep K G (g' i j) (g i j)) : RdO K ρ (rI C g) (aIC C g') := by
  intro B σ H H1 H2 G Γ M rx ry x y Q R k r1 r2 h q
  unfold aIC at h
  split at h
  · rename_i i j
    have e1 : x = .int i := by have := r1; simp only [RepR, Rep] at this; exact this
    have e2 : y = .int j := by have := r2; simp only [RepR, Rep] at this; exact this
    exact ⟨i, j, e1, e2, h.1, q _ H G Γ M (.dat _) k .refl (hg i j G) h.2⟩
  · exact h.elim
theorem q_add (ha : QE X ρ a ta aa) (hb : QE X ρ b tb ab) : QE X ρ (.BinOp a .Add b pos) (tOp (rI0 fun i j => .int (i + j)) ta tb) (aOp (aI0 fun i j => .int (i + j)) aa ab) := q_op op_add (rd_I0 fun _ _ _ => by rw [Rep]) ha hb
theorem q_sub (ha : QE X ρ a ta aa) (hb : QE X ρ b tb ab) : QE X ρ (.BinOp a .Sub b pos) (tOp (rI0 fun i j => .int (i - j)) ta tb) (aOp (aI0 fun i j => .int (i - j)) aa ab) := q_op op_sub (rd_I0 fun _ _ _ => by rw [Rep]) ha hb
/-- a product that fits: one factor small, or both together not too great -/
def CM (i j : Int) : Prop := CMul i j ∨ CMulW i j
theorem op_mulA : OpR X (binaryOp .Mult) (rI CM fun i j => .int (i * j)) := fun pins s σ H x y v u Q I rx ry h => by
  obtain ⟨i, j, e1, e2, hc, q⟩ := h
  rcases hc with hc | hc
  · exact op_mul pins s σ H x y v u Q I rx ry ⟨i, j, e1, e2, hc, q⟩
  · exact op_mulW pins s σ H x y v u Q I rx ry ⟨i, j, e1, e2, hc, q⟩
theorem q_mul (ha : QE X ρ a ta aa) (hb : QE X ρ b tb ab) : QE X ρ (.BinOp a .Mult b pos) (tOp (rI CM fun i j => .int (i * j)) ta tb) (aOp (aIC CM fun i j => .int (i * j)) aa ab) := q_op op_mulA (rd_IC fun _ _ _ => by rw [Rep]) ha hb
theorem q_mod (ha : QE X ρ a ta aa) (hb : QE X ρ b tb ab) : QE X ρ (.BinOp a .Mod b pos) (tOp (rI (fun _ j => j ≠ 0) fun i j => .int (i.fmod j)) ta tb) (aOp (aIC (fun _ j => j ≠ 0) fun i j => .int (i.fmod j)) aa ab) := q_op op_modN (rd_IC fun _ _ _ => by rw [Rep]) ha hb
theorem q_div (ha : QE X ρ a ta aa) (hb : QE X ρ b tb ab) : QE X ρ (.BinOp a .FloorDiv b pos) (tOp (rI CDivW fun i j => .int (i / j)) ta tb) (aOp (aIC CDivW fun i j => .int (i / j)) aa ab) := q_op op_fdivW (rd_IC fun _ _ _ => by rw [Rep]) ha hb
theorem q_pow (ha : QE X ρ a ta aa) (hb : QE X ρ b tb ab) : QE X ρ (.BinOp a .Pow b pos) (tOp (rI CPow fun i j => .int (i ^ j.toNat)) ta tb) (aOp (aIC CPow fun i j => .int (i ^ j.toNat)) aa ab) := q_op op_pow (rd_IC fun _ _ _ => by rw [Rep]) ha hb
theorem c_lt : CmpR X ρ .Lt (rI0 fun i j => .bl (decide (i < j))) (aI0 fun i j => .bl (decide (i < j))) := ⟨op_lt, rd_I0 fun _ _ _ => by rw [Rep]⟩
theorem c_le : CmpR X ρ .LtE (rI0 fun i j => .bl (decide (i ≤ j))) (aI0 fun i j => .bl (decide (i ≤ j))) := ⟨op_le, rd_I0 fun _ _ _ => by rw [Rep]⟩
theorem c_gt : CmpR X ρ .Gt (rI0 fun i j => .bl (decide (j < i))) (aI0 fun i j => .bl (decide (j < i))) := ⟨op_gt, rd_I0 fun _ _ _ => by rw [Rep]⟩
theorem c_ge : CmpR X ρ .GtE (rI0 fun i j => .bl (decide (j ≤ i))) (aI0 fun i j => .bl (decide (j ≤ i))) := ⟨op_ge, rd_I0 fun _ _ _ => by rw [Rep]⟩

/-! ### argument lists, tuples, lists -/
def aNil (Γ : Sl) (M : Mem) (Q : List D → Sl → Mem → Prop) : Prop := Q [] Γ M
def aCons (aa : AE) (ar : AA) (Γ : Sl) (M : Mem) (Q : List D → Sl → Mem → Prop) : Prop := aa Γ M fun r Γ1 M1 => frz r Γ1 fun d Γ2 => ar Γ2 M1 fun ds Γ3 M3 => Q (d :: ds) Γ3 M3
theorem rd_nil : RdA K ρ tNil aNil := fun _ _ H G Γ M _ _ k h q => q [] H G Γ M [] k .refl (repL_nil.mpr rfl) h
theorem rd_cons {tr : TA} {ar : AA} (ha : RdE K ρ ta aa) (hr : RdA K ρ tr ar) : RdA K ρ (tCons ta tr) (aCons aa ar) := by
  intro B σ H G Γ M Q R k h q
  refine ha B σ H G Γ M _ _ k h fun v H1 G1 Γ1 M1 r k1 e1 rr h1 => ?_
  obtain ⟨G2, Γ2, d, k2, e2, rp, h2⟩ := frz_ok (H0 := H) k1 e1 rr h1
  refine hr B σ H1 G2 Γ2 M1 _ _ k2 h2 fun vs H3 G3 Γ3 M3 ds k3 e3 rl h3 => ?_
  exact q _ H3 G3 Γ3 M3 (d :: ds) k3 (e2.trans e3) (repL_cons.mpr ⟨v, vs, rfl, rp.mono e3.g, rl⟩) h3
theorem qa_nil : QA X ρ [] tNil aNil := ⟨pa_nil, rd_nil⟩
theorem qa_cons {es : List Expr} {tr : TA} {ar : AA} (ha : QE X ρ a ta aa) (hr : QA X ρ es tr ar) (hs : starEach (a :: es) X.env = (false, eval a X.env) :: starEach es X.env := by rfl) : QA X ρ (a :: es) (tCons ta tr) (aCons aa ar) := ⟨pa_cons ha.pe hr.pe hs, rd_cons ha.rd hr.rd⟩
def aTup (aa : AA) (Γ : Sl) (M : Mem) (Q : Ret → Sl → Mem → Prop) : Prop := aa Γ M fun ds Γ1 M1 => ds.length ≤ sizeLine ∧ Q (.dat (.tup ds)) Γ1 M1
def aLst (aa : AA) (Γ : Sl) (M : Mem) (Q : Ret → Sl → Mem → Prop) : Prop := aa Γ M fun ds Γ1 M1 => ds.length ≤ sizeLine ∧ Q (.tmp (.lst ds)) Γ1 M1
theorem rd_tup {tr : TA} {ar : AA} (ha : RdA K ρ tr ar) : RdE K ρ (tTup tr) (aTup ar) := by
  intro B σ H G Γ M Q R k h q
  refine ha B σ H G Γ M _ _ k h fun vs H1 G1 Γ1 M1 ds k1 e1 rl ⟨hl, h1⟩ => ⟨by rw [rl.length]; exact hl, fun p hp => ?_⟩
  obtain ⟨k2, e2⟩ := k1.new (o := .tup vs) hp
  exact q _ _ _ Γ1 M1 (.dat (.tup ds)) k2 (e1.trans e2) (rep_tup.mpr ⟨p, vs, rfl, SqT.of upd_same, rl.mono e2.g⟩) h1
theorem rd_lst {tr : TA} {ar : AA} (ha : RdA K ρ tr ar) : RdE K ρ (tLst tr) (aLst ar) := by
  intro B σ H G Γ M Q R k h q
  refine ha B σ H G Γ M _ _ k h fun vs H1 G1 Γ1 M1 ds k1 e1 rl ⟨hl, h1⟩ => ⟨by rw [rl.length]; exact hl, fun p hp => ?_⟩
  obtain ⟨k2, e2, hm, hn, hb, hg⟩ := k1.tmp (o := .lst vs) hp
  exact q _ _ _ Γ1 M1 (.tmp (.lst ds)) k2 (e1.trans e2) ⟨p, rfl, e1.nn p hp, hb, ⟨hg, _, upd_same, vs, rfl, rl⟩, hm, hn⟩ h1
theorem q_tup {es : List Expr} {x1} {tr : TA} {ar : AA} (h : QA X ρ es tr ar) : QE X ρ (.Tuple es x1 pos) (tTup tr) (aTup ar) := ⟨pe_tup h.pe, rd_tup h.rd⟩
theorem q_lst {es : List Expr} {tr : TA} {ar : AA} (h : QA X ρ es tr ar) : QE X ρ (.List es pos) (tLst tr) (aLst ar) := ⟨pe_lst h.pe, rd_lst h.rd⟩
/-- a new list, a new tuple out of values that stand for data -/
theorem Kont.newL {Q : Ret → Sl → Mem → Prop} {R : VK} {ds : List D} {vs : List V} (q : Kont K ρ B σ H G Γ M Q R) (k : Ok K ρ B σ H G Γ M) (rl : RepL K G ds vs) (h : Q (.tmp (.lst ds)) Γ M) : ∀ p, H p = none → R (.ref p) (upd H p (.lst vs)) := fun p hp => by
  obtain ⟨k2, e2, hm, hn, hb, hg⟩ := k.tmp (o := .lst vs) hp
  exact q _ _ _ Γ M (.tmp (.lst ds)) k2 e2 ⟨p, rfl, hp, hb, ⟨hg, _, upd_same, vs, rfl, rl⟩, hm, hn⟩ h
theorem Kont.newT {Q : Ret → Sl → Mem → Prop} {R : VK} {ds : List D} {vs : List V} (q : Kont K ρ B σ H G Γ M Q R) (k : Ok K ρ B σ H G Γ M) (rl : RepL K G ds vs) (h : Q (.dat (.tup ds)) Γ M) : ∀ p, H p = none → R (.ref p) (upd H p (.tup vs)) := fun p hp => by
  obtain ⟨k2, e2⟩ := k.new (o := .tup vs) hp
  exact q _ _ _ Γ M (.dat (.tup ds)) k2 e2 (rep_tup.mpr ⟨p, vs, rfl, SqT.of upd_same, rl.mono e2.g⟩) h

/-! ### tests -/
def aTst (aa : AE) (Γ : Sl) (M : Mem) (Q : Bool → Sl → Mem → Prop) : Prop := aa Γ M fun r Γ1 M1 => match r with
  | .dat (.bl b) => Q b Γ1 M1
  | _ => False
theorem rd_tst (ha : RdE K ρ ta aa) : RdT K ρ (tB ta) (aTst aa) := by
  intro B σ H G Γ M Q R k h q
  refine ha B σ H G Γ M _ _ k h fun v H1 G1 Γ1 M1 r k1 e1 rr h1 => ?_
  split at h1
  · rename_i b
    have e : v = .bl b := by have := rr; simp only [RepR, Rep] at this; exact this
    exact ⟨b, e, q b H1 G1 Γ1 M1 k1 e1 h1⟩
  · exact h1.elim
theorem qt_val (ha : QE X ρ a ta aa) (he : ∀ whole, isTrue a X.env whole = (do let v ← whole; standAt a.pos; holding [v] (truthy v)) := by intro _; rfl) : QT X ρ a (tB ta) (aTst aa) := ⟨pt_val ha.pe he, rd_tst ha.rd⟩
theorem rd_tst' (ha : RdE K ρ ta aa) : RdT K ρ (tTest ta) (aTst aa) := rd_tst ha
theorem qt_cmp {op : CmpOp} {r : R2} {ao : AOp} (c : CmpR X ρ op r ao) (ha : QE X ρ a ta aa) (hb : QE X ρ b tb ab) (hm : behindInMarks op b = false := by first | exact nomark _ | rfl) : QT X ρ (.Compare a [op] [b] pos) (tTest (tOp r ta tb)) (aTst (aOp ao aa ab)) :=
  ⟨pt_cmpR c.ho ha.pe hb.pe hm, rd_tst' (rd_op c.rd ha.rd hb.rd)⟩
def aChain (ao ao' : AOp) (aa ab ac : AE) (Γ : Sl) (M : Mem) (Q : Ret → Sl → Mem → Prop) : Prop := aa Γ M fun x Γ1 M1 => ab Γ1 M1 fun y Γ2 M2 => ao x y Γ2 M2 fun z Γ3 M3 => match z with
  | .dat (.bl k) => if k = true then ac Γ3 M3 fun w Γ4 M4 => ao' y w Γ4 M4 Q else Q (.dat (.bl false)) Γ3 M3
  | _ => False
theorem rd_chain {r r' : R2} {ao ao' : AOp} (ho : RdO K ρ r ao) (ho' : RdO K ρ r' ao') (ha : RdE K ρ ta aa) (hb : RdE K ρ tb ab) (hc : RdE K ρ tc ac) : RdE K ρ (tChain r r' ta tb tc) (aChain ao ao' aa ab ac) := by
  intro B σ H G Γ M Q R k h q
  refine ha B σ H G Γ M _ _ k h fun v H1 G1 Γ1 M1 r1 k1 e1 rr1 h1 => ?_
  refine hb B σ H1 G1 Γ1 M1 _ _ k1 h1 fun u H2 G2 Γ2 M2 r2 k2 e2 rr2 h2 => ?_
  refine ho B σ H2 _ _ G2 Γ2 M2 r1 r2 v u _ _ k2 (rr1.es e2) rr2 h2 fun z H3 G3 Γ3 M3 r3 k3 e3 rr3 h3 => ?_
  split at h3
  · rename_i c
    have e : z = .bl c := by have := rr3; simp only [RepR, Rep] at this; exact this
    refine ⟨c, e, ?_⟩
    cases c with
    | true => exact hc B σ H3 G3 Γ3 M3 _ _ k3 (by simpa using h3) fun w H4 G4 Γ4 M4 r4 k4 e4 rr4 h4 => ho' B σ H4 _ _ G4 Γ4 M4 r2 r4 u w Q R k4 ((rr2.es e3).es e4) rr4 h4 (q.es (((e1.trans e2).trans e3).trans e4))
    | false => exact q _ H3 G3 Γ3 M3 (.dat (.bl false)) k3 ((e1.trans e2).trans e3) (by simp only [RepR, Rep]) (by simpa using h3)
  · exact h3.elim
theorem q_chain {op op' : CmpOp} {r r' : R2} {ao ao' : AOp} (c1 : CmpR X ρ op r ao) (c2 : CmpR X ρ op' r' ao') (ha : QE X ρ a ta aa) (hb : QE X ρ b tb ab) (hc : QE X ρ c tc ac) (hm : lastMarks [op, op'] [b, c] = false := by with_unfolding_all rfl) :
    QE X ρ (.Compare a [op, op'] [b, c] pos) (tChain r r' ta tb tc) (aChain ao ao' aa ab ac) := ⟨pe_chain c1.ho c2.ho ha.pe hb.pe hc.pe hm, rd_chain c1.rd c2.rd ha.rd hb.rd hc.rd⟩
theorem qt_chain {op op' : CmpOp} {r r' : R2} {ao ao' : AOp} (c1 : CmpR X ρ op r ao) (c2 : CmpR X ρ op' r' ao') (ha : QE X ρ a ta aa) (hb : QE X ρ b tb ab) (hc : QE X ρ c tc ac) (hm : lastMarks [op, op'] [b, c] = false := by with_unfolding_all rfl) :
    QT X ρ (.Compare a [op, op'] [b, c] pos) (tTest (tChain r r' ta tb tc)) (aTst (aChain ao ao' aa ab ac)) := ⟨pt_chain c1.ho c2.ho ha.pe hb.pe hc.pe hm, rd_tst' (rd_chain c1.rd c2.rd ha.rd hb.rd hc.rd)⟩
def aAnd (t u : AT) (Γ : Sl) (M : Mem) (Q : Bool → Sl → Mem → Prop) : Prop := t Γ M fun c Γ1 M1 => if c = true then u Γ1 M1 Q else Q false Γ1 M1
def aOr (t u : AT) (Γ : Sl) (M : Mem) (Q : Bool → Sl → Mem → Prop) : Prop := t Γ M fun c Γ1 M1 => if c = true then Q true Γ1 M1 else u Γ1 M1 Q
def aNot (t : AT) (Γ : Sl) (M : Mem) (Q : Bool → Sl → Mem → Prop) : Prop := t Γ M fun c Γ1 M1 => Q (!c) Γ1 M1
theorem rd_and {tA tC : TT} {aA aC : AT} (ha : RdT K ρ tA aA) (hb : RdT K ρ tC aC) : RdT K ρ (tAnd tA tC) (aAnd aA aC) := by
  intro B σ H G Γ M Q R k h q
  refine ha B σ H G Γ M _ _ k h fun c H1 G1 Γ1 M1 k1 e1 h1 => ?_
  cases c with
  | true => exact hb B σ H1 G1 Γ1 M1 _ _ k1 (by simpa using h1) fun b H2 G2 Γ2 M2 k2 e2 h2 => q b H2 G2 Γ2 M2 k2 (e1.trans e2) h2
  | false => exact q false H1 G1 Γ1 M1 k1 e1 (by simpa using h1)
theorem rd_or {tA tC : TT} {aA aC : AT} (ha : RdT K ρ tA aA) (hb : RdT K ρ tC aC) : RdT K ρ (tOr tA tC) (aOr aA aC) := by
  intro B σ H G Γ M Q R k h q
  refine ha B σ H G Γ M _ _ k h fun c H1 G1 Γ1 M1 k1 e1 h1 => ?_
  cases c with
  | false => exact hb B σ H1 G1 Γ1 M1 _ _ k1 (by simpa using h1) fun b H2 G2 Γ2 M2 k2 e2 h2 => q b H2 G2 Γ2 M2 k2 (e1.trans e2) h2
  | true => exact q true H1 G1 Γ1 M1 k1 e1 (by simpa using h1)
theorem rd_not {tA : TT} {aA : AT} (ha : RdT K ρ tA aA) : RdT K ρ (tNot tA) (aNot aA) := by
  intro B σ H G Γ M Q R k h q
  exact ha B σ H G Γ M _ _ k h fun c H1 G1 Γ1 M1 k1 e1 h1 => q _ H1 G1 Γ1 M1 k1 e1 h1
theorem qw_and1 {tA : TT} {aA : AT} (ha : QT X ρ a tA aA) : QW X ρ (.BoolOp .And [a] pos) tA aA := ⟨pw_and1 ha.pe, ha.rd⟩
theorem qw_or1 {tA : TT} {aA : AT} (ha : QT X ρ a tA aA) : QW X ρ (.BoolOp .Or [a] pos) tA aA := ⟨pw_or1 ha.pe, ha.rd⟩
theorem qw_and {rest : List Expr} {tA tC : TT} {aA aC : AT} (ha : QT X ρ a tA aA) (hb : QW X ρ (.BoolOp .And (b :: rest) pos) tC aC) : QW X ρ (.BoolOp .And (a :: b :: rest) pos) (tAnd tA tC) (aAnd aA aC) := ⟨pw_and ha.pe hb.pe, rd_and ha.rd hb.rd⟩
theorem qw_or {rest : List Expr} {tA tC : TT} {aA aC : AT} (ha : QT X ρ a tA aA) (hb : QW X ρ (.BoolOp .Or (b :: rest) pos) tC aC) : QW X ρ (.BoolOp .Or (a :: b :: rest) pos) (tOr tA tC) (aOr aA aC) := ⟨pw_or ha.pe hb.pe, rd_or ha.rd hb.rd⟩
theorem QW.qt {t : TT} {at' : AT} (h : QW X ρ a t at') : QT X ρ a t at' := ⟨h.pe.pt, h.rd⟩
theorem qt_not {tA : TT} {aA : AT} (ha : QT X ρ a tA aA) : QT X ρ (.UnaryOp .Not a pos) (tNot tA) (aNot aA) := ⟨pt_not ha.pe, rd_not ha.rd⟩
/-! values of and, or, not (all but the last truths) -/
def aAndV (aa ab : AE) (Γ : Sl) (M : Mem) (Q : Ret → Sl → Mem → Prop) : Prop := aa Γ M fun r Γ1 M1 => match r with
  | .dat (.bl c) => if c = true then ab Γ1 M1 Q else Q (.dat (.bl false)) Γ1 M1
  | _ => False
def aOrV (aa ab : AE) (Γ : Sl) (M : Mem) (Q : Ret → Sl → Mem → Prop) : Prop := aa Γ M fun r Γ1 M1 => match r with
  | .dat (.bl c) => if c = true then Q (.dat (.bl true)) Γ1 M1 else ab Γ1 M1 Q
  | _ => False
def aNotV (aa : AE) (Γ : Sl) (M : Mem) (Q : Ret → Sl → Mem → Prop) : Prop := aa Γ M fun r Γ1 M1 => match r with
  | .dat (.bl c) => Q (.dat (.bl (!c))) Γ1 M1
  | _ => False
theorem rd_andV (ha : RdE K ρ ta aa) (hb : RdE K ρ tb ab) : RdE K ρ (tAndV ta tb) (aAndV aa ab) := by
  intro B σ H G Γ M Q R k h q
  refine ha B σ H G Γ M _ _ k h fun v H1 G1 Γ1 M1 r k1 e1 rr h1 => ?_
  split at h1
  · rename_i c
    have e : v = .bl c := by have := rr; simp only [RepR, Rep] at this; exact this
    refine ⟨c, e, ?_⟩
    cases c with
    | true => exact hb B σ H1 G1 Γ1 M1 _ _ k1 (by simpa using h1) (q.es e1)
    | false => exact q _ H1 G1 Γ1 M1 (.dat (.bl false)) k1 e1 (by simp only [RepR, Rep]) (by simpa using h1)
  · exact h1.elim
theorem rd_orV (ha : RdE K ρ ta aa) (hb : RdE K ρ tb ab) : RdE K ρ (tOrV ta tb) (aOrV aa ab) := by
  intro B σ H G Γ M Q R k h q
  refine ha B σ H G Γ M _ _ k h fun v H1 G1 Γ1 M1 r k1 e1 rr h1 => ?_
  split at h1
  · rename_i c
    have e : v = .bl c := by have := rr; simp only [RepR, Rep] at this; exact this
    refine ⟨c, e, ?_⟩
    cases c with
    | false => exact hb B σ H1 G1 Γ1 M1 _ _ k1 (by simpa using h1) (q.es e1)
    | true => exact q _ H1 G1 Γ1 M1 (.dat (.bl true)) k1 e1 (by simp only [RepR, Rep]) (by simpa using h1)
  · exact h1.elim
theorem rd_notV (ha : RdE K ρ ta aa) : RdE K ρ (tNotV ta) (aNotV aa) := by
  intro B σ H G Γ M Q R k h q
  refine ha B σ H G Γ M _ _ k h fun v H1 G1 Γ1 M1 r k1 e1 rr h1 => ?_
  split at h1
  · rename_i c
    have e : v = .bl c := by have := rr; simp only [RepR, Rep] at this; exact this
    exact ⟨c, e, q _ H1 G1 Γ1 M1 (.dat (.bl (!c))) k1 e1 (by simp only [RepR, Rep]) h1⟩
  · exact h1.elim
theorem q_one {op} (h : QE X ρ a ta aa) : QE X ρ (.BoolOp op [a] pos) ta aa := ⟨pe_one h.pe, h.rd⟩
theorem q_and {rest : List Expr} (ha : QE X ρ a ta aa) (hb : QE X ρ (.BoolOp .And (b :: rest) pos) tb ab) : QE X ρ (.BoolOp .And (a :: b :: rest) pos) (tAndV ta tb) (aAndV aa ab) := ⟨pe_and ha.pe hb.pe, rd_andV ha.rd hb.rd⟩
theorem q_or {rest : List Expr} (ha : QE X ρ a ta aa) (hb : QE X ρ (.BoolOp .Or (b :: rest) pos) tb ab) : QE X ρ (.BoolOp .Or (a :: b :: rest) pos) (tOrV ta tb) (aOrV aa ab) := ⟨pe_or ha.pe hb.pe, rd_orV ha.rd hb.rd⟩
theorem q_not (ha : QE X ρ a ta aa) : QE X ρ (.UnaryOp .Not a pos) (tNotV ta) (aNotV aa) := ⟨pe_not ha.pe, rd_notV ha.rd⟩
def aIfE (t : AT) (aa ab : AE) (Γ : Sl) (M : Mem) (Q : Ret → Sl → Mem → Prop) : Prop := t Γ M fun c Γ1 M1 => if c = true then aa Γ1 M1 Q else ab Γ1 M1 Q
theorem q_ifExp {tA : TT} {aA : AT} (hc : QT X ρ c tA aA) (ha : QE X ρ a ta aa) (hb : QE X ρ b tb ab) : QE X ρ (.IfExp c a b pos) (tIf tA ta tb) (aIfE aA aa ab) := ⟨pe_ifExp hc.pe ha.pe hb.pe, by
  intro B σ H G Γ M Q R k h q
  refine hc.rd B σ H G Γ M _ _ k h fun c H1 G1 Γ1 M1 k1 e1 h1 => ?_
  cases c with
  | true => exact ha.rd B σ H1 G1 Γ1 M1 _ _ k1 (by simpa using h1) (q.es e1)
  | false => exact hb.rd B σ H1 G1 Γ1 M1 _ _ k1 (by simpa using h1) (q.es e1)⟩
/-! unary minus -/
def aUn (au : AUn) (aa : AE) (Γ : Sl) (M : Mem) (Q : Ret → Sl → Mem → Prop) : Prop := aa Γ M fun r Γ1 M1 => au r Γ1 M1 Q
theorem q_un {op : UnaryOp} {r : V → Hp → VK → Prop} {au : AUn} (ho : UnR X (unaryOp op) r) (hr : RdV X.K ρ r au) (ha : QE X ρ a ta aa) : QE X ρ (.UnaryOp op a pos) (tUn r ta) (aUn au aa) := ⟨pe_un ho ha.pe, fun B σ H G Γ M Q R k h q =>
  ha.rd B σ H G Γ M _ _ k h fun v H1 G1 Γ1 M1 rr k1 e1 r1 h1 => hr B σ H1 _ G1 Γ1 M1 rr v Q R k1 r1 h1 (q.es e1)⟩
def aNeg (r : Ret) (Γ : Sl) (M : Mem) (Q : Ret → Sl → Mem → Prop) : Prop := match r with
  | .dat (.int i) => Q (.dat (.int (-i))) Γ M
  | _ => False
theorem q_neg (ha : QE X ρ a ta aa) : QE X ρ (.UnaryOp .USub a pos) (tUn (rU fun i => .int (-i)) ta) (aUn aNeg aa) := q_un un_neg (fun B σ H H1 G Γ M rx x Q R k r1 h q => by
  unfold aNeg at h
  split at h
  · rename_i i
    have e1 : x = .int i := by have := r1; simp only [RepR, Rep] at this; exact this
    exact ⟨i, e1, q _ H G Γ M (.dat (.int (-i))) k .refl (by simp only [RepR, Rep]) h⟩
  · exact h.elim) ha

/-! ### data compared -/
mutual
def toPy : D → PyData
  | .non => .none
  | .bl b => .bool b
  | .int i => .int i
  | .str x => .str x
  | .tup ds => .tuple (toPyL ds)
  | .lst ds => .list (toPyL ds)
  | .scr ds => .list (toPyL ds)
  | .ref _ => .none
  | .dct _ _ => .none
  | .exc _ _ _ => .none
def toPyL : List D → List PyData
  | [] => []
  | d :: ds => toPy d :: toPyL ds
end
mutual
def plain : D → Bool
  | .tup ds => plainL ds
  | .lst ds => plainL ds
  | .scr ds => plainL ds
  | .ref _ => false
  | .dct _ _ => false
  | .exc _ _ _ => false
  | .non => true
  | .bl _ => true
  | .int _ => true
  | .str _ => true
def plainL : List D → Bool
  | [] => true
  | d :: ds => plain d && plainL ds
end
mutual
theorem Rep.dp : ∀ {d : D} {v : V}, Rep K H d v → plain d = true → Dp K H v (toPy d)
  | .non, _, h, _ => by rw [Rep] at h; subst h; rw [toPy]; exact .non
  | .bl b, _, h, _ => by rw [Rep] at h; subst h; rw [toPy]; exact .bl b
  | .int i, _, h, _ => by rw [Rep] at h; subst h; rw [toPy]; exact .int i
  | .str x, _, h, _ => by rw [Rep] at h; subst h; rw [toPy]; exact .str x
  | .ref a, _, h, p => by rw [plain] at p; cases p
  | .dct _ _, _, h, p => by rw [plain] at p; cases p
  | .exc _ _ _, _, h, p => by rw [plain] at p; cases p
  | .tup ds, _, h, p => by
    obtain ⟨a, xs, rfl, h1, h2⟩ := rep_tup.mp h
    rw [toPy]; exact .tup h1 (RepL.dp h2 (by rw [plain] at p; exact p))
  | .lst ds, _, h, p => by
    obtain ⟨a, xs, rfl, h1, h2⟩ := rep_lst.mp h
    rw [toPy]; exact .lst (SqL.of h1) (RepL.dp h2 (by rw [plain] at p; exact p))
  | .scr ds, _, h, p => by
    obtain ⟨a, xs, rfl, h1, h2⟩ := rep_scr.mp h
    rw [toPy]; exact .lst h1 (RepL.dp h2 (by rw [plain] at p; exact p))
theorem RepL.dp : ∀ {ds : List D} {vs : List V}, RepL K H ds vs → plainL ds = true → DpAll K H vs (toPyL ds)
  | [], _, h, _ => by rw [repL_nil.mp h, toPyL]; exact .nil
  | d :: ds, _, h, p => by
    obtain ⟨x, r, rfl, h1, h2⟩ := repL_cons.mp h
    rw [plainL, Bool.and_eq_true] at p
    rw [toPyL]; exact .cons (Rep.dp h1 p.1) (RepL.dp h2 p.2)
end
def dOf (r : Ret) (Γ : Sl) (M : Mem) : Option D := match r with
  | .dat (.ref a) => match M.lookup a with
    | some (.lst ds) => some (.lst ds)
    | _ => none
  | .dat d => some d
  | .tmp (.lst ds) => some (.lst ds)
  | .tmp _ => none
  | .var i => match Γ[i]? with
    | some (.dat d) => some d
    | some (.own (.lst ds)) => some (.lst ds)
    | _ => none
theorem dOf_ok {r : Ret} {v : V} {d : D} {H0 : Hp} (o : Ok K ρ B σ H G Γ M) (rr : RepR K B σ H0 H G Γ M r v) (h : dOf r Γ M = some d) : Rep K H d v := by
  have lst : ∀ ds, SqR K H G (.lst ds) v → Rep K H (.lst ds) v := fun ds ⟨a, xs, e, h1, h2⟩ => rep_lst.mpr ⟨a, xs, e, h1, h2.mono o.ex⟩
  cases r with
  | dat d' =>
    cases d' with
    | ref a =>
      simp only [dOf] at h
      split at h
      · rename_i ds e
        cases h
        exact lst ds (sqOf_ok o rr (by simp [sqOf, sqD, e]))
      · cases h
    | _ => cases h; exact Rep.mono o.ex rr
  | tmp c =>
    cases c with
    | lst ds => cases h; exact lst ds (sqOf_ok o rr rfl)
    | dct ks ds => cases h
  | var i =>
    simp only [dOf] at h
    split at h
    · rename_i d' e1
      cases h
      obtain ⟨v', h1, h2⟩ := o.dat i d e1
      have : v' = v := by have := (show σ[i]? = some (some v) from rr); rw [h1] at this; cases this; rfl
      subst this
      exact h2.mono o.ex
    · rename_i ds e1
      cases h
      exact lst ds (sqOf_ok o rr (by simp [sqOf, e1]))
    · cases h
def cmpOk (d : D) : Bool := plain d && SeqAt.shaped (toPy d)
def eqD (d e : D) : Bool := PyData.eqv (toPy d) (toPy e)
def aEq (f : Bool → Bool) (x : Ret) (y : Ret) (Γ : Sl) (M : Mem) (Q : Ret → Sl → Mem → Prop) : Prop := match dOf x Γ M, dOf y Γ M with
  | some d, some e => cmpOk d = true ∧ cmpOk e = true ∧ Q (.dat (.bl (f (eqD d e)))) Γ M
  | _, _ => False
theorem rd_eqD : RdO K ρ (rEqD K) (aEq id) := by
  intro B σ H H1 H2 G Γ M rx ry x y Q R k r1 r2 h q
  unfold aEq at h
  split at h
  · rename_i d e hd he
    obtain ⟨c1, c2, h⟩ := h
    simp only [cmpOk, Bool.and_eq_true] at c1 c2
    exact ⟨_, _, (dOf_ok k r1 hd).dp c1.1, (dOf_ok k r2 he).dp c2.1, c1.2, c2.2, q _ H G Γ M (.dat (.bl _)) k .refl (by simp only [RepR, Rep]; rfl) h⟩
  · exact h.elim
theorem rd_neD : RdO K ρ (rNeD K) (aEq not) := by
  intro B σ H H1 H2 G Γ M rx ry x y Q R k r1 r2 h q
  unfold aEq at h
  split at h
  · rename_i d e hd he
    obtain ⟨c1, c2, h⟩ := h
    simp only [cmpOk, Bool.and_eq_true] at c1 c2
    exact ⟨_, _, (dOf_ok k r1 hd).dp c1.1, (dOf_ok k r2 he).dp c2.1, c1.2, c2.2, q _ H G Γ M (.dat (.bl _)) k .refl (by simp only [RepR, Rep]; rfl) h⟩
  · exact h.elim
theorem c_eq (hu : X.A.units + 64 < cLine) (hK : X.K = K := by rfl) : CmpR X ρ .Eq (rEqD K) (aEq id) := by subst hK; exact ⟨op_eqD hu, rd_eqD⟩
theorem c_ne (hu : X.A.units + 64 < cLine) (hK : X.K = K := by rfl) : CmpR X ρ .NotEq (rNeD K) (aEq not) := by subst hK; exact ⟨op_neD hu, rd_neD⟩
/-! membership of flat things -/
def flatD : D → Bool
  | .non => true | .bl _ => true | .int _ => true | .str _ => true
  | _ => false
def inD (d : D) (ds : List D) : Bool := ds.any fun e => eqD e d
theorem Rep.flat {d : D} {v : V} (h : Rep K G d v) (f : flatD d = true) : flatV v = true ∧ ∀ e w, Rep K G e w → flatD e = true → eqV w v = eqD e d := by
  cases d <;> simp [flatD] at f <;> rw [Rep] at h <;> subst h <;> refine ⟨rfl, fun e w he hf => ?_⟩ <;> cases e <;> simp [flatD] at hf <;> rw [Rep] at he <;> subst he <;> simp [eqV, eqD, toPy, PyData.eqv]
theorem RepL.flat {ds : List D} {vs : List V} (h : RepL K G ds vs) (f : ds.all flatD = true) : vs.all flatV = true := by
  rw [List.all_eq_true] at *
  intro v hv
  obtain ⟨i, hi⟩ := List.getElem?_of_mem hv
  obtain ⟨d, e, r⟩ := h.getV hi
  exact (r.flat (f d (List.mem_of_getElem? e))).1
theorem RepL.inV {ds : List D} {vs : List V} {d : D} {v : V} (h : RepL K G ds vs) (f : ds.all flatD = true) (r : Rep K G d v) (fd : flatD d = true) : L2.inV v vs = inD d ds := by
  induction ds generalizing vs with
  | nil => rw [repL_nil.mp h]; rfl
  | cons e ds ih =>
    obtain ⟨x, r', rfl, h1, h2⟩ := repL_cons.mp h
    rw [List.all_cons, Bool.and_eq_true] at f
    show (eqV x v || L2.inV v r') = (eqD e d || inD d ds)
    rw [ih h2 f.2, (r.flat fd).2 e x h1 f.1]
def aIn (f : Bool → Bool) (x : Ret) (y : Ret) (Γ : Sl) (M : Mem) (Q : Ret → Sl → Mem → Prop) : Prop := match x, sqOf y Γ M with
  | .dat d, some s => flatD d = true ∧ s.ds.all flatD = true ∧ Q (.dat (.bl (f (inD d s.ds)))) Γ M
  | _, _ => False
theorem rd_in {neg : Bool} {f : Bool → Bool} (hf : f = if neg then not else id) : RdO K ρ (rIn K neg) (aIn f) := by
  intro B σ H H1 H2 G Γ M rx ry x y Q R k r1 r2 h q
  unfold aIn at h
  split at h
  · rename_i d s hs
    obtain ⟨c1, c2, h⟩ := h
    have hr := sqOf_ok k r2 hs
    have r1' : Rep K G d x := r1
    obtain ⟨a, xs, e, hq', hl⟩ := hr.rd
    have hq : SqL K H a xs ∨ SqT K H a xs := by
      rcases hq' with ⟨_, _, z⟩ | ⟨_, z⟩
      · exact .inr z
      · exact .inl z
    refine ⟨a, xs, e, hq, (r1'.flat c1).1, hl.flat c2, q _ H G Γ M (.dat (.bl _)) k .refl ?_ h⟩
    rw [hl.inV c2 r1' c1]
    subst hf
    cases neg <;> simp [RepR, Rep]
  · exact h.elim
theorem c_in (hK : X.K = K := by rfl) : CmpR X ρ .In (rIn K false) (aIn id) := by subst hK; exact ⟨op_in_seq, rd_in rfl⟩
theorem c_notIn (hK : X.K = K := by rfl) : CmpR X ρ .NotIn (rIn K true) (aIn not) := by subst hK; exact ⟨op_notIn_seq, rd_in rfl⟩
def isNon : D → Bool
  | .non => true
  | _ => false
def aIsN (f : Bool → Bool) (x : Ret) (y : Ret) (Γ : Sl) (M : Mem) (Q : Ret → Sl → Mem → Prop) : Prop := match x, y with
  | .dat d, .dat .non => Q (.dat (.bl (f (isNon d)))) Γ M
  | _, _ => False
theorem Rep.isNon {d : D} {v : V} (h : Rep K G d v) : decide (v = .non) = isNon d := by
  cases d with
  | non => rw [Rep] at h; subst h; rfl
  | bl b => rw [Rep] at h; subst h; rfl
  | int b => rw [Rep] at h; subst h; rfl
  | str b => rw [Rep] at h; subst h; rfl
  | ref b => rw [Rep] at h; subst h; rfl
  | tup b => obtain ⟨a, xs, rfl, _⟩ := rep_tup.mp h; rfl
  | lst b => obtain ⟨a, xs, rfl, _⟩ := rep_lst.mp h; rfl
  | scr b => obtain ⟨a, xs, rfl, _⟩ := rep_scr.mp h; rfl
  | dct _ _ => obtain ⟨a, o, xs, rfl, _⟩ := rep_dct.mp h; rfl
  | exc _ _ _ => obtain ⟨a, C, d, ws, rfl, _⟩ := rep_exc.mp h; rfl
theorem c_isN : CmpR X ρ .Is (fun x y H Q => y = .non ∧ Q (.bl (decide (x = .non))) H) (aIsN id) := ⟨op_isN, by
  intro B σ H H1 H2 G Γ M rx ry x y Q R k r1 r2 h q
  unfold aIsN at h
  split at h
  · rename_i d
    refine ⟨by have := r2; simp only [RepR, Rep] at this; exact this, q _ H G Γ M (.dat (.bl _)) k .refl ?_ h⟩
    rw [Rep.isNon (show Rep _ _ d x from r1)]; simp [RepR, Rep]
  · exact h.elim⟩
theorem c_notN : CmpR X ρ .IsNot (fun x y H Q => y = .non ∧ Q (.bl (!decide (x = .non))) H) (aIsN not) := ⟨op_notN, by
  intro B σ H H1 H2 G Γ M rx ry x y Q R k r1 r2 h q
  unfold aIsN at h
  split at h
  · rename_i d
    refine ⟨by have := r2; simp only [RepR, Rep] at this; exact this, q _ H G Γ M (.dat (.bl _)) k .refl ?_ h⟩
    rw [Rep.isNon (show Rep _ _ d x from r1)]; simp [RepR, Rep]
  · exact h.elim⟩

/-! ### sequences: items, slices, +, * -/
def aIx (x : Ret) (y : Ret) (Γ : Sl) (M : Mem) (Q : Ret → Sl → Mem → Prop) : Prop := match sqOf x Γ M, y with
  | some s, .dat (.int i) => match atI s.ds i with
    | some d => Q (.dat d) Γ M
    | none => False
  | _, _ => False
theorem atI_rep {ds : List D} {vs : List V} {i : Int} {d : D} (h : RepL K G ds vs) (e : atI ds i = some d) : ∃ v, atI vs i = some v ∧ Rep K G d v := by
  unfold atI at *
  rw [h.length]
  cases hj : ixN ds.length i with
  | none => rw [hj] at e; cases e
  | some j => rw [hj] at e; exact h.get e
theorem rd_ixL : RdO K ρ (fun x y H Q => rIxL K x y H Q ∨ rIxT K x y H Q) aIx := by
  intro B σ H H1 H2 G Γ M rx ry x y Q R k r1 r2 h q
  unfold aIx at h
  split at h
  · rename_i s i hs
    split at h
    · rename_i d hd
      have ey : y = .int i := by have := r2; simp only [RepR, Rep] at this; exact this
      obtain ⟨a, xs, e, hq, h2⟩ := (sqOf_ok k r1 hs).rd
      obtain ⟨v, e', rv⟩ := atI_rep h2 hd
      rcases hq with ⟨_, _, h1⟩ | ⟨_, h1⟩
      · exact .inr ⟨a, xs, i, v, e, ey, h1, e', q _ H G Γ M (.dat d) k .refl rv h⟩
      · exact .inl ⟨a, xs, i, v, e, ey, h1, e', q _ H G Γ M (.dat d) k .refl rv h⟩
    · exact h.elim
  · exact h.elim
end
end Gw

namespace Gw
open PySem L2
variable {ρ : Ent}

section
variable {X : Cx} {a b c : Expr} {ta tb tc te : TE} {aa ab ac ae : AE} {pos : Pos} {K : PySem.W.Frag} {B : Ent} {σ : St} {H G H1 G1 H2 G2 : Hp} {Γ Γ1 Γ2 : Sl} {M M1 M2 : Mem}
theorem q_ixS (ha : QE X ρ a ta aa) (hb : QE X ρ b tb ab) (hs : PlainIx b := by exact fun _ _ => rfl) (hK : X.K = K := by rfl) : QE X ρ (.Subscript a b pos) (tOp (fun x y H Q => rIxL K x y H Q ∨ rIxT K x y H Q) ta tb) (aOp aIx aa ab) := by subst hK; exact q_ix (ix_list.or ix_tup) rd_ixL ha hb hs

/-! ### list + list, list * int, tuple + tuple -/
def aCat (x : Ret) (y : Ret) (Γ : Sl) (M : Mem) (Q : Ret → Sl → Mem → Prop) : Prop := match sqOf x Γ M, sqOf y Γ M with
  | some (.lst ds), some (.lst es) => ds.length + es.length ≤ sizeLine ∧ Q (.tmp (.lst (ds ++ es))) Γ M
  | _, _ => False
theorem rd_cat : RdO K ρ rCat aCat := by
  intro B σ H H1 H2 G Γ M rx ry x y Q R k r1 r2 h q
  unfold aCat at h
  split at h
  · rename_i ds es hd he
    obtain ⟨a, xs, e, h1, h2⟩ := sqOf_ok k r1 hd
    obtain ⟨b, ys, e', h1', h2'⟩ := sqOf_ok k r2 he
    exact ⟨a, b, xs, ys, e, e', h1, h1', by rw [h2.length, h2'.length]; exact h.1, q.newL k (h2.append h2') h.2⟩
  · exact h.elim
theorem q_cat (ha : QE X ρ a ta aa) (hb : QE X ρ b tb ab) : QE X ρ (.BinOp a .Add b pos) (tOp rCat ta tb) (aOp aCat aa ab) := q_op op_cat rd_cat ha hb
def aRep (x : Ret) (y : Ret) (Γ : Sl) (M : Mem) (Q : Ret → Sl → Mem → Prop) : Prop := match sqOf x Γ M, y with
  | some (.lst ds), .dat (.int k) => (-(2 ^ 63) ≤ k ∧ k < 2 ^ 63 ∧ ds.length * k.toNat ≤ sizeLine) ∧ Q (.tmp (.lst (List.replicate k.toNat ds).flatten)) Γ M
  | _, _ => False
theorem RepL.rep {ds : List D} {vs : List V} (h : RepL K G ds vs) : ∀ n : Nat, RepL K G (List.replicate n ds).flatten (List.replicate n vs).flatten
  | 0 => repL_nil.mpr rfl
  | n + 1 => by rw [List.replicate_succ, List.replicate_succ, List.flatten_cons, List.flatten_cons]; exact h.append (RepL.rep h n)
theorem rd_rep : RdO K ρ rRep aRep := by
  intro B σ H H1 H2 G Γ M rx ry x y Q R k r1 r2 h q
  unfold aRep at h
  split at h
  · rename_i ds n hd
    obtain ⟨a, xs, e, h1, h2⟩ := sqOf_ok k r1 hd
    have ey : y = .int n := by have := r2; simp only [RepR, Rep] at this; exact this
    exact ⟨a, n, xs, e, ey, h1, h.1.1, h.1.2.1, by rw [h2.length]; exact h.1.2.2, q.newL k (h2.rep _) h.2⟩
  · exact h.elim
theorem q_rep (ha : QE X ρ a ta aa) (hb : QE X ρ b tb ab) : QE X ρ (.BinOp a .Mult b pos) (tOp rRep ta tb) (aOp aRep aa ab) := q_op op_rep rd_rep ha hb
def aCatT (x : Ret) (y : Ret) (Γ : Sl) (M : Mem) (Q : Ret → Sl → Mem → Prop) : Prop := match x, y with
  | .dat (.tup ds), .dat (.tup es) => ds.length + es.length ≤ sizeLine ∧ Q (.dat (.tup (ds ++ es))) Γ M
  | _, _ => False
theorem rd_catT : RdO K ρ (rCatA K) aCatT := by
  intro B σ H H1 H2 G Γ M rx ry x y Q R k r1 r2 h q
  unfold aCatT at h
  split at h
  · rename_i ds es
    have r1' : Rep K G (.tup ds) x := r1
    have r2' : Rep K G (.tup es) y := r2
    obtain ⟨a, xs, e, h1, h2⟩ := rep_tup.mp r1'
    obtain ⟨b, ys, e', h1', h2'⟩ := rep_tup.mp r2'
    refine ⟨a, b, xs, ys, e, e', ex_t k.ex h1, ex_t k.ex h1', by rw [h2.length, h2'.length]; exact h.1, fun z => ?_, fun _ z => ?_, fun _ _ => q.newT k (h2.append h2') h.2⟩
    · have : ds = [] := by cases ds with | nil => rfl | cons _ _ => obtain ⟨_, _, z', _⟩ := repL_cons.mp h2; rw [z] at z'; cases z'
      subst this; subst e'
      exact q _ H G Γ M (.dat (.tup es)) k .refl r2' h.2
    · have : es = [] := by cases es with | nil => rfl | cons _ _ => obtain ⟨_, _, z', _⟩ := repL_cons.mp h2'; rw [z] at z'; cases z'
      subst this; subst e
      exact q _ H G Γ M (.dat (.tup (ds ++ []))) k .refl (by rw [List.append_nil]; exact r1') h.2
  · exact h.elim
theorem q_catT (ha : QE X ρ a ta aa) (hb : QE X ρ b tb ab) (hK : X.K = K := by rfl) : QE X ρ (.BinOp a .Add b pos) (tOp (rCatA K) ta tb) (aOp aCatT aa ab) := by subst hK; exact q_op op_catA rd_catT ha hb
def aCatS (x : Ret) (y : Ret) (Γ : Sl) (M : Mem) (Q : Ret → Sl → Mem → Prop) : Prop := match x, y with
  | .dat (.str s), .dat (.str t) => s.length + t.length ≤ sizeLine ∧ Q (.dat (.str (s ++ t))) Γ M
  | _, _ => False
/-! slices -/
def cutD (xs : List D) (lo hi : Option Int) : List D := (xs.drop (HT.sIx xs.length 0 lo)).take (HT.sIx xs.length xs.length hi - HT.sIx xs.length 0 lo)
theorem RepL.cut {ds : List D} {vs : List V} {lo hi : Option Int} (h : RepL K G ds vs) : RepL K G (cutD ds lo hi) (cutV vs lo hi) := by
  unfold cutD cutV
  rw [h.length]
  exact (h.drop _).take _
abbrev AO := Sl → Mem → (Option Int → Sl → Mem → Prop) → Prop
structure QO (X : Cx) (ρ : Ent) (e : Option Expr) (to : TO) (ao : AO) : Prop where
  pe : PO X e to
  rd : ∀ B σ H G Γ M (Q : Option Int → Sl → Mem → Prop) (R : Option Int → Hp → Prop), Ok X.K ρ B σ H G Γ M → ao Γ M Q → (∀ o H' G' Γ' M', Ok X.K ρ B σ H' G' Γ' M' → Es σ H G Γ M H' G' Γ' M' → Q o Γ' M' → R o H') → to σ H R
def aON (Γ : Sl) (M : Mem) (Q : Option Int → Sl → Mem → Prop) : Prop := Q none Γ M
def aOS (aa : AE) (Γ : Sl) (M : Mem) (Q : Option Int → Sl → Mem → Prop) : Prop := aa Γ M fun r Γ1 M1 => match r with
  | .dat (.int i) => Q (some i) Γ1 M1
  | _ => False
theorem qo_none : QO X ρ none tNoPart aON := ⟨po_none, fun _ _ H G Γ M _ _ k h q => q none H G Γ M k .refl h⟩
theorem qo_some (h : QE X ρ a ta aa) : QO X ρ (some a) (tPart ta) (aOS aa) := ⟨po_some h.pe, fun B σ H G Γ M Q R k hh q => h.rd B σ H G Γ M _ _ k hh fun v H1 G1 Γ1 M1 r k1 e1 rr h1 => by
  split at h1
  · rename_i i
    have e : v = .int i := by have := rr; simp only [RepR, Rep] at this; exact this
    exact ⟨i, e, q (some i) H1 G1 Γ1 M1 k1 e1 h1⟩
  · exact h1.elim⟩
def aSl (aa : AE) (al ah : AO) (Γ : Sl) (M : Mem) (Q : Ret → Sl → Mem → Prop) : Prop := aa Γ M fun r Γ1 M1 => al Γ1 M1 fun lo Γ2 M2 => ah Γ2 M2 fun hi Γ3 M3 => match sqOf r Γ3 M3 with
  | some (.tup ds) => Q (.dat (.tup (cutD ds lo hi))) Γ3 M3
  | some s => Q (.tmp (.lst (cutD s.ds lo hi))) Γ3 M3
  | none => False
theorem cutD_all {ds : List D} {lo hi : Option Int} (h : HT.sIx ds.length 0 lo = 0 ∧ HT.sIx ds.length ds.length hi = ds.length) : cutD ds lo hi = ds := by
  unfold cutD
  rw [h.1, h.2, Nat.sub_zero, List.drop_zero, List.take_length]
theorem rep_of_sqT {r : Ret} {ds : List D} {v : V} {H0 : Hp} (k : Ok K ρ B σ H G Γ M) (rr : RepR K B σ H0 H G Γ M r v) (h : sqOf r Γ M = some (.tup ds)) : Rep K G (.tup ds) v := by
  have hd : ∀ d, Rep K G d v → sqD M d = some (.tup ds) → Rep K G (.tup ds) v := fun d r e => by
    cases d <;> simp [sqD] at e
    · subst e; exact r
    · split at e <;> simp at e
  cases r with
  | dat d => exact hd d rr h
  | tmp c => cases c <;> cases h
  | var i =>
    simp only [sqOf] at h
    split at h
    · rename_i d e1
      obtain ⟨v', h1, h2⟩ := k.dat i d e1
      have : v' = v := by have := (show σ[i]? = some (some v) from rr); rw [h1] at this; cases this; rfl
      subst this
      exact hd d h2 h
    · cases h
    · cases h
theorem q_sl {lo hi : Option Expr} {p2 : Pos} {tl th : TO} {al ah : AO} (he : QE X ρ a ta aa) (hl : QO X ρ lo tl al) (hh : QO X ρ hi th ah) (hK : X.K = K := by rfl) :
    QE X ρ (.Subscript a (.Slice lo hi none p2) pos) (tSl (fun x lo hi H Q => rSlL K x lo hi H Q ∨ rSlA K x lo hi H Q) ta tl th) (aSl aa al ah) := by subst hK; exact ⟨pe_slice (sl_list.or sl_tupA) he.pe hl.pe hh.pe, by
  intro B σ H G Γ M Q R k h q
  refine he.rd B σ H G Γ M _ _ k h fun v H1 G1 Γ1 M1 r1 k1 e1 rr1 h1 => ?_
  refine hl.rd B σ H1 G1 Γ1 M1 _ _ k1 h1 fun l H2 G2 Γ2 M2 k2 e2 h2 => ?_
  refine hh.rd B σ H2 G2 Γ2 M2 _ _ k2 h2 fun u H3 G3 Γ3 M3 k3 e3 h3 => ?_
  have rr := (rr1.es e2).es e3
  have q' := q.es ((e1.trans e2).trans e3)
  split at h3
  · rename_i ds hs
    have rp := rep_of_sqT k3 rr hs
    obtain ⟨a, xs, e, h1, h2⟩ := rep_tup.mp rp
    refine .inr ⟨a, xs, e, ex_t k3.ex h1, fun z => ?_, fun _ => q'.newT k3 h2.cut h3⟩
    rw [h2.length] at z
    rw [cutD_all z] at h3
    rw [e] at rp
    exact q' _ H3 G3 Γ3 M3 (.dat (.tup ds)) k3 .refl rp h3
  · rename_i s hn hs
    obtain ⟨a, xs, e, hq, h2⟩ := (sqOf_ok k3 rr hs).rd
    rcases hq with ⟨ds, z, _⟩ | ⟨_, h1⟩
    · exact (hn ds z).elim
    · exact .inl ⟨a, xs, e, h1, q'.newL k3 h2.cut h3⟩
  · exact h3.elim⟩

/-! ### built-ins of one and of two values -/
def aCall1 (au : AUn) (aa : AE) (Γ : Sl) (M : Mem) (Q : Ret → Sl → Mem → Prop) : Prop := aa Γ M fun r Γ1 M1 => au r Γ1 M1 Q
def aCall2 (ao : AOp) (aa ab : AE) (Γ : Sl) (M : Mem) (Q : Ret → Sl → Mem → Prop) : Prop := aa Γ M fun x Γ1 M1 => ab Γ1 M1 fun y Γ2 M2 => ao x y Γ2 M2 Q
theorem rd_call1 {r : List V → Hp → VK → Prop} {au : AUn} (hr : RdU K ρ r au) (ha : RdE K ρ ta aa) : RdE K ρ (tCB r (tCons ta tNil)) (aCall1 au aa) := fun B σ H G Γ M Q R k h q =>
  ha B σ H G Γ M _ _ k h fun v H1 G1 Γ1 M1 rr k1 e1 r1 h1 => hr B σ H1 _ G1 Γ1 M1 rr v Q R k1 r1 h1 (q.es e1)
theorem rd_call2 {r : List V → Hp → VK → Prop} {ao : AOp} (hr : RdU2 K ρ r ao) (ha : RdE K ρ ta aa) (hb : RdE K ρ tb ab) : RdE K ρ (tCB r (tCons ta (tCons tb tNil))) (aCall2 ao aa ab) := fun B σ H G Γ M Q R k h q =>
  ha B σ H G Γ M _ _ k h fun v H1 G1 Γ1 M1 rr k1 e1 r1 h1 => hb B σ H1 G1 Γ1 M1 _ _ k1 h1 fun u H2 G2 Γ2 M2 rr2 k2 e2 r2 h2 => hr B σ H2 _ _ G2 Γ2 M2 rr rr2 v u Q R k2 (r1.es e2) r2 h2 (q.es (e1.trans e2))
theorem q_callB1 {id : String} {x : Str} {p : Pos} {r : List V → Hp → VK → Prop} {au : AUn} (hc : CallR X (.builtin id) r) (hr : RdU X.K ρ r au) (hm : X.mg x = none) (ha : QE X ρ a ta aa) (hg : Gl X x := by rfl) (hv : bootBuiltins x = some (.builtin id) := by decide +kernel) (hn : x ≠ "__name__" := by decide) (hdb : (x == ("__debug__" : Str)) = false := by decide)
    (na : starEach [a] X.env = (false, eval a X.env) :: starEach [] X.env := by rfl) : QE X ρ (.Call (.Name x p) [a] [] pos) (tCB r (tCons ta tNil)) (aCall1 au aa) := ⟨pe_callB hc hg hm hv (pa_cons ha.pe pa_nil na) hn hdb na, rd_call1 hr ha.rd⟩
theorem q_callT1 {T : String} {x : Str} {p : Pos} {r : List V → Hp → VK → Prop} {au : AUn} (hc : CallR X (.type T) r) (hr : RdU X.K ρ r au) (hm : X.mg x = none) (ha : QE X ρ a ta aa) (hg : Gl X x := by rfl) (hv : bootBuiltins x = some (.type T) := by decide +kernel) (hn : x ≠ "__name__" := by decide) (hdb : (x == ("__debug__" : Str)) = false := by decide)
    (na : starEach [a] X.env = (false, eval a X.env) :: starEach [] X.env := by rfl) : QE X ρ (.Call (.Name x p) [a] [] pos) (tCB r (tCons ta tNil)) (aCall1 au aa) := ⟨pe_callTy hc hg hm hv (pa_cons ha.pe pa_nil na) hn hdb na, rd_call1 hr ha.rd⟩
theorem q_callB2 {id : String} {x : Str} {p : Pos} {r : List V → Hp → VK → Prop} {ao : AOp} (hc : CallR X (.builtin id) r) (hr : RdU2 X.K ρ r ao) (hm : X.mg x = none) (ha : QE X ρ a ta aa) (hb : QE X ρ b tb ab) (hg : Gl X x := by rfl) (hv : bootBuiltins x = some (.builtin id) := by decide +kernel) (hn : x ≠ "__name__" := by decide) (hdb : (x == ("__debug__" : Str)) = false := by decide)
    (na : starEach [a, b] X.env = (false, eval a X.env) :: starEach [b] X.env := by rfl) (nb : starEach [b] X.env = (false, eval b X.env) :: starEach [] X.env := by rfl) (hpl : (backTo pos (starEach [b] X.env)).any (·.1) = false := by rfl) : QE X ρ (.Call (.Name x p) [a, b] [] pos) (tCB r (tCons ta (tCons tb tNil))) (aCall2 ao aa ab) :=
  ⟨pe_callB hc hg hm hv (pa_cons ha.pe (pa_cons hb.pe pa_nil nb) na) hn hdb na hpl, rd_call2 hr ha.rd hb.rd⟩

def aLen (r : Ret) (Γ : Sl) (M : Mem) (Q : Ret → Sl → Mem → Prop) : Prop := match sqOf r Γ M with
  | some s => Q (.dat (.int s.ds.length)) Γ M
  | none => False
theorem rd_len : RdU K ρ (fun xs H Q => ∃ p ys, xs = [.ref p] ∧ (SqL K H p ys ∨ SqT K H p ys) ∧ Q (.int ys.length) H) aLen := by
  intro B σ H H1 G Γ M rx x Q R k r1 h q
  unfold aLen at h
  split at h
  · rename_i s hs
    obtain ⟨a, xs, e, hq, h2⟩ := (sqOf_ok k r1 hs).rd
    subst e
    refine ⟨a, xs, rfl, ?_, q _ H G Γ M (.dat (.int _)) k .refl (by simp only [RepR, Rep]; rw [h2.length]) h⟩
    rcases hq with ⟨_, _, z⟩ | ⟨_, z⟩
    · exact .inr z
    · exact .inl z
  · exact h.elim
theorem q_len {p : Pos} (hm : X.mg "len" = none) (ha : QE X ρ a ta aa) (hg : Gl X "len" := by rfl) (na : starEach [a] X.env = (false, eval a X.env) :: starEach [] X.env := by rfl) (hK : X.K = K := by rfl) :
    QE X ρ (.Call (.Name "len" p) [a] [] pos) (tCB (fun xs H Q => ∃ p ys, xs = [.ref p] ∧ (SqL K H p ys ∨ SqT K H p ys) ∧ Q (.int ys.length) H) (tCons ta tNil)) (aCall1 aLen aa) := by subst hK; exact q_callB1 call_len_seq rd_len hm ha hg (na := na)
/-- all, any of a list of truths -/
def blsOf : List D → Option (List Bool)
  | [] => some []
  | .bl b :: ds => (blsOf ds).map (b :: ·)
  | _ :: _ => none
theorem blsOf_ok : ∀ {ds : List D} {bs : List Bool}, blsOf ds = some bs → ds = bs.map .bl
  | [], _, h => by cases h; rfl
  | .bl b :: ds, _, h => by
    simp only [blsOf, Option.map_eq_some_iff] at h
    obtain ⟨bs, h1, rfl⟩ := h
    rw [blsOf_ok h1]; rfl
theorem blsOf_map (bs : List Bool) : blsOf (bs.map .bl) = some bs := by
  induction bs with
  | nil => rfl
  | cons b bs ih => rw [List.map_cons, blsOf, ih]; rfl
def aAllB (f : List Bool → Bool) (r : Ret) (Γ : Sl) (M : Mem) (Q : Ret → Sl → Mem → Prop) : Prop := match sqOf r Γ M with
  | some (.lst ds) => match blsOf ds with
    | some bs => Q (.dat (.bl (f bs))) Γ M
    | none => False
  | _ => False
theorem rd_all : RdU K ρ (rAll K) (aAllB (·.all id)) := by
  intro B σ H H1 G Γ M rx x Q R k r1 h q
  unfold aAllB at h
  split at h
  · rename_i ds hs
    split at h
    · rename_i bs hb
      obtain ⟨a, xs, e, hq, h2⟩ := sqOf_ok k r1 hs
      rw [blsOf_ok hb, repL_map_bl] at h2
      subst e; subst h2
      exact ⟨a, bs, rfl, SqL.of hq, q _ H G Γ M (.dat (.bl _)) k .refl (by simp only [RepR, Rep]) h⟩
    · exact h.elim
  · exact h.elim
theorem rd_any : RdU K ρ (rAny K) (aAllB (·.any id)) := by
  intro B σ H H1 G Γ M rx x Q R k r1 h q
  unfold aAllB at h
  split at h
  · rename_i ds hs
    split at h
    · rename_i bs hb
      obtain ⟨a, xs, e, hq, h2⟩ := sqOf_ok k r1 hs
      rw [blsOf_ok hb, repL_map_bl] at h2
      subst e; subst h2
      exact ⟨a, bs, rfl, SqL.of hq, q _ H G Γ M (.dat (.bl _)) k .refl (by simp only [RepR, Rep]) h⟩
    · exact h.elim
  · exact h.elim
theorem q_all {p : Pos} (hm : X.mg "all" = none) (ha : QE X ρ a ta aa) (hc : X.calm = true := by rfl) (hg : Gl X "all" := by rfl) (na : starEach [a] X.env = (false, eval a X.env) :: starEach [] X.env := by rfl) (hK : X.K = K := by rfl) :
    QE X ρ (.Call (.Name "all" p) [a] [] pos) (tCB (rAll K) (tCons ta tNil)) (aCall1 (aAllB (·.all id)) aa) := by subst hK; exact q_callB1 (cr_all hc) rd_all hm ha hg (na := na)
theorem q_any {p : Pos} (hm : X.mg "any" = none) (ha : QE X ρ a ta aa) (hc : X.calm = true := by rfl) (hg : Gl X "any" := by rfl) (na : starEach [a] X.env = (false, eval a X.env) :: starEach [] X.env := by rfl) (hK : X.K = K := by rfl) :
    QE X ρ (.Call (.Name "any" p) [a] [] pos) (tCB (rAny K) (tCons ta tNil)) (aCall1 (aAllB (·.any id)) aa) := by subst hK; exact q_callB1 (cr_any hc) rd_any hm ha hg (na := na)
def aTuple (r : Ret) (Γ : Sl) (M : Mem) (Q : Ret → Sl → Mem → Prop) : Prop := match sqOf r Γ M with
  | some s => Q (.dat (.tup s.ds)) Γ M
  | none => False
theorem rd_tuple : RdU K ρ (fun xs H Q => ∃ p ys, xs = [.ref p] ∧ ((SqL K H p ys ∧ ∀ l, H l = none → Q (.ref l) (upd H l (.tup ys))) ∨ (SqT K H p ys ∧ Q (.ref p) H))) aTuple := by
  intro B σ H H1 G Γ M rx x Q R k r1 h q
  unfold aTuple at h
  split at h
  · rename_i s hs
    obtain ⟨a, xs, e, hq, h2⟩ := (sqOf_ok k r1 hs).rd
    rcases hq with ⟨ds, z, hq⟩ | ⟨_, hq⟩
    · subst z
      have rp := rep_of_sqT k r1 hs
      subst e
      exact ⟨a, xs, rfl, .inr ⟨hq, q _ H G Γ M (.dat (.tup ds)) k .refl rp h⟩⟩
    · subst e
      exact ⟨a, xs, rfl, .inl ⟨hq, q.newT k h2 h⟩⟩
  · exact h.elim
theorem q_tuple {p : Pos} (hm : X.mg "tuple" = none) (ha : QE X ρ a ta aa) (hg : Gl X "tuple" := by rfl) (na : starEach [a] X.env = (false, eval a X.env) :: starEach [] X.env := by rfl) (hK : X.K = K := by rfl) :
    QE X ρ (.Call (.Name "tuple" p) [a] [] pos) (tCB (fun xs H Q => ∃ p ys, xs = [.ref p] ∧ ((SqL K H p ys ∧ ∀ l, H l = none → Q (.ref l) (upd H l (.tup ys))) ∨ (SqT K H p ys ∧ Q (.ref p) H))) (tCons ta tNil)) (aCall1 aTuple aa) := by subst hK; exact q_callT1 call_tuple_of rd_tuple hm ha hg (na := na)
def aList (r : Ret) (Γ : Sl) (M : Mem) (Q : Ret → Sl → Mem → Prop) : Prop := match sqOf r Γ M with
  | some s => Q (.tmp (.lst s.ds)) Γ M
  | none => False
theorem rd_list : RdU K ρ (fun xs H Q => ∃ p ys, xs = [.ref p] ∧ (SqL K H p ys ∨ SqT K H p ys) ∧ ∀ l, H l = none → Q (.ref l) (upd H l (.lst ys))) aList := by
  intro B σ H H1 G Γ M rx x Q R k r1 h q
  unfold aList at h
  split at h
  · rename_i s hs
    obtain ⟨a, xs, e, hq, h2⟩ := (sqOf_ok k r1 hs).rd
    subst e
    refine ⟨a, xs, rfl, ?_, q.newL k h2 h⟩
    rcases hq with ⟨_, _, z⟩ | ⟨_, z⟩
    · exact .inr z
    · exact .inl z
  · exact h.elim
theorem q_list {p : Pos} (hm : X.mg "list" = none) (ha : QE X ρ a ta aa) (hg : Gl X "list" := by rfl) (na : starEach [a] X.env = (false, eval a X.env) :: starEach [] X.env := by rfl) (hK : X.K = K := by rfl) :
    QE X ρ (.Call (.Name "list" p) [a] [] pos) (tCB (fun xs H Q => ∃ p ys, xs = [.ref p] ∧ (SqL K H p ys ∨ SqT K H p ys) ∧ ∀ l, H l = none → Q (.ref l) (upd H l (.lst ys))) (tCons ta tNil)) (aCall1 aList aa) := by subst hK; exact q_callT1 call_list_of rd_list hm ha hg (na := na)
def aAbs (r : Ret) (Γ : Sl) (M : Mem) (Q : Ret → Sl → Mem → Prop) : Prop := match r with
  | .dat (.int i) => Q (.dat (.int (if i < 0 then -i else i))) Γ M
  | _ => False
theorem q_abs {p : Pos} (hm : X.mg "abs" = none) (ha : QE X ρ a ta aa) (hg : Gl X "abs" := by rfl) (na : starEach [a] X.env = (false, eval a X.env) :: starEach [] X.env := by rfl) :
    QE X ρ (.Call (.Name "abs" p) [a] [] pos) (tCB (fun xs H Q => ∃ i, xs = [.int i] ∧ Q (.int (if i < 0 then -i else i)) H) (tCons ta tNil)) (aCall1 aAbs aa) := q_callB1 call_abs (by
  intro B σ H H1 G Γ M rx x Q R k r1 h q
  unfold aAbs at h
  split at h
  · rename_i i
    have e : x = .int i := by have := r1; simp only [RepR, Rep] at this; exact this
    exact ⟨i, by rw [e], q _ H G Γ M (.dat (.int _)) k .refl (by simp only [RepR, Rep]) h⟩
  · exact h.elim) hm ha hg (na := na)
def aInt (r : Ret) (Γ : Sl) (M : Mem) (Q : Ret → Sl → Mem → Prop) : Prop := match r with
  | .dat (.int i) => Q (.dat (.int i)) Γ M
  | .dat (.bl k) => Q (.dat (.int (if k then 1 else 0))) Γ M
  | _ => False
theorem q_intB {p : Pos} (hm : X.mg "int" = none) (ha : QE X ρ a ta aa) (hg : Gl X "int" := by rfl) (na : starEach [a] X.env = (false, eval a X.env) :: starEach [] X.env := by rfl) :
    QE X ρ (.Call (.Name "int" p) [a] [] pos) (tCB (fun xs H Q => (∃ i, xs = [.int i] ∧ Q (.int i) H) ∨ ∃ k, xs = [.bl k] ∧ Q (.int (if k then 1 else 0)) H) (tCons ta tNil)) (aCall1 aInt aa) := q_callT1 call_int1 (by
  intro B σ H H1 G Γ M rx x Q R k r1 h q
  unfold aInt at h
  split at h
  · rename_i i
    have e : x = .int i := by have := r1; simp only [RepR, Rep] at this; exact this
    exact .inl ⟨i, by rw [e], q _ H G Γ M (.dat (.int _)) k .refl (by simp only [RepR, Rep]) h⟩
  · rename_i i
    have e : x = .bl i := by have := r1; simp only [RepR, Rep] at this; exact this
    exact .inr ⟨i, by rw [e], q _ H G Γ M (.dat (.int _)) k .refl (by simp only [RepR, Rep]) h⟩
  · exact h.elim) hm ha hg (na := na)
theorem rd_2I {g : Int → Int → Int} : RdU2 K ρ (fun xs H Q => ∃ i j, xs = [.int i, .int j] ∧ Q (.int (g i j)) H) (aI0 fun i j => .int (g i j)) := by
  intro B σ H H1 H2 G Γ M rx ry x y Q R k r1 r2 h q
  unfold aI0 at h
  split at h
  · rename_i i j
    have e1 : x = .int i := by have := r1; simp only [RepR, Rep] at this; exact this
    have e2 : y = .int j := by have := r2; simp only [RepR, Rep] at this; exact this
    exact ⟨i, j, by rw [e1, e2], q _ H G Γ M (.dat (.int _)) k .refl (by simp only [RepR, Rep]) h⟩
  · exact h.elim
theorem q_max2 {p : Pos} (hm : X.mg "max" = none) (ha : QE X ρ a ta aa) (hb : QE X ρ b tb ab) (hc : X.calm = true := by rfl) (hg : Gl X "max" := by rfl) (na : starEach [a, b] X.env = (false, eval a X.env) :: starEach [b] X.env := by rfl) (nb : starEach [b] X.env = (false, eval b X.env) :: starEach [] X.env := by rfl) (hpl : (backTo pos (starEach [b] X.env)).any (·.1) = false := by rfl) :
    QE X ρ (.Call (.Name "max" p) [a, b] [] pos) (tCB (fun xs H Q => ∃ i j, xs = [.int i, .int j] ∧ Q (.int (if j > i then j else i)) H) (tCons ta (tCons tb tNil))) (aCall2 (aI0 fun i j => .int (if j > i then j else i)) aa ab) :=
  q_callB2 (call_max2 hc) rd_2I hm ha hb hg (na := na) (nb := nb) (hpl := hpl)
theorem q_min2 {p : Pos} (hm : X.mg "min" = none) (ha : QE X ρ a ta aa) (hb : QE X ρ b tb ab) (hc : X.calm = true := by rfl) (hg : Gl X "min" := by rfl) (na : starEach [a, b] X.env = (false, eval a X.env) :: starEach [b] X.env := by rfl) (nb : starEach [b] X.env = (false, eval b X.env) :: starEach [] X.env := by rfl) (hpl : (backTo pos (starEach [b] X.env)).any (·.1) = false := by rfl) :
    QE X ρ (.Call (.Name "min" p) [a, b] [] pos) (tCB (fun xs H Q => ∃ i j, xs = [.int i, .int j] ∧ Q (.int (if j < i then j else i)) H) (tCons ta (tCons tb tNil))) (aCall2 (aI0 fun i j => .int (if j < i then j else i)) aa ab) :=
  q_callB2 (call_min2 hc) rd_2I hm ha hb hg (na := na) (nb := nb) (hpl := hpl)
/-- sorted of a list of ints -/
def intsOf : List D → Option (List Int)
  | [] => some []
  | .int b :: ds => (intsOf ds).map (b :: ·)
  | _ :: _ => none
theorem intsOf_ok : ∀ {ds : List D} {bs : List Int}, intsOf ds = some bs → ds = bs.map .int
  | [], _, h => by cases h; rfl
  | .int b :: ds, _, h => by
    simp only [intsOf, Option.map_eq_some_iff] at h
    obtain ⟨bs, h1, rfl⟩ := h
    rw [intsOf_ok h1]; rfl
theorem intsOf_map (bs : List Int) : intsOf (bs.map .int) = some bs := by
  induction bs with
  | nil => rfl
  | cons b bs ih => rw [List.map_cons, intsOf, ih]; rfl
def isort (ns : List Int) : List Int := ns.mergeSort (fun a b => decide (a ≤ b))
theorem isort_perm (ns : List Int) : (isort ns).Perm ns := List.mergeSort_perm ns _
theorem isort_sorted (ns : List Int) : (isort ns).Pairwise (· ≤ ·) := by
  have := List.pairwise_mergeSort (le := fun a b : Int => decide (a ≤ b)) (fun a b c h1 h2 => by simp at *; omega) (fun a b => by simp; omega) ns
  exact this.imp fun h => by simpa using h
theorem sorted_uniq {xs ys : List Int} (p : xs.Perm ys) (hx : xs.Pairwise (· ≤ ·)) (hy : ys.Pairwise (· ≤ ·)) : xs = ys := List.Perm.eq_of_pairwise (fun a b _ _ h1 h2 => by omega) hx hy p
def aSortI (r : Ret) (Γ : Sl) (M : Mem) (Q : Ret → Sl → Mem → Prop) : Prop := match sqOf r Γ M with
  | some (.lst ds) => match intsOf ds with
    | some ns => Q (.tmp (.lst ((isort ns).map .int))) Γ M
    | none => False
  | some (.scr ds) => match intsOf ds with
    | some ns => Q (.tmp (.lst ((isort ns).map .int))) Γ M
    | none => False
  | _ => False
theorem rd_sortI : RdU K ρ (rSortedI K) aSortI := by
  intro B σ H H1 G Γ M rx x Q R k r1 h q
  have go : ∀ a ns, x = .ref a → SqL K H a (ns.map V.int) → Q (.tmp (.lst ((isort ns).map .int))) Γ M → rSortedI K [x] H R := fun a ns e hq h => by
    subst e
    refine ⟨a, ns, rfl, hq, fun ns' p hp hs np => ?_⟩
    rw [sorted_uniq (hp.trans (isort_perm ns).symm) hs (isort_sorted ns)]
    exact q.newL k (repL_map_int.mpr rfl) h p np
  unfold aSortI at h
  split at h
  · rename_i ds hs
    split at h
    · rename_i ns hb
      obtain ⟨a, xs, e, hq, h2⟩ := sqOf_ok k r1 hs
      rw [intsOf_ok hb, repL_map_int] at h2
      subst h2
      exact go a ns e (SqL.of hq) h
    · exact h.elim
  · rename_i ds hs
    split at h
    · rename_i ns hb
      obtain ⟨a, xs, e, hq, h2⟩ := sqOf_ok k r1 hs
      rw [intsOf_ok hb, repL_map_int] at h2
      subst h2
      exact go a ns e hq h
    · exact h.elim
  · exact h.elim
theorem q_sortI {p : Pos} (hm : X.mg "sorted" = none) (ha : QE X ρ a ta aa) (hg : Gl X "sorted" := by rfl) (na : starEach [a] X.env = (false, eval a X.env) :: starEach [] X.env := by rfl) (hK : X.K = K := by rfl) :
    QE X ρ (.Call (.Name "sorted" p) [a] [] pos) (tCB (rSortedI K) (tCons ta tNil)) (aCall1 aSortI aa) := by subst hK; exact q_callB1 cr_sortedI rd_sortI hm ha hg (na := na)
end
end Gw

namespace Gw
open PySem L2 PyProof.Rows
variable {ρ : Ent}
/-! ### defs whose callers run no repr: what FnOk says, where the guards around are known to be none -/
structure FnG (P : Program) (w : World) (K : PySem.W.Frag) (mg : Str → Option Value) (base : Heap) (CX : CXT) (k : Nat) (f : Addr) (fd : FuncData) (ps : List Str) (sp : Sp) : Prop where
  arity : ∀ vs H Q E, sp vs H Q E → vs.length = ps.length
  go : ∀ (A : Around) (outer : List Env) (s : Shared) (H : Hp) (args : Args) (us : List Value) (vs : List V) (Q : VK) (E : XK), Room k A → A.guards = some [] → Env0 P w K mg base A outer s H →
    BindsTo s fd args (ps.zip us) → Vals vs us → sp vs H Q E → codeAny (model P w) A (.call (.ref f) args) (CR CX outer P w H s Q E) s
section
variable {P : Program} {w : World} {K : PySem.W.Frag} {mg : Str → Option Value} {base : Heap} {CX : CXT}
theorem FnG.mono {j k : Nat} {f : Addr} {fd : FuncData} {ps : List Str} {sp : Sp} (F : FnG P w K mg base CX j f fd ps sp) (h : j ≤ k) : FnG P w K mg base CX k f fd ps sp :=
  ⟨F.arity, fun A o s H ar us vs Q E r => F.go A o s H ar us vs Q E (r.mono h)⟩
/-- a def by its body -/
theorem fnG_of {k : Nat} {x qual : Str} {st : Stmt} {f : Addr} {fd : FuncData} {N ps : List Str} {sp : Sp} (F : Fun K x qual st f fd) (S : FnScope N ps (defScope st)) (ar : ∀ vs H Q E, sp vs H Q E → vs.length = ps.length)
    (body : ∀ (cd : Value) (A : Around) (outer : List Env) (s : Shared) (H : Hp) (vs : List V) (Q : VK) (E : XK), Room k (A.deeper (envOfC qual (defScope st) s.heap.objs.size f cd)) → A.guards = some [] → sp vs H Q E →
      ∃ t, PSs (cxOf CX P w K mg base N qual (defScope st) f cd A outer s H E) (defBody st) t ∧ t { nx := fun _ H' => Q .non H', rt := Q } (start N vs) H) : FnG P w K mg base CX (k + 1) f fd ps sp := by
  obtain ⟨oc, od, kV, doc, pm, an, cd, ct, osl, rfl, lk, hcode⟩ := F.ex
  refine ⟨ar, fun A outer s H args us vs Q E room gd env bind rel hsp => ?_⟩
  have inK : K.In s.heap := env.mod.kin.keeps fun b o e => (env.bs b o e).1
  have noLim : s.heap.NoLimit := env.mod.nolimit.keeps fun b o e => (env.bs b o e).1
  have kinds : ∀ y ∈ ps.zip us, (defScope st).names.lookup y.1 = some .local ∨ ((defScope st).names.lookup y.1 = some .cell ∧ ((cellsFrom (s.heap.objs.size + 1) (defScope st).names []).lookup y.1).isSome = true) := by
    rintro ⟨nm, vl⟩ hy
    exact (S.par nm (List.of_mem_zip hy).1).imp id fun q => ⟨q, PySem.W.cellsFrom_some _ _ _ (.inl q)⟩
  apply codeAny_call_function room.depth (inK _ _ lk) rfl S.co S.gen rfl (PySem.W.codeRec_of inK hcode)
  apply bind
  apply wpAny_newFunctionEnv_cells S.kind kinds
  rintro env' rfl s1 inCall
  refine ⟨noLim.keeps inCall.toInCall.keep, codeAny_func ?_⟩
  obtain ⟨t, ht, hq⟩ := body cd A outer s H vs Q E (room.deeper _) gd hsp
  have I := inv_start (CX := CX) (E := E) S room.hd env (ar _ _ _ _ hsp) rel inCall
  refine wpAny_mono (ht.run [] s1 _ H _ I hq) (fun fl s' hs => ?_) fun _ _ z => z
  match fl, hs with
  | .ret u, ⟨v, _, H', J, rv, q⟩ => exact ⟨v, H', J.os, J.bare, J.base, J.hok, rv, q⟩
  | .next, ⟨_, H', J, q⟩ => exact ⟨V.non, H', J.os, J.bare, J.base, J.hok, rfl, q⟩
  | .brk, ⟨_, _, _, q⟩ => exact q.elim
  | .cont, ⟨_, _, _, q⟩ => exact q.elim
end
section
variable {X : Cx} {CX : CXT} {k : Nat} {f : Addr} {fd : FuncData} {ps ks : List Str} {sp : Sp} {E : XK} {x : Str} {p pos : Pos} {e : Expr} {es : List Expr} {t : TA}
theorem runG {pins : List (Addr × Obj)} {σ : L2.St} {H : Hp} {s : Shared} {Q : VK} {args : Args} {us : List Value} {vs : List V} (F : FnG X.prog X.w X.K X.mg X.base CX k f fd ps sp) (room : Room k X.A) (gd : X.A.guards = some []) (hx : Passes CX X E)
    (I : Inv X pins σ H s) (bind : BindsTo s fd args (ps.zip us)) (r : Vals vs us) (h : sp vs H Q E) : codeAny (model X.prog X.w) X.A (.call (.ref f) args) (fun r s' => match r with | .ok (.ret u) => EP X pins σ Q u s' | .ok _ => False | .error e => X.xe e s') s :=
  codeAny_mono (F.go X.A X.stack s H args us vs Q E room gd I.env0 bind r h) fun res s' hq => match res, hq with
    | .ok (.ret u), hq => I.after hq
    | .ok .next, hq => hq.elim
    | .ok .brk, hq => hq.elim
    | .ok .cont, hq => hq.elim
    | .error e, hq => hx pins σ H s e s' I hq
theorem callG {pins : List (Addr × Obj)} {σ : L2.St} {H : Hp} {s : Shared} {Q : VK} {us ws : List Value} {zs : List V} {us' : List Value} (F : FnG X.prog X.w X.K X.mg X.base CX k f fd ps sp) (room : Room k X.A) (gd : X.A.guards = some []) (hx : Passes CX X E)
    (I : Inv X pins σ H s) (bind : BindsTo s fd ⟨us, ks.zip ws⟩ (ps.zip us')) (r : Vals zs us') (h : sp zs H Q E) : wpAny (model X.prog X.w) X.A (call (.ref f) us (ks.zip ws)) (EP X pins σ Q) X.xe s :=
  wpAny_call (codeAny_mono (runG F room gd hx I bind r h) fun res s' hq => match res, hq with
    | .ok (.ret u), hq => hq
    | .ok .next, hq => hq.elim
    | .ok .brk, hq => hq.elim
    | .ok .cont, hq => hq.elim
    | .error e, hq => hq)
theorem pe_callG (F : FnG X.prog X.w X.K X.mg X.base CX k f fd ps sp) (room : Room k X.A) (gd : X.A.guards = some []) (hg : Gl X x) (hm : X.mg x = some (.ref f)) (hk : PySem.W.keepIn X.K (.ref f) = true) (hb : Binds X.K fd ps []) (hx : Passes CX X E)
    (ha : PA X (e :: es) t) (hdb : (x == ("__debug__" : Str)) = false) (he : starEach (e :: es) X.env = (false, eval e X.env) :: starEach es X.env) (hpl : (backTo pos (starEach es X.env)).any (·.1) = false) :
    PE X (.Call (.Name x p) (e :: es) [] pos) (tCall sp [] E t) := by
  refine ⟨fun pins s σ H Q I h => wpAny_Call_Name_kw (ld_glob I hg hm ?_ hdb)⟩
  refine PySem.W.callWith_K (h₀ := X.base) I.ok.mod.kin hk (thn (ha.run pos pins s σ H _ I h) ?_) he hpl
  rintro us s1 ⟨vs, H1, I1, r, q⟩
  rw [List.append_nil] at q
  have hl : us.length = ps.length := by rw [← r.length]; exact F.arity _ _ _ _ q
  have b := hb s1 us I1.kIn (by rw [List.append_nil]; exact hl)
  rw [List.append_nil] at b
  exact ⟨I1.kIn, callG (ks := []) (ws := []) F room gd hx I1 b r q⟩
theorem pe_callG0 (F : FnG X.prog X.w X.K X.mg X.base CX k f fd ps sp) (room : Room k X.A) (gd : X.A.guards = some []) (hg : Gl X x) (hm : X.mg x = some (.ref f)) (hk : PySem.W.keepIn X.K (.ref f) = true) (hb : Binds X.K fd ps []) (hx : Passes CX X E)
    (hdb : (x == ("__debug__" : Str)) = false) : PE X (.Call (.Name x p) [] [] pos) (tCall sp [] E tNil) := by
  refine ⟨fun pins s σ H Q I h => wpAny_Call_Name_kw (ld_glob I hg hm ?_ hdb)⟩
  have q : sp [] H Q E := h
  have hl : ([] : List Value).length = ps.length := F.arity _ _ _ _ q
  have b := hb s [] I.kIn (by rw [List.append_nil]; exact hl)
  exact PySem.W.callWith_K0 I.kIn hk (callG (ks := []) (ws := []) F room gd hx I b .nil q)
theorem pe_callGK {kws : List Keyword} {tk : TA} {g : List Value → List Value → List Value} {gV : List V → List V → List V} (F : FnG X.prog X.w X.K X.mg X.base CX k f fd ps sp) (room : Room k X.A) (gd : X.A.guards = some []) (hg : Gl X x) (hm : X.mg x = some (.ref f)) (hk : PySem.W.keepIn X.K (.ref f) = true) (hb : KBinds X.K fd ps ks g gV) (hx : Passes CX X E)
    (hkw : PK X kws tk) (hall : (backToKw pos (keywordEach kws X.env)).all (·.1.isSome) = true) (hks : (backToKw pos (keywordEach kws X.env)).filterMap (·.1) = ks)
    (hdb : (x == ("__debug__" : Str)) = false) (hpl : ((backTo pos (starEach [] X.env)).any (·.1) || (backToKw pos (keywordEach kws X.env)).any (·.1.isNone)) = false) :
    PE X (.Call (.Name x p) [] kws pos) (tCallK sp gV E tNil tk) := by
  refine ⟨fun pins s σ H Q I h => wpAny_Call_Name_kw (ld_glob I hg hm ?_ hdb)⟩
  refine PySem.W.callWith_KW0 (h₀ := X.base) I.ok.mod.kin hk hall (thn (hkw.run pos pins s σ H _ I h) ?_) hpl
  rintro ws s2 ⟨zs, H2, I2, rz, q⟩
  have r2 := hb.rel (.nil : Vals [] []) rz
  rw [hks]
  exact ⟨I2.kIn, callG F room gd hx I2 (hb.to s2 [] ws I2.kIn (by rw [← r2.length]; exact F.arity _ _ _ _ q)) r2 q⟩
end
/-! ### repr of data -/
section
variable {X : Cx}
mutual
theorem Dp.noDict {K : PySem.W.Frag} {H : Hp} : ∀ {v : V} {d : PyData}, Dp K H v d → d.hasDict = false
  | _, _, .non => by simp [PyData.hasDict]
  | _, _, .bl _ => by simp [PyData.hasDict]
  | _, _, .int _ => by simp [PyData.hasDict]
  | _, _, .str _ => by simp [PyData.hasDict]
  | _, _, .lst _ h => by rw [PyData.hasDict]; exact DpAll.noDict h
  | _, _, .tup _ h => by rw [PyData.hasDict]; exact DpAll.noDict h
theorem DpAll.noDict {K : PySem.W.Frag} {H : Hp} : ∀ {vs : List V} {ds : List PyData}, DpAll K H vs ds → PyData.hasDictAll ds = false
  | _, _, .nil => by simp [PyData.hasDictAll]
  | _, _, .cons h1 h2 => by rw [PyData.hasDictAll, Dp.noDict h1, DpAll.noDict h2]; rfl
end
theorem call_reprD (gd : X.A.guards = some []) (hu : X.A.units + 100 < cLine) : CallR X (.builtin "repr") (fun xs H Q => ∃ v d, xs = [v] ∧ Dp X.K H v d ∧ d.showable = true ∧ d.depth ≤ 64 ∧ d.shown.length ≤ sizeLine ∧ Q (.str d.shown) H) := by
  intro pins s σ H xs us Q I rv h
  obtain ⟨v, d, rfl, hd, hs, hdep, hlen, q⟩ := h
  obtain ⟨u, rfl, ru⟩ := rv.one
  obtain ⟨as, r⟩ := Dp.reads I d v u hd ru
  have nd : d.hasDict = true → sysModules ∉ as := fun z => by rw [Dp.noDict hd] at z; cases z
  cases hd with
  | non =>
    cases ru
    exact PySem.P.repr_of_none ⟨.str _, H, I.tok _, ⟨_, rfl⟩, q⟩
  | bl b =>
    cases ru
    exact PySem.P.repr_of_bool ⟨.str _, H, I.tok _, ⟨_, rfl⟩, q⟩
  | int i =>
    obtain ⟨t, rfl⟩ := ru
    exact PySem.P.repr_of_int (by simpa [PyData.showable] using hs) ⟨.str _, H, I.tok _, ⟨_, rfl⟩, q⟩
  | str z =>
    obtain ⟨t, rfl⟩ := ru
    exact PySem.P.repr_of_str ⟨.str _, H, I.tok _, ⟨_, rfl⟩, q⟩ (by simpa [PyData.shown] using hlen)
  | lst h1 h2 =>
    cases ru
    exact repr_of_reads' r hs nd gd (by omega) (fun _ _ e => e) (fun h' u tk hk => ⟨.str _, H, I.kept hk, ⟨_, rfl⟩, q⟩) hlen
  | tup h1 h2 =>
    cases ru
    exact repr_of_reads' r hs nd gd (by omega) (fun _ _ e => e) (fun h' u tk hk => ⟨.str _, H, I.kept hk, ⟨_, rfl⟩, q⟩) hlen
end
end Gw

namespace Gw
open PySem L2
variable {ρ : Ent}

/-! ### calls of the program's own defs -/
abbrev ASp := List D → Mem → (Ret → Mem → Prop) → Prop
def Post (K : PySem.W.Frag) (H G : Hp) (M : Mem) (H' G' : Hp) (M' : Mem) : Prop :=
  Stp ⟨H, G, dom M⟩ H' G' M' ∧ Ex G' H' ∧ (dom M').Nodup ∧ ∀ a c, (a, c) ∈ M' → Cel K H' G' a c
def RetOk (K : PySem.W.Frag) (H H' G' : Hp) (M' : Mem) : Ret → V → Prop
  | .dat d, v => Rep K G' d v
  | .tmp c, v => ∃ p, v = .ref p ∧ H p = none ∧ Cel K H' G' p c ∧ p ∉ dom M'
  | .var _, _ => False
def spA (K : PySem.W.Frag) (n : Nat) (S : ASp) : Sp := fun vs H Q _ => ∃ G M ds, vs.length = n ∧ Ex G H ∧ (dom M).Nodup ∧ (∀ a c, (a, c) ∈ M → Cel K H G a c) ∧ RepL K G ds vs ∧
  ∃ Qa : Ret → Mem → Prop, S ds M Qa ∧ ∀ r M' v H' G', Qa r M' → Post K H G M H' G' M' → RetOk K H H' G' M' r v → Q v H'
section
variable {X : Cx} {a b c : Expr} {ta tb tc te : TE} {aa ab ac ae : AE} {pos : Pos} {K : PySem.W.Frag} {B : Ent} {σ : St} {H G H1 G1 H2 G2 : Hp} {Γ Γ1 Γ2 : Sl} {M M1 M2 : Mem}
theorem not_both {H : Hp} {x : Addr} {o : HO} (h : H x = some o) (z : H x = none) : False := by rw [h] at z; cases z
theorem Stp.trans (a : Stp B H1 G1 M1) (b : Stp ⟨H1, G1, dom M1⟩ H2 G2 M2) : Stp B H2 G2 M2 where
  g := a.g.trans b.g
  fr := fun x o h n => b.fr x o (a.fr x o h n) fun m => (a.mn x m).elim n (not_both h)
  gn := fun x o h => (b.gn x o h).elim (fun z => a.gn x o z) fun z => .inr (a.nn x z)
  mn := fun x h => (b.mn x h).elim (fun z => a.mn x z) fun z => .inr (a.nn x z)
  nn := fun x h => a.nn x (b.nn x h)
/-- behind a call -/
theorem Ok.call {H' G' : Hp} {M' : Mem} {r : Ret} {v : V} (k : Ok K ρ B σ H G Γ M) (p : Post K H G M H' G' M') (rr : RetOk K H H' G' M' r v) :
    Ok K ρ B σ H' G' Γ M' ∧ Es σ H G Γ M H' G' Γ M' ∧ RepR K B σ H H' G' Γ M' r v := by
  obtain ⟨st, ex, nd, ms⟩ := p
  have keep : ∀ x o, H x = some o → G x = none → x ∉ dom M → H' x = some o ∧ G' x = none ∧ x ∉ dom M' := fun x o h g m => by
    refine ⟨st.fr x o h m, ?_, fun z => (st.mn x z).elim m (not_both h)⟩
    cases e : G' x with
    | none => rfl
    | some u =>
      rcases st.gn x u e with z | z
      · exact (not_both z g).elim
      · exact (not_both h z).elim
  have k' : Ok K ρ B σ H' G' Γ M' := ⟨k.st.trans st, ex, nd, ms, fun i d h => let ⟨w, h1, h2⟩ := k.dat i d h; ⟨w, h1, h2.mono st.g⟩, fun i c h => by
    obtain ⟨q, h1, h2, h3, hg, o, ho, hc⟩ := k.own i c h
    obtain ⟨b1, b2, b3⟩ := keep q o ho hg h3
    exact ⟨q, h1, h2, b3, b2, o, b1, hc.mono st.g⟩, k.dis, k.len, k.pb⟩
  refine ⟨k', ⟨st.g, fun x o h g m n => let ⟨b1, b2, b3⟩ := keep x o h g m; ⟨b1, b2, b3, n⟩, st.nn⟩, ?_⟩
  cases r with
  | dat d => exact rr
  | tmp c =>
    obtain ⟨q, e, hq, hc, hm⟩ := rr
    refine ⟨q, e, hq, k.st.nn q hq, hc, hm, fun ⟨i, c', h1, h2⟩ => ?_⟩
    obtain ⟨q', h3, _, _, _, o, ho, _⟩ := k.own i c' h1
    rw [h2] at h3; cases h3; rw [hq] at ho; cases ho
  | var i => exact rr.elim
/-- a promise taken at its arguments; what follows is kept from the simplifier -/
structure Wit (Q : Ret → Mem → Prop) : Type where
def ap (S : ASp) (ds : List D) (M : Mem) (Q : Ret → Mem → Prop) (_ : Wit Q) : Prop := S ds M Q
def aCall (S : ASp) (aa : AA) (Γ : Sl) (M : Mem) (Q : Ret → Sl → Mem → Prop) : Prop := aa Γ M fun ds Γ1 M1 => ap S ds M1 (fun r M2 => Q r Γ1 M2) ⟨⟩
/-- a spec of n arguments -/
def Ar (n : Nat) (S : ASp) : Prop := ∀ ds M Q, S ds M Q → ds.length = n
theorem rd_call {n : Nat} {S : ASp} {E : XK} {tr : TA} {ar : AA} (hn : Ar n S) (ha : RdA K ρ tr ar) : RdE K ρ (tCall (spA K n S) [] E tr) (aCall S ar) := by
  intro B σ H G Γ M Q R k h q
  refine ha B σ H G Γ M _ _ k h fun vs H1 G1 Γ1 M1 ds k1 e1 rl h1 => ?_
  refine ⟨G1, M1, ds, by rw [List.append_nil, rl.length]; exact hn _ _ _ h1, k1.ex, k1.nd, k1.ms, by rw [List.append_nil]; exact rl, _, h1, fun r M' v H' G' hq p rr => ?_⟩
  obtain ⟨k2, e2, r2⟩ := k1.call p rr
  exact q _ H' G' Γ1 M' r k2 (e1.trans e2) (r2.old e1.nn) hq
section
variable {CX : CXT} {k n : Nat} {f : Addr} {fd : FuncData} {ps ks : List Str} {S : ASp} {x : Str} {p : Pos} {es : List Expr} {tr : TA} {ar : AA}
theorem q_call (F : FnG X.prog X.w X.K X.mg X.base CX0 k f fd ps (spA X.K n S)) (hr : Room k X.A) (gd : X.A.guards = some []) (hm : X.mg x = some (.ref f)) (hk : PySem.W.keepIn X.K (.ref f) = true) (hb : Binds X.K fd ps []) (hn : Ar n S)
    (ha : QA X ρ (a :: es) tr ar) (hg : Gl X x := by rfl) (hdb : (x == ("__debug__" : Str)) = false := by decide) (he : starEach (a :: es) X.env = (false, eval a X.env) :: starEach es X.env := by rfl) (hpl : (backTo pos (starEach es X.env)).any (·.1) = false := by rfl) :
    QE X ρ (.Call (.Name x p) (a :: es) [] pos) (tCall (spA X.K n S) [] E0 tr) (aCall S ar) := ⟨pe_callG F hr gd hg hm hk hb pass0 ha.pe hdb he hpl, rd_call hn ha.rd⟩
theorem q_call0 (F : FnG X.prog X.w X.K X.mg X.base CX0 k f fd ps (spA X.K n S)) (hr : Room k X.A) (gd : X.A.guards = some []) (hm : X.mg x = some (.ref f)) (hk : PySem.W.keepIn X.K (.ref f) = true) (hb : Binds X.K fd ps []) (hn : Ar n S)
    (hg : Gl X x := by rfl) (hdb : (x == ("__debug__" : Str)) = false := by decide) :
    QE X ρ (.Call (.Name x p) [] [] pos) (tCall (spA X.K n S) [] E0 tNil) (aCall S aNil) := ⟨pe_callG0 F hr gd hg hm hk hb pass0 hdb, rd_call hn rd_nil⟩
/-! with keywords alone: gV puts what is given in the parameters' order -/
structure QK (X : Cx) (ρ : Ent) (kws : List Keyword) (tk : TA) (ak : AA) : Prop where
  pe : PK X kws tk
  rd : RdA X.K ρ tk ak
theorem qk_nil : QK X ρ [] tNil aNil := ⟨pk_nil, rd_nil⟩
theorem qk_cons {kws : List Keyword} {nm : Option Str} {kpos : Pos} {tk : TA} {ak : AA} (ha : QE X ρ a ta aa) (hr : QK X ρ kws tk ak) : QK X ρ (⟨nm, a, kpos⟩ :: kws) (tCons ta tk) (aCons aa ak) := ⟨pk_cons ha.pe hr.pe, rd_cons ha.rd hr.rd⟩
/-- one order of the parameters for values, the model's and data -/
structure Ord (gV : List V → List V → List V) (gD : List D → List D) : Prop where
  rep : ∀ {K G vs ds}, RepL K G ds vs → RepL K G (gD ds) (gV [] vs)
def aCallK (S : ASp) (gD : List D → List D) (ak : AA) (Γ : Sl) (M : Mem) (Q : Ret → Sl → Mem → Prop) : Prop := ak Γ M fun ds Γ1 M1 => ap S (gD ds) M1 (fun r M2 => Q r Γ1 M2) ⟨⟩
theorem q_callK0 {kws : List Keyword} {tk : TA} {ak : AA} {g : List Value → List Value → List Value} {gV : List V → List V → List V} {gD : List D → List D} (F : FnG X.prog X.w X.K X.mg X.base CX0 k f fd ps (spA X.K n S)) (hr : Room k X.A) (gd : X.A.guards = some []) (hm : X.mg x = some (.ref f)) (hk : PySem.W.keepIn X.K (.ref f) = true) (hb : KBinds X.K fd ps ks g gV) (ho : Ord gV gD) (hn : Ar n S)
    (hkw : QK X ρ kws tk ak) (hg : Gl X x := by rfl) (hall : (backToKw pos (keywordEach kws X.env)).all (·.1.isSome) = true := by rfl) (hks : (backToKw pos (keywordEach kws X.env)).filterMap (·.1) = ks := by rfl)
    (hdb : (x == ("__debug__" : Str)) = false := by decide) (hpl : ((backTo pos (starEach [] X.env)).any (·.1) || (backToKw pos (keywordEach kws X.env)).any (·.1.isNone)) = false := by rfl) :
    QE X ρ (.Call (.Name x p) [] kws pos) (tCallK (spA X.K n S) gV E0 tNil tk) (aCallK S gD ak) := ⟨pe_callGK F hr gd hg hm hk hb pass0 hkw.pe hall hks hdb hpl, by
  intro B σ H G Γ M Q R k h q
  refine hkw.rd B σ H G Γ M _ _ k h fun vs H1 G1 Γ1 M1 ds k1 e1 rl h1 => ?_
  refine ⟨G1, M1, gD ds, by rw [(ho.rep rl).length]; exact hn _ _ _ h1, k1.ex, k1.nd, k1.ms, ho.rep rl, _, h1, fun r M' v H' G' hq p rr => ?_⟩
  obtain ⟨k2, e2, r2⟩ := k1.call p rr
  exact q _ H' G' Γ1 M' r k2 (e1.trans e2) (r2.old e1.nn) hq⟩
end

/-! ### statements -/
structure Sim (K : PySem.W.Frag) (ρ : Ent) (B : Ent) (A : AEnds) (E : Ends) : Prop where
  nx : ∀ σ H G Γ M, Ok K ρ B σ H G Γ M → A.nx Γ M → E.nx σ H
  rt : ∀ σ H0 H G Γ M r v, Ok K ρ B σ H G Γ M → RepR K B σ H0 H G Γ M r v → A.rt r Γ M → E.rt v H
  bk : ∀ σ H G Γ M, Ok K ρ B σ H G Γ M → A.bk Γ M → E.bk σ H
  ct : ∀ σ H G Γ M, Ok K ρ B σ H G Γ M → A.ct Γ M → E.ct σ H
def RdS (K : PySem.W.Frag) (ρ : Ent) (ts : TS) (as : AS) : Prop := ∀ B σ H G Γ M A E, Ok K ρ B σ H G Γ M → as A Γ M → Sim K ρ B A E → ts E σ H
structure QS (X : Cx) (ρ : Ent) (st : Stmt) (ts : TS) (as : AS) : Prop where
  pe : PS X st ts
  rd : RdS X.K ρ ts as
structure QSs (X : Cx) (ρ : Ent) (st : List Stmt) (ts : TS) (as : AS) : Prop where
  pe : PSs X st ts
  rd : RdS X.K ρ ts as
def aNext (A : AEnds) (Γ : Sl) (M : Mem) : Prop := A.nx Γ M
def aSeq (s t : AS) (A : AEnds) (Γ : Sl) (M : Mem) : Prop := s { A with nx := t A } Γ M
theorem Sim.seq {A : AEnds} {E : Ends} {t : AS} {tt : TS} (s : Sim K ρ B A E) (h : RdS K ρ tt t) : Sim K ρ B { A with nx := t A } { E with nx := tt E } :=
  ⟨fun σ H G Γ M k q => h B σ H G Γ M A E k q s, s.rt, s.bk, s.ct⟩
theorem qss_nil : QSs X ρ [] tNext aNext := ⟨pss_nil, fun _ σ H G Γ M _ _ k h s => s.nx σ H G Γ M k h⟩
theorem qss_cons {st : Stmt} {rest : List Stmt} {ts tr : TS} {as ar : AS} (h1 : QS X ρ st ts as) (h2 : QSs X ρ rest tr ar) : QSs X ρ (st :: rest) (tSeq ts tr) (aSeq as ar) :=
  ⟨pss_cons h1.pe h2.pe, fun B σ H G Γ M A E k h s => h1.rd B σ H G Γ M _ _ k h (s.seq h2.rd)⟩
theorem qss_one {st : Stmt} {ts : TS} {as : AS} (h1 : QS X ρ st ts as) : QSs X ρ [st] ts as := ⟨pss_one h1.pe, h1.rd⟩
theorem qs_pass : QS X ρ (.Pass pos) tNext aNext := ⟨ps_pass, fun _ σ H G Γ M _ _ k h s => s.nx σ H G Γ M k h⟩
def aBrk (A : AEnds) (Γ : Sl) (M : Mem) : Prop := A.bk Γ M
def aCnt (A : AEnds) (Γ : Sl) (M : Mem) : Prop := A.ct Γ M
theorem qs_break : QS X ρ (.Break pos) tBreak aBrk := ⟨ps_break, fun _ σ H G Γ M _ _ k h s => s.bk σ H G Γ M k h⟩
theorem qs_continue : QS X ρ (.Continue pos) tCont aCnt := ⟨ps_continue, fun _ σ H G Γ M _ _ k h s => s.ct σ H G Γ M k h⟩
def aDrop (aa : AE) (A : AEnds) (Γ : Sl) (M : Mem) : Prop := aa Γ M fun _ Γ1 M1 => A.nx Γ1 M1
theorem qs_expr (h : QE X ρ a ta aa) (hs : swapsWith a none pos.line X.env = pure false := by rfl) : QS X ρ (.Expr a pos) (tDrop ta) (aDrop aa) :=
  ⟨ps_expr h.pe hs, fun B σ H G Γ M A E k hh s => h.rd B σ H G Γ M _ _ k hh fun v H1 G1 Γ1 M1 r k1 _ _ q => s.nx σ H1 G1 Γ1 M1 k1 q⟩
def aRet (aa : AE) (A : AEnds) (Γ : Sl) (M : Mem) : Prop := aa Γ M fun r Γ1 M1 => A.rt r Γ1 M1
theorem qs_ret (h : QE X ρ a ta aa) : QS X ρ (.Return (some a) pos) (tRet ta) (aRet aa) :=
  ⟨ps_ret h.pe, fun B σ H G Γ M A E k hh s => h.rd B σ H G Γ M _ _ k hh fun v H1 G1 Γ1 M1 r k1 _ rr q => s.rt σ H H1 G1 Γ1 M1 r v k1 rr q⟩
def aIfS (t : AT) (s u : AS) (A : AEnds) (Γ : Sl) (M : Mem) : Prop := t Γ M fun b Γ1 M1 => if b = true then s A Γ1 M1 else u A Γ1 M1
theorem qs_if {tt : TT} {at' : AT} {s1 s2 : List Stmt} {ts tu : TS} {as au : AS} (hc : QT X ρ c tt at') (h1 : QSs X ρ s1 ts as) (h2 : QSs X ρ s2 tu au) : QS X ρ (.If c s1 s2 pos) (tIfS tt ts tu) (aIfS at' as au) :=
  ⟨ps_if hc.pe h1.pe h2.pe, fun B σ H G Γ M A E k h s => hc.rd B σ H G Γ M _ _ k h fun b H1 G1 Γ1 M1 k1 _ q => by
    cases b with
    | true => exact h1.rd B σ H1 G1 Γ1 M1 A E k1 (by simpa using q) s
    | false => exact h2.rd B σ H1 G1 Γ1 M1 A E k1 (by simpa using q) s⟩

/-! ### stores -/
theorem set_get {α : Type} {l : List α} {i j : Nat} {s t : α} (h : (l.set i s)[j]? = some t) : (j = i ∧ t = s) ∨ (j ≠ i ∧ l[j]? = some t) := by
  rw [List.getElem?_set] at h
  by_cases e : i = j
  · rw [if_pos e] at h
    split at h
    · cases h; exact .inl ⟨e.symm, rfl⟩
    · cases h
  · rw [if_neg e] at h; exact .inr ⟨fun q => e q.symm, h⟩
theorem lt_of_set {α : Type} {l : List α} {i : Nat} {s t : α} (h : (l.set i s)[i]? = some t) : i < l.length := by
  have := (List.getElem?_eq_some_iff.mp h).1
  rwa [List.length_set] at this
theorem owned_set {i : Nat} {v : V} {s : Slot} {x : Addr} (hs : ∀ c, s ≠ .own c) (h : owned (σ.set i (some v)) (Γ.set i s) x) : owned σ Γ x := by
  obtain ⟨j, c, h1, h2⟩ := h
  rcases set_get h1 with ⟨_, e⟩ | ⟨ne, e⟩
  · exact (hs c e.symm).elim
  · refine ⟨j, c, e, ?_⟩
    rw [List.getElem?_set_ne (fun q => ne q.symm)] at h2; exact h2
theorem Ok.setD {i : Nat} {d : D} {v : V} (k : Ok K ρ B σ H G Γ M) (r : Rep K G d v) : Ok K ρ B (σ.set i (some v)) H G (Γ.set i (.dat d)) M := by
  refine ⟨k.st, k.ex, k.nd, k.ms, fun j e h => ?_, fun j c h => ?_, fun j l c c' q h h' a b => ?_, by rw [List.length_set, List.length_set]; exact k.len, k.pb⟩
  · rcases set_get h with ⟨e1, e2⟩ | ⟨ne, e1⟩
    · cases e2; subst e1
      refine ⟨v, ?_, r⟩
      rw [List.getElem?_set_self]
      rw [← k.len]; exact lt_of_set h
    · rw [List.getElem?_set_ne (fun q => ne q.symm)]; exact k.dat j e e1
  · rcases set_get h with ⟨_, e2⟩ | ⟨ne, e1⟩
    · cases e2
    · rw [List.getElem?_set_ne (fun q => ne q.symm)]; exact k.own j c e1
  · rcases set_get h with ⟨_, e2⟩ | ⟨ne, e1⟩
    · cases e2
    rcases set_get h' with ⟨_, e2⟩ | ⟨ne', e1'⟩
    · cases e2
    rw [List.getElem?_set_ne (fun q => ne q.symm)] at a
    rw [List.getElem?_set_ne (fun q => ne' q.symm)] at b
    exact k.dis j l c c' q e1 e1' a b
theorem Ok.setO {i : Nat} {c : Cell} {p : Addr} (k : Ok K ρ B σ H G Γ M) (hb : B.H p = none) (hc : Cel K H G p c) (hm : p ∉ dom M) (hn : ¬ owned σ Γ p) : Ok K ρ B (σ.set i (some (.ref p))) H G (Γ.set i (.own c)) M := by
  refine ⟨k.st, k.ex, k.nd, k.ms, fun j e h => ?_, fun j c h => ?_, fun j l cj cl q h h' a b => ?_, by rw [List.length_set, List.length_set]; exact k.len, k.pb⟩
  · rcases set_get h with ⟨_, e2⟩ | ⟨ne, e1⟩
    · cases e2
    · rw [List.getElem?_set_ne (fun q => ne q.symm)]; exact k.dat j e e1
  · rcases set_get h with ⟨e1, e2⟩ | ⟨ne, e1⟩
    · cases e2; subst e1
      refine ⟨p, ?_, hb, hm, hc⟩
      rw [List.getElem?_set_self]
      rw [← k.len]; exact lt_of_set h
    · rw [List.getElem?_set_ne (fun q => ne q.symm)]; exact k.own j c e1
  · rcases set_get h with ⟨ei, e2⟩ | ⟨ne, e1⟩ <;> rcases set_get h' with ⟨ei', e2'⟩ | ⟨ne', e1'⟩
    · rw [ei, ei']
    · exfalso
      subst ei
      rw [List.getElem?_set_self (by rw [← k.len]; exact lt_of_set h)] at a
      cases a
      rw [List.getElem?_set_ne (fun q => ne' q.symm)] at b
      exact hn ⟨l, cl, e1', b⟩
    · exfalso
      subst ei'
      rw [List.getElem?_set_self (by rw [← k.len]; exact lt_of_set h')] at b
      cases b
      rw [List.getElem?_set_ne (fun q => ne q.symm)] at a
      exact hn ⟨j, cj, e1, a⟩
    · rw [List.getElem?_set_ne (fun q => ne q.symm)] at a
      rw [List.getElem?_set_ne (fun q => ne' q.symm)] at b
      exact k.dis j l cj cl q e1 e1' a b
/-- x = e: a new list is owned -/
def aAsg (aa : AE) (i : Nat) (A : AEnds) (Γ : Sl) (M : Mem) : Prop := aa Γ M fun r Γ1 M1 => match r with
  | .tmp c => A.nx (Γ1.set i (.own c)) M1
  | r => frz r Γ1 fun d Γ2 => A.nx (Γ2.set i (.dat d)) M1
/-- x = e: a new list is frozen -/
def aAsgF (aa : AE) (i : Nat) (A : AEnds) (Γ : Sl) (M : Mem) : Prop := aa Γ M fun r Γ1 M1 => frz r Γ1 fun d Γ2 => A.nx (Γ2.set i (.dat d)) M1
theorem rd_asgF {i : Nat} (ha : RdE K ρ ta aa) : RdS K ρ (tAsg ta (gName i)) (aAsgF aa i) := fun B σ H G Γ M A E k h s => ha B σ H G Γ M _ _ k h fun v H1 G1 Γ1 M1 r k1 e1 rr h1 => by
  obtain ⟨G2, Γ2, d, k2, e2, rp, h2⟩ := frz_ok (H0 := H) k1 e1 rr h1
  exact s.nx _ H1 G2 _ M1 (k2.setD rp) h2
theorem rd_asg {i : Nat} (ha : RdE K ρ ta aa) : RdS K ρ (tAsg ta (gName i)) (aAsg aa i) := fun B σ H G Γ M A E k h s => ha B σ H G Γ M _ _ k h fun v H1 G1 Γ1 M1 r k1 e1 rr h1 => by
  cases r with
  | tmp c =>
    obtain ⟨p, rfl, h0, hb, hc, hm, hn⟩ := rr
    exact s.nx _ H1 G1 _ M1 (k1.setO hb hc hm hn) h1
  | dat d =>
    obtain ⟨G2, Γ2, d, k2, e2, rp, h2⟩ := frz_ok (H0 := H) k1 e1 rr h1
    exact s.nx _ H1 G2 _ M1 (k2.setD rp) h2
  | var j =>
    obtain ⟨G2, Γ2, d, k2, e2, rp, h2⟩ := frz_ok (H0 := H) k1 e1 rr h1
    exact s.nx _ H1 G2 _ M1 (k2.setD rp) h2
section
variable {i : Nat} {x : Str} {pos' : Pos}
theorem qs_set (i : Nat) (hN : X.N.Nodup) (h : QE X ρ a ta aa) (hi : X.N[i]? = some x := by rfl) (hx : Loc X.env.scope x := by first | exact Or.inl rfl | exact Or.inr rfl) (hs : swapsWith a (some (.Name x pos')) pos.line X.env = pure false := by rfl) (hf : X.fn x = true ∨ X.env.scope.names.lookup x = some .local := by first | exact .inl rfl | exact .inr rfl | assumption) :
    QS X ρ (.Assign [.Name x pos'] a pos) (tAsg ta (gName i)) (aAsg aa i) := ⟨ps_set hN hi hx h.pe hs hf, rd_asg h.rd⟩
theorem qs_setF (i : Nat) (hN : X.N.Nodup) (h : QE X ρ a ta aa) (hi : X.N[i]? = some x := by rfl) (hx : Loc X.env.scope x := by first | exact Or.inl rfl | exact Or.inr rfl) (hs : swapsWith a (some (.Name x pos')) pos.line X.env = pure false := by rfl) (hf : X.fn x = true ∨ X.env.scope.names.lookup x = some .local := by first | exact .inl rfl | exact .inr rfl | assumption) :
    QS X ρ (.Assign [.Name x pos'] a pos) (tAsg ta (gName i)) (aAsgF aa i) := ⟨ps_set hN hi hx h.pe hs hf, rd_asgF h.rd⟩
end
/-! targets -/
abbrev AG := D → Sl → (Sl → Prop) → Prop
abbrev AGs := List D → Sl → (Sl → Prop) → Prop
def RdG (K : PySem.W.Frag) (ρ : Ent) (tg : TG) (ag : AG) (is : List Nat) : Prop := ∀ B σ H G Γ M d v (Q : Sl → Prop) (R : St → Hp → Prop), Ok K ρ B σ H G Γ M → Rep K G d v → ag d Γ Q →
  (∀ σ' Γ', Ok K ρ B σ' H G Γ' M → (∀ ws : List Nat, (∀ j ∈ is, j ∈ ws) → wipe σ' ws = wipe σ ws) → (∀ x, owned σ' Γ' x → owned σ Γ x) → Q Γ' → R σ' H) → tg v σ H R
def RdGs (K : PySem.W.Frag) (ρ : Ent) (tg : TGs) (ag : AGs) (is : List Nat) : Prop := ∀ B σ H G Γ M ds vs (Q : Sl → Prop) (R : St → Hp → Prop), Ok K ρ B σ H G Γ M → RepL K G ds vs → ag ds Γ Q →
  (∀ σ' Γ', Ok K ρ B σ' H G Γ' M → (∀ ws : List Nat, (∀ j ∈ is, j ∈ ws) → wipe σ' ws = wipe σ ws) → (∀ x, owned σ' Γ' x → owned σ Γ x) → Q Γ' → R σ' H) → tg vs σ H R
structure QG (X : Cx) (ρ : Ent) (tg : Expr) (t : TG) (ag : AG) (is : List Nat) : Prop where
  pe : PG X tg t
  rd : RdG X.K ρ t ag is
structure QGs (X : Cx) (ρ : Ent) (tgs : List Expr) (t : TGs) (ag : AGs) (is : List Nat) : Prop where
  pe : PGs X tgs t
  rd : RdGs X.K ρ t ag is
def agN (i : Nat) (d : D) (Γ : Sl) (Q : Sl → Prop) : Prop := Q (Γ.set i (.dat d))
def agNil (ds : List D) (Γ : Sl) (Q : Sl → Prop) : Prop := match ds with
  | [] => Q Γ
  | _ => False
def agCons (g : AG) (u : AGs) (ds : List D) (Γ : Sl) (Q : Sl → Prop) : Prop := match ds with
  | d :: r => g d Γ fun Γ1 => u r Γ1 Q
  | _ => False
def agT (n : Nat) (u : AGs) (d : D) (Γ : Sl) (Q : Sl → Prop) : Prop := match d with
  | .tup ds => ds.length = n ∧ u ds Γ Q
  | _ => False
theorem wipe_set {i : Nat} {v : Option V} : ∀ (ws : List Nat) (σ : St), i ∈ ws → wipe (σ.set i v) ws = wipe σ ws
  | [], _, h => by simp at h
  | w :: ws, σ, h => by
    unfold wipe
    by_cases hi : i ∈ ws
    · rw [wipe_set ws σ hi]
    · have e : i = w := by simpa [hi] using h
      subst e
      have comm : ∀ (us : List Nat) (σ : St), i ∉ us → wipe (σ.set i v) us = (wipe σ us).set i v := by
        intro us
        induction us with
        | nil => intro σ _; rfl
        | cons u us ih =>
          intro σ hu
          rw [List.mem_cons, not_or] at hu
          unfold wipe
          rw [ih σ hu.2, List.set_comm _ _ (fun e => hu.1 e)]
      rw [comm ws σ hi, List.set_set]
theorem rd_gN {i : Nat} : RdG K ρ (gName i) (agN i) [i] := fun B σ H G Γ M d v Q R k r h q => q _ _ (k.setD r) (fun ws hw => wipe_set ws σ (hw i (by simp))) (fun x h => owned_set (fun c e => by cases e) h) h
theorem rd_gNil : RdGs K ρ gNil agNil [] := fun B σ H G Γ M ds vs Q R k r h q => by
  unfold agNil at h
  split at h
  · exact ⟨repL_nil.mp r, q σ Γ k (fun _ _ => rfl) (fun _ z => z) h⟩
  · exact h.elim
theorem rd_gCons {t : TG} {u : TGs} {g : AG} {ag : AGs} {is js : List Nat} (h1 : RdG K ρ t g is) (h2 : RdGs K ρ u ag js) : RdGs K ρ (gCons t u) (agCons g ag) (is ++ js) := fun B σ H G Γ M ds vs Q R k r h q => by
  unfold agCons at h
  split at h
  · rename_i d ds
    obtain ⟨x, xs, rfl, r1, r2⟩ := repL_cons.mp r
    refine ⟨x, xs, rfl, h1 B σ H G Γ M d x _ _ k r1 h fun σ1 Γ1 k1 w1 o1 q1 => ?_⟩
    exact h2 B σ1 H G Γ1 M ds xs _ _ k1 r2 q1 fun σ2 Γ2 k2 w2 o2 q2 => q σ2 Γ2 k2 (fun ws hw => (w2 ws fun j hj => hw j (List.mem_append_right _ hj)).trans (w1 ws fun j hj => hw j (List.mem_append_left _ hj))) (fun x z => o1 x (o2 x z)) q2
  · exact h.elim
theorem rd_gT {n : Nat} {u : TGs} {ag : AGs} {is : List Nat} (h2 : RdGs K ρ u ag is) : RdG K ρ (gTup K n u) (agT n ag) is := fun B σ H G Γ M d v Q R k r h q => by
  unfold agT at h
  split at h
  · rename_i ds
    obtain ⟨a, xs, e, hq, rl⟩ := rep_tup.mp r
    exact ⟨a, xs, e, ex_t k.ex hq, by rw [rl.length]; exact h.1, h2 B σ H G Γ M ds xs Q R k rl h.2 q⟩
  · exact h.elim
section
variable {i : Nat} {x : Str} {pos' : Pos}
theorem qg_name (i : Nat) (hN : X.N.Nodup) (hi : X.N[i]? = some x := by rfl) (hx : Loc X.env.scope x := by first | exact Or.inl rfl | exact Or.inr rfl) (hf : X.fn x = true ∨ X.env.scope.names.lookup x = some .local := by first | exact .inl rfl | exact .inr rfl | assumption) : QG X ρ (.Name x pos) (gName i) (agN i) [i] := ⟨pg_name hN hi hx hf, rd_gN⟩
theorem qgs_nil : QGs X ρ [] gNil agNil [] := ⟨pgs_nil, rd_gNil⟩
theorem qgs_cons {es : List Expr} {t : TG} {u : TGs} {g : AG} {ag : AGs} {is js : List Nat} (h1 : QG X ρ a t g is) (h2 : QGs X ρ es u ag js) (hs : (assignEach (a :: es) X.env).map (·.2) = assign a X.env :: (assignEach es X.env).map (·.2) := by rfl) : QGs X ρ (a :: es) (gCons t u) (agCons g ag) (is ++ js) := ⟨pgs_cons h1.pe h2.pe hs, rd_gCons h1.rd h2.rd⟩
theorem qg_tup {es : List Expr} {kk n : Nat} {u : TGs} {ag : AGs} {is : List Nat} (h : QGs X ρ es u ag is) (hc : X.calm = true := by rfl) (hn : (assignEach es X.env).length = n := by rfl) (hst : (assignEach es X.env).findIdx? (·.1) = none := by rfl) (hK : X.K = K := by rfl) : QG X ρ (.Tuple es kk pos) (gTup K n u) (agT n ag) is := by subst hK; exact ⟨pg_tup hc h.pe hn hst, rd_gT h.rd⟩
end
/-- a, b, .. = e -/
def aUnp (aa : AE) (g : AG) (A : AEnds) (Γ : Sl) (M : Mem) : Prop := aa Γ M fun r Γ1 M1 => frz r Γ1 fun d Γ2 => g d Γ2 fun Γ3 => A.nx Γ3 M1
theorem qs_unp {tg : Expr} {t : TG} {g : AG} {is : List Nat} (h : QE X ρ a ta aa) (hg : QG X ρ tg t g is) (hs : swapsWithSole [tg] a pos.line X.env = pure false := by rfl) (hw : swappedStores [tg] a X.env = pure none := by rfl) (h1 : (assignEach [tg] X.env).map (·.2) = [assign tg X.env] := by rfl) : QS X ρ (.Assign [tg] a pos) (tAsg ta t) (aUnp aa g) :=
  ⟨ps_asg h.pe hg.pe hs hw h1, fun B σ H G Γ M A E k hh s => h.rd B σ H G Γ M _ _ k hh fun v H1 G1 Γ1 M1 r k1 e1 rr h1 => by
    obtain ⟨G2, Γ2, d, k2, e2, rp, h2⟩ := frz_ok (H0 := H) k1 e1 rr h1
    exact hg.rd B σ H1 G2 Γ2 M1 d v _ _ k2 rp h2 fun σ' Γ' k3 _ _ q => s.nx σ' H1 G2 Γ' M1 k3 q⟩
end
end Gw

namespace Gw
open PySem L2
variable {ρ : Ent}
section
variable {X : Cx} {a b c : Expr} {ta tb tc te : TE} {aa ab ac ae : AE} {pos : Pos} {K : PySem.W.Frag} {B : Ent} {σ : St} {H G H1 G1 H2 G2 : Hp} {Γ Γ1 Γ2 : Sl} {M M1 M2 : Mem}

/-! ### lists that are changed -/
def lget (r : Ret) (Γ : Sl) (M : Mem) : Option (List D) := match r with
  | .var i => match Γ[i]? with
    | some (.own (.lst ds)) => some ds
    | _ => none
  | .dat (.ref a) => match M.lookup a with
    | some (.lst ds) => some ds
    | _ => none
  | _ => none
def mput (M : Mem) (a : Addr) (c : Cell) : Mem := M.map fun x => if x.1 = a then (a, c) else x
def lput (r : Ret) (ds : List D) (Γ : Sl) (M : Mem) (k : Sl → Mem → Prop) : Prop := match r with
  | .var i => k (Γ.set i (.own (.lst ds))) M
  | .dat (.ref a) => k Γ (mput M a (.lst ds))
  | _ => False
theorem dom_mput (M : Mem) (a : Addr) (c : Cell) : dom (mput M a c) = dom M := by
  unfold dom mput
  rw [List.map_map]
  apply List.map_congr_left
  intro x _
  show (if x.1 = a then (a, c) else x).1 = x.1
  split
  · rename_i e; exact e.symm
  · rfl
theorem lget_ok {r : Ret} {v : V} {ds : List D} {H0 : Hp} (k : Ok K ρ B σ H G Γ M) (rr : RepR K B σ H0 H G Γ M r v) (h : lget r Γ M = some ds) : ∃ l xs, v = .ref l ∧ H l = some (.lst xs) ∧ RepL K G ds xs := by
  cases r with
  | var i =>
    simp only [lget] at h
    split at h
    · rename_i ds' e1
      cases h
      obtain ⟨p, s1, hb, hm, hg, u, ho, vs, rfl, hr⟩ := k.own i _ e1
      have : v = .ref p := by have := (show σ[i]? = some (some v) from rr); rw [s1] at this; cases this; rfl
      exact ⟨p, vs, this, ho, hr⟩
    · cases h
  | dat d =>
    cases d with
    | ref a =>
      simp only [lget] at h
      split at h
      · rename_i ds' e1
        cases h
        obtain ⟨hg, u, ho, vs, rfl, hr⟩ := k.ms a _ (lookup_mem e1)
        exact ⟨a, vs, by have := rr; simp only [RepR, Rep] at this; exact this, ho, hr⟩
      · cases h
    | _ => cases h
  | tmp c => cases h
theorem lput_ok {r : Ret} {l : Addr} {ds ds' : List D} {xs' : List V} {H0 : Hp} {kk : Sl → Mem → Prop} (k : Ok K ρ B σ H G Γ M) (rr : RepR K B σ H0 H G Γ M r (.ref l)) (h : lget r Γ M = some ds) (rl : RepL K G ds' xs') (hp : lput r ds' Γ M kk) :
    ∃ Γ' M', Ok K ρ B σ (upd H l (.lst xs')) G Γ' M' ∧ Es σ H G Γ M (upd H l (.lst xs')) G Γ' M' ∧ kk Γ' M' := by
  have updN : ∀ x, upd H l (.lst xs') x = none → H x = none := fun x e => by
    by_cases z : x = l
    · subst z; rw [upd_same] at e; cases e
    · rw [upd_ne z] at e; exact e
  cases r with
  | tmp c => cases h
  | var i =>
    simp only [lget] at h
    split at h
    · rename_i dd e1
      cases h
      obtain ⟨p, s1, hb, hm, hg, u, ho, vs, rfl, hr⟩ := k.own i _ e1
      have e : p = l := by have := (show σ[i]? = some (some (.ref l)) from rr); rw [s1] at this; cases this; rfl
      subst e
      have exG : Ex G (upd H p (.lst xs')) := fun x o z => by
        have ne : x ≠ p := fun e => by subst e; rw [hg] at z; cases z
        rw [upd_ne ne]; exact k.ex x o z
      have cel : ∀ x c, x ≠ p → Cel K H G x c → Cel K (upd H p (.lst xs')) G x c := fun x c ne ⟨z1, o, z2, z3⟩ => ⟨z1, o, by rw [upd_ne ne]; exact z2, z3⟩
      refine ⟨_, _, ⟨⟨k.st.g, fun x o z n => ?_, k.st.gn, k.st.mn, fun x z => k.st.nn x (updN x z)⟩, exG, k.nd, fun x c z => cel x c (fun e => hm (e ▸ List.mem_map.mpr ⟨_, z, rfl⟩)) (k.ms x c z), fun j d z => ?_, fun j c z => ?_, fun j m cj cm q z z' a b => ?_, by rw [List.length_set]; exact k.len, k.pb⟩, ⟨Ex.refl G, fun x o z g m n => ?_, updN⟩, hp⟩
      · have ne : x ≠ p := fun e => by subst e; rw [hb] at z; cases z
        rw [upd_ne ne]; exact k.st.fr x o z n
      · rcases set_get z with ⟨_, e⟩ | ⟨_, e⟩
        · cases e
        · exact k.dat j d e
      · rcases set_get z with ⟨e, e2⟩ | ⟨ne, e⟩
        · cases e2; subst e
          exact ⟨p, s1, hb, hm, hg, _, upd_same, xs', rfl, rl⟩
        · obtain ⟨q, y1, y2, y3, y4⟩ := k.own j c e
          exact ⟨q, y1, y2, y3, cel q c (fun eq => ne (k.dis j i _ _ p e e1 (eq ▸ y1) s1)) y4⟩
      · have own' : ∀ (j : Nat) (c : Cell), (Γ.set i (Slot.own (.lst ds')))[j]? = some (Slot.own c) → ∃ c', Γ[j]? = some (Slot.own c') := fun j c z => by
          rcases set_get z with ⟨e, _⟩ | ⟨_, e⟩
          · subst e; exact ⟨_, e1⟩
          · exact ⟨_, e⟩
        obtain ⟨c1, z1⟩ := own' j cj z
        obtain ⟨c2, z2⟩ := own' m cm z'
        exact k.dis j m c1 c2 q z1 z2 a b
      · have ne : x ≠ p := fun e => n ⟨i, _, e1, e ▸ s1⟩
        refine ⟨by rw [upd_ne ne]; exact z, g, m, fun ⟨j, c, y1, y2⟩ => n ?_⟩
        rcases set_get y1 with ⟨e, _⟩ | ⟨_, e⟩
        · subst e; exact ⟨_, _, e1, y2⟩
        · exact ⟨j, c, e, y2⟩
    · cases h
  | dat d =>
    cases d with
    | ref a =>
      simp only [lget] at h
      split at h
      · rename_i dd e1
        cases h
        obtain ⟨hg, u, ho, vs, rfl, hr⟩ := k.ms a _ (lookup_mem e1)
        have e : l = a := by have := rr; simp only [RepR, Rep] at this; cases this; rfl
        subst e
        have exG : Ex G (upd H l (.lst xs')) := fun x o z => by
          have ne : x ≠ l := fun e => by subst e; rw [hg] at z; cases z
          rw [upd_ne ne]; exact k.ex x o z
        have cel : ∀ x c, x ≠ l → Cel K H G x c → Cel K (upd H l (.lst xs')) G x c := fun x c ne ⟨z1, o, z2, z3⟩ => ⟨z1, o, by rw [upd_ne ne]; exact z2, z3⟩
        have inM : l ∈ dom M := List.mem_map.mpr ⟨_, lookup_mem e1, rfl⟩
        refine ⟨_, _, ⟨⟨k.st.g, fun x o z n => ?_, k.st.gn, ?_, fun x z => k.st.nn x (updN x z)⟩, exG, by rw [dom_mput]; exact k.nd, fun x c z => ?_, k.dat, fun j c z => ?_, k.dis, k.len, k.pb⟩, ⟨Ex.refl G, fun x o z g m n => ?_, updN⟩, hp⟩
        · have ne : x ≠ l := fun e => by
            subst e
            rcases k.st.mn x inM with z' | z'
            · exact n z'
            · rw [z] at z'; cases z'
          rw [upd_ne ne]; exact k.st.fr x o z n
        · rw [dom_mput]; exact k.st.mn
        · unfold mput at z
          obtain ⟨y, hy, e⟩ := List.mem_map.mp z
          split at e
          · cases e; exact ⟨hg, _, upd_same, xs', rfl, rl⟩
          · rename_i ne
            obtain ⟨y1, y2⟩ := y
            cases e
            exact cel x c ne (k.ms x c hy)
        · obtain ⟨q, y1, y2, y3, y4⟩ := k.own j c z
          exact ⟨q, y1, y2, by rw [dom_mput]; exact y3, cel q c (fun e => y3 (e ▸ inM)) y4⟩
        · have ne : x ≠ l := fun e => m (e ▸ inM)
          exact ⟨by rw [upd_ne ne]; exact z, g, by rw [dom_mput]; exact m, n⟩
      · cases h
    | _ => cases h
/-- a list's method by what it does to the data -/
abbrev AM := List D → List D → (List D → D → Prop) → Prop
def RdM (r : V → List V → Hp → VK → Prop) (am : AM) : Prop := ∀ (K : PySem.W.Frag) (H G : Hp) (l : Addr) (xs vs : List V) (ds es : List D) (Q : List D → D → Prop) (R : VK), Ex G H → H l = some (.lst xs) → RepL K G ds xs → RepL K G es vs → am ds es Q →
  (∀ ds' d xs' v, RepL K G ds' xs' → Rep K G d v → Q ds' d → R v (upd H l (.lst xs'))) → r (.ref l) vs H R
def aMeth (am : AM) (ao : AE) (aa : AA) (Γ : Sl) (M : Mem) (Q : Ret → Sl → Mem → Prop) : Prop := ao Γ M fun r Γ1 M1 => (lget r Γ1 M1).isSome = true ∧ aa Γ1 M1 fun es Γ2 M2 => match lget r Γ2 M2 with
  | some ds => am ds es fun ds' d => lput r ds' Γ2 M2 fun Γ3 M3 => Q (.dat d) Γ3 M3
  | none => False
theorem rd_meth {r : V → List V → Hp → VK → Prop} {am : AM} {to : TE} {ao : AE} {tr : TA} {ar : AA} (hm : RdM r am) (ho : RdE K ρ to ao) (ha : RdA K ρ tr ar) : RdE K ρ (tBM K "list" r to tr) (aMeth am ao ar) := by
  intro B σ H G Γ M Q R k h q
  refine ho B σ H G Γ M _ _ k h fun v H1 G1 Γ1 M1 r1 k1 e1 rr1 h1 => ?_
  obtain ⟨hs, h1⟩ := h1
  obtain ⟨ds1, hds⟩ := Option.isSome_iff_exists.mp hs
  obtain ⟨l1, xs1, ev, hl1, _⟩ := lget_ok k1 rr1 hds
  subst ev
  refine ⟨.inl ⟨rfl, xs1, SqL.of hl1⟩, ha B σ H1 G1 Γ1 M1 _ _ k1 h1 fun vs H2 G2 Γ2 M2 es k2 e2 rl h2 => ?_⟩
  have rr2 := rr1.es e2
  split at h2
  · rename_i ds hd
    obtain ⟨l, xs, ev, hl, hx⟩ := lget_ok k2 rr2 hd
    cases ev
    refine hm K H2 G2 l1 xs vs ds es _ _ k2.ex hl hx rl h2 fun ds' d xs' v rl' rd hq => ?_
    obtain ⟨Γ3, M3, k3, e3, hq⟩ := lput_ok k2 rr2 hd rl' hq
    exact q v _ G2 Γ3 M3 (.dat d) k3 ((e1.trans e2).trans e3) rd hq
  · exact h2.elim
def aMeth0 (am : AM) (ao : AE) (Γ : Sl) (M : Mem) (Q : Ret → Sl → Mem → Prop) : Prop := ao Γ M fun r Γ1 M1 => match lget r Γ1 M1 with
  | some ds => am ds [] fun ds' d => lput r ds' Γ1 M1 fun Γ3 M3 => Q (.dat d) Γ3 M3
  | none => False
theorem rd_meth0 {r : V → List V → Hp → VK → Prop} {am : AM} {to : TE} {ao : AE} (hm : RdM r am) (ho : RdE K ρ to ao) : RdE K ρ (tBM0 K "list" r to) (aMeth0 am ao) := by
  intro B σ H G Γ M Q R k h q
  refine ho B σ H G Γ M _ _ k h fun v H1 G1 Γ1 M1 r1 k1 e1 rr1 h1 => ?_
  split at h1
  · rename_i ds hd
    obtain ⟨l, xs, ev, hl, hx⟩ := lget_ok k1 rr1 hd
    subst ev
    refine ⟨.inl ⟨rfl, xs, SqL.of hl⟩, hm K H1 G1 l xs [] ds [] _ _ k1.ex hl hx (repL_nil.mpr rfl) h1 fun ds' d xs' v rl' rd hq => ?_⟩
    obtain ⟨Γ3, M3, k3, e3, hq⟩ := lput_ok k1 rr1 hd rl' hq
    exact q v _ G1 Γ3 M3 (.dat d) k3 (e1.trans e3) rd hq
  · exact h1.elim
section
variable {o e : Expr} {es : List Expr} {to : TE} {ao : AE} {tr : TA} {ar : AA} {apos cpos : Pos}
theorem q_bm {name : Str} {id : String} {r : V → List V → Hp → VK → Prop} {am : AM} (slot : PySem.Slot "list" name id) (hty : typeOf (.builtin id) = pure (.type "method_descriptor")) (hm : MtR X id r) (hd : RdM r am) (ho : QE X ρ o to ao) (ha : QA X ρ (e :: es) tr ar)
    (hbase : attributeBase o name X.env (eval o X.env) = eval o X.env)
    (hfew : ((backTo cpos (starEach (e :: es) X.env)).all (fun x => !x.1) && (backToKw cpos (keywordEach [] X.env)).all (fun x => x.1.isSome)
      && decide ((e :: es).length + ([] : List Keyword).length + (if ([] : List Keyword).isEmpty then 0 else 1) < 30)) = true)
    (hline : (apos.endLine == cpos.line) = true) (hs : starEach (e :: es) X.env = (false, eval e X.env) :: starEach es X.env) (hplain : (backTo cpos (starEach es X.env)).any (·.1) = false) :
    QE X ρ (.Call (.Attribute o name apos) (e :: es) [] cpos) (tBM X.K "list" r to tr) (aMeth am ao ar) := ⟨pe_bm PySem.F.plainAttrs_list slot hty hm ho.pe ha.pe hbase hfew hline hs hplain, rd_meth hd ho.rd ha.rd⟩
def amApp (ds : List D) (es : List D) (Q : List D → D → Prop) : Prop := match es with
  | [d] => ds.length < sizeLine ∧ Q (ds ++ [d]) .non
  | _ => False
theorem rm_app : RdM rAppend amApp := by
  intro K H G l xs vs ds es Q R hG hl hx hv h q
  unfold amApp at h
  split at h
  · rename_i d
    obtain ⟨y, r, rfl, ry, rn⟩ := repL_cons.mp hv
    have := repL_nil.mp rn; subst this
    exact ⟨l, xs, y, rfl, rfl, hl, by rw [hx.length]; exact h.1, q _ .non _ .non (hx.append (RepL.one ry)) (by rw [Rep]) h.2⟩
  · exact h.elim
def amExt (ds : List D) (es : List D) (Q : List D → D → Prop) : Prop := match es with
  | [.lst fs] => ds.length + fs.length ≤ sizeLine ∧ Q (ds ++ fs) .non
  | _ => False
theorem rm_ext : RdM rExtend amExt := by
  intro K H G l xs vs ds es Q R hG hl hx hv h q
  unfold amExt at h
  split at h
  · rename_i fs
    obtain ⟨y, r, rfl, ry, rn⟩ := repL_cons.mp hv
    have := repL_nil.mp rn; subst this
    obtain ⟨b, zs, rfl, hb, hz⟩ := rep_lst.mp ry
    exact ⟨l, b, xs, zs, rfl, rfl, hl, hG _ _ hb, by rw [hx.length, hz.length]; exact h.1, q _ .non _ .non (hx.append hz) (by rw [Rep]) h.2⟩
  · exact h.elim
def amPop (ds : List D) (es : List D) (Q : List D → D → Prop) : Prop := match es with
  | [] => match ds[ds.length - 1]? with
    | some d => Q ds.dropLast d
    | none => False
  | _ => False
theorem rm_pop : RdM rPop amPop := by
  intro K H G l xs vs ds es Q R hG hl hx hv h q
  unfold amPop at h
  split at h
  · split at h
    · rename_i d hd
      have := repL_nil.mp hv; subst this
      obtain ⟨y, hy, ry⟩ := hx.get hd
      refine ⟨l, xs, y, rfl, rfl, hl, by rw [hx.length]; exact hy, q _ d _ y ?_ ry h⟩
      rw [List.dropLast_eq_take, List.dropLast_eq_take, hx.length]; exact hx.take _
    · exact h.elim
  · exact h.elim
theorem RepL.erase {ds : List D} {vs : List V} (n : Nat) (h : RepL K G ds vs) : RepL K G (ds.eraseIdx n) (vs.eraseIdx n) := by
  rw [List.eraseIdx_eq_take_drop_succ, List.eraseIdx_eq_take_drop_succ]; exact (h.take _).append (h.drop _)
def amPopAt (ds : List D) (es : List D) (Q : List D → D → Prop) : Prop := match es with
  | [.int i] => (-(2 ^ 63) ≤ i ∧ i < 2 ^ 63) ∧ match seqIndex? i ds.length with
    | some k => match ds[k]? with
      | some d => Q (ds.eraseIdx k) d
      | none => False
    | none => False
  | _ => False
theorem rm_popAt : RdM rPopAt amPopAt := by
  intro K H G l xs vs ds es Q R hG hl hx hv h q
  unfold amPopAt at h
  split at h
  · rename_i i
    obtain ⟨hi, h⟩ := h
    obtain ⟨y, r, rfl, ry, rn⟩ := repL_cons.mp hv
    have := repL_nil.mp rn; subst this
    have ey : y = .int i := by rw [Rep] at ry; exact ry
    split at h
    · rename_i k hk
      split at h
      · rename_i d hd
        obtain ⟨z, hz, rz⟩ := hx.get hd
        exact ⟨l, xs, i, k, z, rfl, by rw [ey], hl, hi.1, hi.2, by rw [hx.length]; exact hk, hz, q _ d _ z (hx.erase k) rz h⟩
      · exact h.elim
    · exact h.elim
  · exact h.elim
def amIns (ds : List D) (es : List D) (Q : List D → D → Prop) : Prop := match es with
  | [.int i, d] => (ds.length < sizeLine ∧ 0 ≤ i ∧ i < 2 ^ 63) ∧ Q (ds.take i.toNat ++ [d] ++ ds.drop i.toNat) .non
  | _ => False
def rIns : V → List V → Hp → VK → Prop := fun x vs H Q => ∃ (l : Addr) (xs : List V) (i : Int) (y : V), x = .ref l ∧ vs = [.int i, y] ∧ H l = some (.lst xs) ∧ xs.length < sizeLine ∧ 0 ≤ i ∧ i < 2 ^ 63 ∧
    Q .non (upd H l (.lst (xs.take i.toNat ++ [y] ++ xs.drop i.toNat)))
theorem rm_ins : RdM rIns amIns := by
  intro K H G l xs vs ds es Q R hG hl hx hv h q
  unfold amIns at h
  split at h
  · rename_i i d
    obtain ⟨y, r, rfl, ry, rn⟩ := repL_cons.mp hv
    obtain ⟨z, r', rfl, rz, rn'⟩ := repL_cons.mp rn
    have := repL_nil.mp rn'; subst this
    have ey : y = .int i := by rw [Rep] at ry; exact ry
    subst ey
    exact ⟨l, xs, i, z, rfl, rfl, hl, by rw [hx.length]; exact h.1.1, h.1.2.1, h.1.2.2, q _ .non _ .non (((hx.take _).append (RepL.one rz)).append (hx.drop _)) (by rw [Rep]) h.2⟩
  · exact h.elim
theorem q_append (ho : QE X ρ o to ao) (ha : QA X ρ (e :: es) tr ar) (hbase : attributeBase o "append" X.env (eval o X.env) = eval o X.env := by rfl)
    (hfew : ((backTo cpos (starEach (e :: es) X.env)).all (fun x => !x.1) && (backToKw cpos (keywordEach [] X.env)).all (fun x => x.1.isSome)
      && decide ((e :: es).length + ([] : List Keyword).length + (if ([] : List Keyword).isEmpty then 0 else 1) < 30)) = true := by rfl)
    (hline : (apos.endLine == cpos.line) = true := by rfl) (hs : starEach (e :: es) X.env = (false, eval e X.env) :: starEach es X.env := by rfl) (hplain : (backTo cpos (starEach es X.env)).any (·.1) = false := by rfl) (hK : X.K = K := by rfl) :
    QE X ρ (.Call (.Attribute o "append" apos) (e :: es) [] cpos) (tBM K "list" rAppend to tr) (aMeth amApp ao ar) := by subst hK; exact q_bm PySem.F.slot_list_append PySem.F.type_list_append mt_append rm_app ho ha hbase hfew hline hs hplain
theorem q_extend (ho : QE X ρ o to ao) (ha : QA X ρ (e :: es) tr ar) (hbase : attributeBase o "extend" X.env (eval o X.env) = eval o X.env := by rfl)
    (hfew : ((backTo cpos (starEach (e :: es) X.env)).all (fun x => !x.1) && (backToKw cpos (keywordEach [] X.env)).all (fun x => x.1.isSome)
      && decide ((e :: es).length + ([] : List Keyword).length + (if ([] : List Keyword).isEmpty then 0 else 1) < 30)) = true := by rfl)
    (hline : (apos.endLine == cpos.line) = true := by rfl) (hs : starEach (e :: es) X.env = (false, eval e X.env) :: starEach es X.env := by rfl) (hplain : (backTo cpos (starEach es X.env)).any (·.1) = false := by rfl) (hK : X.K = K := by rfl) :
    QE X ρ (.Call (.Attribute o "extend" apos) (e :: es) [] cpos) (tBM K "list" rExtend to tr) (aMeth amExt ao ar) := by subst hK; exact q_bm PySem.F.slot_list_extend PySem.F.type_list_extend mt_extend rm_ext ho ha hbase hfew hline hs hplain
theorem q_popAt (ho : QE X ρ o to ao) (ha : QA X ρ (e :: es) tr ar) (hbase : attributeBase o "pop" X.env (eval o X.env) = eval o X.env := by rfl)
    (hfew : ((backTo cpos (starEach (e :: es) X.env)).all (fun x => !x.1) && (backToKw cpos (keywordEach [] X.env)).all (fun x => x.1.isSome)
      && decide ((e :: es).length + ([] : List Keyword).length + (if ([] : List Keyword).isEmpty then 0 else 1) < 30)) = true := by rfl)
    (hline : (apos.endLine == cpos.line) = true := by rfl) (hs : starEach (e :: es) X.env = (false, eval e X.env) :: starEach es X.env := by rfl) (hplain : (backTo cpos (starEach es X.env)).any (·.1) = false := by rfl) (hK : X.K = K := by rfl) :
    QE X ρ (.Call (.Attribute o "pop" apos) (e :: es) [] cpos) (tBM K "list" rPopAt to tr) (aMeth amPopAt ao ar) := by subst hK; exact q_bm PySem.F.slot_list_pop PySem.F.type_list_pop mt_popAt rm_popAt ho ha hbase hfew hline hs hplain
theorem q_insert (ho : QE X ρ o to ao) (ha : QA X ρ (e :: es) tr ar) (hbase : attributeBase o "insert" X.env (eval o X.env) = eval o X.env := by rfl)
    (hfew : ((backTo cpos (starEach (e :: es) X.env)).all (fun x => !x.1) && (backToKw cpos (keywordEach [] X.env)).all (fun x => x.1.isSome)
      && decide ((e :: es).length + ([] : List Keyword).length + (if ([] : List Keyword).isEmpty then 0 else 1) < 30)) = true := by rfl)
    (hline : (apos.endLine == cpos.line) = true := by rfl) (hs : starEach (e :: es) X.env = (false, eval e X.env) :: starEach es X.env := by rfl) (hplain : (backTo cpos (starEach es X.env)).any (·.1) = false := by rfl) (hK : X.K = K := by rfl) :
    QE X ρ (.Call (.Attribute o "insert" apos) (e :: es) [] cpos) (tBM K "list" rIns to tr) (aMeth amIns ao ar) := by subst hK; exact q_bm PySem.F.slot_list_insert PySem.F.type_list_insert mt_insert rm_ins ho ha hbase hfew hline hs hplain
theorem q_pop (ho : QE X ρ o to ao) (hbase : attributeBase o "pop" X.env (eval o X.env) = eval o X.env := by rfl) (hline : (apos.endLine == cpos.line) = true := by rfl) (hK : X.K = K := by rfl) :
    QE X ρ (.Call (.Attribute o "pop" apos) [] [] cpos) (tBM0 K "list" rPop to) (aMeth0 amPop ao) := by subst hK; exact ⟨pe_bm0 PySem.F.plainAttrs_list PySem.F.slot_list_pop PySem.F.type_list_pop mt_pop ho.pe hbase hline, rd_meth0 rm_pop ho.rd⟩
end
/-! ### x[i] = e -/
def aSetI (ae ao ai : AE) (A : AEnds) (Γ : Sl) (M : Mem) : Prop := ae Γ M fun r Γ0 M0 => frz r Γ0 fun d Γ1 => ao Γ1 M0 fun ro Γ2 M2 => ai Γ2 M2 fun ri Γ3 M3 => match ri, lget ro Γ3 M3 with
  | .dat (.int i), some ds => match ixN ds.length i with
    | some j => lput ro (ds.set j d) Γ3 M3 fun Γ4 M4 => A.nx Γ4 M4
    | none => False
  | _, _ => False
theorem qs_setI {o i : Expr} {to ti : TE} {ao ai : AE} {pos' : Pos} (h : QE X ρ a ta aa) (ho : QE X ρ o to ao) (hi : QE X ρ i ti ai)
    (has : ∀ v, assign (.Subscript o i pos') X.env v = (do
      let ov ← holding [v] (eval o X.env)
      let iv ← holding [v, ov] (eval i X.env)
      standAt pos'
      holding [v, ov, iv] (setItem ov iv v)
      release [v, ov, iv] []) := by intro _; rfl)
    (hs : swapsWithSole [.Subscript o i pos'] a pos.line X.env = pure false := by rfl) (hw : swappedStores [.Subscript o i pos'] a X.env = pure none := by rfl) (h1 : (assignEach [.Subscript o i pos'] X.env).map (·.2) = [assign (.Subscript o i pos') X.env] := by rfl) :
    QS X ρ (.Assign [.Subscript o i pos'] a pos) (tAsg ta (gSub to ti rSetL)) (aSetI aa ao ai) :=
  ⟨ps_asg h.pe (pg_sub ho.pe hi.pe set_list has) hs hw h1, fun B σ H G Γ M A E k hh s => h.rd B σ H G Γ M _ _ k hh fun v H1 G1 Γ1 M1 r k1 e1 rr h1 => by
    obtain ⟨G2, Γ2, d, k2, e2, rp, h2⟩ := frz_ok (H0 := H) k1 e1 rr h1
    refine ho.rd B σ H1 G2 Γ2 M1 _ _ k2 h2 fun ov H3 G3 Γ3 M3 ro k3 e3 rro h3 => ?_
    refine hi.rd B σ H3 G3 Γ3 M3 _ _ k3 h3 fun iv H4 G4 Γ4 M4 ri k4 e4 rri h4 => ?_
    split at h4
    · rename_i i ds hd
      split at h4
      · rename_i j hj
        have rro' := rro.es e4
        obtain ⟨l, xs, rfl, hl, hx⟩ := lget_ok k4 rro' hd
        have ei : iv = .int i := by have := rri; simp only [RepR, Rep] at this; exact this
        have rp4 : Rep X.K G4 d v := (rp.mono e3.g).mono e4.g
        obtain ⟨Γ5, M5, k5, e5, hq⟩ := lput_ok k4 rro' hd (hx.set j rp4) h4
        exact ⟨l, xs, i, j, rfl, ei, hl, by rw [hx.length]; exact hj, s.nx σ _ G4 Γ5 M5 k5 hq⟩
      · exact h4.elim
    · exact h4.elim⟩
/-! ### x op= e -/
def aAugI (i : Nat) (f : Int → Int → Int) (aa : AE) (A : AEnds) (Γ : Sl) (M : Mem) : Prop := match Γ[i]? with
  | some (.dat (.int n)) => aa Γ M fun r Γ1 M1 => match r with
    | .dat (.int m) => A.nx (Γ1.set i (.dat (.int (f n m)))) M1
    | _ => False
  | _ => False
theorem rd_augI {i : Nat} {f : Int → Int → Int} (ha : RdE K ρ ta aa) : RdS K ρ (tAug i ta (ipI f)) (aAugI i f aa) := fun B σ H G Γ M A E k h s => by
  unfold aAugI at h
  split at h
  · rename_i n e1
    obtain ⟨v, h1, h2⟩ := k.dat i _ e1
    have ev : v = .int n := by rw [Rep] at h2; exact h2
    refine ⟨v, h1, ha B σ H G Γ M _ _ k h fun u H1 G1 Γ1 M1 r k1 e2 rr hq => ?_⟩
    split at hq
    · rename_i m
      have eu : u = .int m := by have := rr; simp only [RepR, Rep] at this; exact this
      exact ⟨n, m, ev, eu, s.nx _ H1 G1 _ M1 (k1.setD (by rw [Rep])) hq⟩
    · exact hq.elim
  · exact h.elim
section
variable {x : Str} {pos' : Pos}
theorem qs_augA (i : Nat) (hN : X.N.Nodup) (h : QE X ρ a ta aa) (hi : X.N[i]? = some x := by rfl) (hx : Loc X.env.scope x := by first | exact Or.inl rfl | exact Or.inr rfl) (hf : X.fn x = true ∨ X.env.scope.names.lookup x = some .local := by first | exact .inl rfl | exact .inr rfl | assumption) :
    QS X ρ (.AugAssign (.Name x pos') .Add a pos) (tAug i ta (ipI fun i j => i + j)) (aAugI i (fun i j => i + j) aa) := ⟨ps_aug hN hi hx h.pe ip_add hf, rd_augI h.rd⟩
theorem qs_augS (i : Nat) (hN : X.N.Nodup) (h : QE X ρ a ta aa) (hi : X.N[i]? = some x := by rfl) (hx : Loc X.env.scope x := by first | exact Or.inl rfl | exact Or.inr rfl) (hf : X.fn x = true ∨ X.env.scope.names.lookup x = some .local := by first | exact .inl rfl | exact .inr rfl | assumption) :
    QS X ρ (.AugAssign (.Name x pos') .Sub a pos) (tAug i ta (ipI fun i j => i - j)) (aAugI i (fun i j => i - j) aa) := ⟨ps_aug hN hi hx h.pe ip_sub hf, rd_augI h.rd⟩
end
/-- a list grown by another one: the name's own list -/
def aAugL (i : Nat) (aa : AE) (A : AEnds) (Γ : Sl) (M : Mem) : Prop := aa Γ M fun r Γ1 M1 => match sqOf r Γ1 M1, Γ1[i]? with
  | some (.lst es), some (.own (.lst ds)) => ds.length + es.length ≤ sizeLine ∧ A.nx (Γ1.set i (.own (.lst (ds ++ es)))) M1
  | _, _ => False
theorem rd_augL {i : Nat} (ha : RdE K ρ ta aa) (hown : ∀ Γ M Q, aa Γ M Q → True) : RdS K ρ (fun D σ H => ∃ x, σ[i]? = some (some x) ∧ ta σ H fun y H1 => rExt2 x y H1 fun z H2 => D.nx (σ.set i (some z)) H2) (fun A Γ M => (∃ ds, Γ[i]? = some (.own (.lst ds))) ∧ aAugL i aa A Γ M) := fun B σ H G Γ M A E k h s => by
  obtain ⟨⟨ds0, e0⟩, h⟩ := h
  obtain ⟨p, s1, _⟩ := k.own i _ e0
  refine ⟨.ref p, s1, ha B σ H G Γ M _ _ k h fun u H1 G1 Γ1 M1 r k1 e2 rr hq => ?_⟩
  split at hq
  · rename_i es ds he e1
    obtain ⟨b, zs, rfl, hb, hz⟩ := sqOf_ok k1 rr he
    have lg : lget (.var i) Γ1 M1 = some ds := by simp only [lget, e1]
    obtain ⟨l, xs, ev, hl, hx⟩ := lget_ok (K := K) k1 (show RepR K B σ H H1 G1 Γ1 M1 (.var i) (.ref p) from s1) lg
    cases ev
    obtain ⟨Γ5, M5, k5, e5, hq5⟩ := lput_ok (K := K) (kk := fun Γ5 M5 => Γ5 = Γ1.set i (.own (.lst (ds ++ es))) ∧ M5 = M1) k1 (show RepR K B σ H H1 G1 Γ1 M1 (.var i) (.ref p) from s1) lg (hx.append hz) ⟨rfl, rfl⟩
    obtain ⟨rfl, rfl⟩ := hq5
    refine ⟨p, b, xs, zs, rfl, rfl, hl, hb, by rw [hx.length, hz.length]; exact hq.1, ?_⟩
    have : σ.set i (some (.ref p)) = σ := by
      apply List.ext_getElem?
      intro j
      rw [List.getElem?_set]
      split
      · rename_i ej
        subst ej
        rw [if_pos ((List.getElem?_eq_some_iff.mp s1).1), s1]
      · rfl
    show E.nx (List.set σ i (some (V.ref p))) _
    rw [this]
    exact s.nx σ _ G1 _ _ k5 hq.2
  · exact hq.elim
section
variable {x : Str} {pos' : Pos}
theorem qs_augL (i : Nat) (hN : X.N.Nodup) (h : QE X ρ a ta aa) (hi : X.N[i]? = some x := by rfl) (hx : Loc X.env.scope x := by first | exact Or.inl rfl | exact Or.inr rfl) (hf : X.fn x = true ∨ X.env.scope.names.lookup x = some .local := by first | exact .inl rfl | exact .inr rfl | assumption) :
    QS X ρ (.AugAssign (.Name x pos') .Add a pos) (tAug i ta rExt2) (fun A Γ M => (∃ ds, Γ[i]? = some (.own (.lst ds))) ∧ aAugL i aa A Γ M) := ⟨ps_aug hN hi hx h.pe iop_ext hf, rd_augL h.rd fun _ _ _ _ => trivial⟩
end
end
end Gw

namespace Gw
open PySem L2
variable {ρ : Ent}
/-! ### what is walked -/
def Yld (K : PySem.W.Frag) (G H H' : Hp) (d : D) (x : V) : Prop :=
  (H' = H ∧ Rep K G d x) ∨ ∃ T xs ds, x = .ref T ∧ H T = none ∧ H' = upd H T (.tup xs) ∧ d = .tup ds ∧ RepL K G ds xs
structure WalkD (K : PySem.W.Frag) (J : It) (G : Hp) (ds : List D) : Prop where
  w : ∃ GG Y, Walk J ds.length GG Y ∧ (∀ H, Ex G H → GG H) ∧ ∀ (i : Nat) H x H' d, ds[i]? = some d → Ex G H → Y i H x H' → Yld K G H H' d x
abbrev AI := Sl → Mem → (List D → Sl → Mem → Prop) → Prop
def RdI (K : PySem.W.Frag) (ρ : Ent) (wi : TI) (ai : AI) : Prop := ∀ B σ H G Γ M (Q : List D → Sl → Mem → Prop) (R : It → Hp → Prop), Ok K ρ B σ H G Γ M → ai Γ M Q →
  (∀ J H' G' Γ' M' ds, Ok K ρ B σ H' G' Γ' M' → Es σ H G Γ M H' G' Γ' M' → WalkD K J G' ds → Q ds Γ' M' → R J H') → wi σ H R
structure QI (X : Cx) (ρ : Ent) (tg iter : Expr) (wi : TI) (ai : AI) : Prop where
  pe : PI X tg iter wi
  rd : RdI X.K ρ wi ai
section
variable {X : Cx} {tg a b c : Expr} {ta tb tc te : TE} {aa ab ac ae : AE} {pos : Pos} {K : PySem.W.Frag} {B : Ent} {σ : St} {H G H' H1 G1 H2 G2 : Hp} {Γ Γ1 Γ2 : Sl} {M M1 M2 : Mem}
theorem Yld.ok {d : D} {x : V} {G0 : Hp} (y : Yld K G0 H H' d x) (k : Ok K ρ B σ H G Γ M) (e : Ex G0 G) : ∃ G', Ok K ρ B σ H' G' Γ M ∧ Es σ H G Γ M H' G' Γ M ∧ Rep K G' d x := by
  rcases y with ⟨rfl, r⟩ | ⟨T, xs, ds, rfl, hT, rfl, rfl, r⟩
  · exact ⟨G, k, .refl, r.mono e⟩
  · obtain ⟨k2, e2⟩ := k.new (o := .tup xs) hT
    exact ⟨_, k2, e2, rep_tup.mpr ⟨T, xs, rfl, SqT.of upd_same, r.mono (e.trans e2.g)⟩⟩
def aISeq (aa : AE) (Γ : Sl) (M : Mem) (Q : List D → Sl → Mem → Prop) : Prop := aa Γ M fun r Γ1 M1 => frz r Γ1 fun d Γ2 => match d with
  | .lst ds => Q ds Γ2 M1
  | .scr ds => Q ds Γ2 M1
  | _ => False
def aITup (aa : AE) (Γ : Sl) (M : Mem) (Q : List D → Sl → Mem → Prop) : Prop := aa Γ M fun r Γ1 M1 => frz r Γ1 fun d Γ2 => match d with
  | .tup ds => Q ds Γ2 M1
  | _ => False
theorem walkD_list {p : Addr} {xs : List V} {ds : List D} (h : SqL K G p xs) (r : RepL K G ds xs) : WalkD K (Itl K p) G ds := by
  refine ⟨fun H => SqL K H p xs, YAt xs, r.length ▸ walk_list, fun H e => ex_l e h, fun i H x H' d hd e y => .inl ⟨y.1, ?_⟩⟩
  obtain ⟨v, hv, rv⟩ := r.get hd
  have e2 := hv.symm.trans y.2
  cases e2
  exact rv
theorem walkD_tup {p : Addr} {xs : List V} {ds : List D} (h : SqT K G p xs) (r : RepL K G ds xs) : WalkD K (Itt K p) G ds := by
  refine ⟨fun H => SqT K H p xs, YAt xs, r.length ▸ walk_tup, fun H e => ex_t e h, fun i H x H' d hd e y => .inl ⟨y.1, ?_⟩⟩
  obtain ⟨v, hv, rv⟩ := r.get hd
  have e2 := hv.symm.trans y.2
  cases e2
  exact rv
theorem qi_list (h : QE X ρ a ta aa) (hK : X.K = K := by rfl) : QI X ρ tg a (iList K ta) (aISeq aa) := by subst hK; exact ⟨pi_list h.pe, fun B σ H G Γ M Q R k hh q => h.rd B σ H G Γ M _ _ k hh fun v H1 G1 Γ1 M1 r k1 e1 rr h1 => by
  obtain ⟨G2, Γ2, d, k2, e2, rp, h2⟩ := frz_ok (H0 := H) k1 e1 rr h1
  split at h2
  · rename_i ds
    obtain ⟨p, xs, rfl, hp, rl⟩ := rep_lst.mp rp
    exact ⟨p, rfl, ⟨xs, SqL.of (k2.ex _ _ hp)⟩, q _ H1 G2 Γ2 M1 ds k2 e2 (walkD_list (SqL.of hp) rl) h2⟩
  · rename_i ds
    obtain ⟨p, xs, rfl, hp, rl⟩ := rep_scr.mp rp
    exact ⟨p, rfl, ⟨xs, ex_l k2.ex hp⟩, q _ H1 G2 Γ2 M1 ds k2 e2 (walkD_list hp rl) h2⟩
  · exact h2.elim⟩
theorem qi_tup (h : QE X ρ a ta aa) (hK : X.K = K := by rfl) : QI X ρ tg a (iTup K ta) (aITup aa) := by subst hK; exact ⟨pi_tup h.pe, fun B σ H G Γ M Q R k hh q => h.rd B σ H G Γ M _ _ k hh fun v H1 G1 Γ1 M1 r k1 e1 rr h1 => by
  obtain ⟨G2, Γ2, d, k2, e2, rp, h2⟩ := frz_ok (H0 := H) k1 e1 rr h1
  split at h2
  · rename_i ds
    obtain ⟨p, xs, rfl, hp, rl⟩ := rep_tup.mp rp
    exact ⟨p, rfl, ⟨xs, ex_t k2.ex hp⟩, q _ H1 G2 Γ2 M1 ds k2 e2 (walkD_tup hp rl) h2⟩
  · exact h2.elim⟩
def rngD (lo : Int) (n : Nat) : List D := (List.range n).map fun i => .int (lo + (i : Nat))
theorem walkD_rng {lo : Int} {n : Nat} : WalkD K (Itr lo n) G (rngD lo n) := by
  have hl : (rngD lo n).length = n := by simp [rngD]
  refine ⟨fun _ => True, YFn fun i => .int (lo + i), by rw [hl]; exact walk_range, fun _ _ => trivial, fun i H x H' d hd e y => .inl ⟨y.1, ?_⟩⟩
  rw [y.2]
  have hi : i < n := by rw [← hl]; exact (List.getElem?_eq_some_iff.mp hd).1
  simp only [rngD, List.getElem?_map, List.getElem?_range hi, Option.map_some, Option.some.injEq] at hd
  subst hd
  rw [Rep]
def aRng1 (aa : AA) (Γ : Sl) (M : Mem) (Q : List D → Sl → Mem → Prop) : Prop := aa Γ M fun ds Γ1 M1 => match ds with
  | [.int n] => (-(2 ^ 62) ≤ n ∧ n < 2 ^ 62) ∧ Q (rngD 0 n.toNat) Γ1 M1
  | _ => False
def aRng2 (aa : AA) (Γ : Sl) (M : Mem) (Q : List D → Sl → Mem → Prop) : Prop := aa Γ M fun ds Γ1 M1 => match ds with
  | [.int m, .int n] => (-(2 ^ 62) ≤ m ∧ m < 2 ^ 62 ∧ -(2 ^ 62) ≤ n ∧ n < 2 ^ 62) ∧ Q (rngD m (n - m).toNat) Γ1 M1
  | _ => False
theorem qi_range1 {tr : TA} {ar : AA} {p : Pos} (hm : X.mg "range" = none) (ha : QA X ρ [a] tr ar) (hg : Gl X "range" := by rfl) (hs : starEach [a] X.env = [(false, eval a X.env)] := by rfl) : QI X ρ tg (.Call (.Name "range" p) [a] [] pos) (iRng1 tr) (aRng1 ar) := ⟨pi_range1 hg hm ha.pe hs, fun B σ H G Γ M Q R k hh q => ha.rd B σ H G Γ M _ _ k hh fun vs H1 G1 Γ1 M1 ds k1 e1 rl h1 => by
  split at h1
  · rename_i n
    obtain ⟨y, r, rfl, ry, rn⟩ := repL_cons.mp rl
    have := repL_nil.mp rn; subst this
    rw [Rep] at ry; subst ry
    exact ⟨n, rfl, h1.1.1, h1.1.2, q _ H1 G1 Γ1 M1 _ k1 e1 walkD_rng h1.2⟩
  · exact h1.elim⟩
theorem qi_range2 {tr : TA} {ar : AA} {p : Pos} (hm : X.mg "range" = none) (ha : QA X ρ [a, b] tr ar) (hg : Gl X "range" := by rfl) (hs : starEach [a, b] X.env = [(false, eval a X.env), (false, eval b X.env)] := by rfl) (hs2 : starEach [b] X.env = [(false, eval b X.env)] := by rfl) :
    QI X ρ tg (.Call (.Name "range" p) [a, b] [] pos) (iRng2 tr) (aRng2 ar) := ⟨pi_range2 hg hm ha.pe hs hs2, fun B σ H G Γ M Q R k hh q => ha.rd B σ H G Γ M _ _ k hh fun vs H1 G1 Γ1 M1 ds k1 e1 rl h1 => by
  split at h1
  · rename_i m n
    obtain ⟨y, r, rfl, ry, rn⟩ := repL_cons.mp rl
    obtain ⟨z, r', rfl, rz, rn'⟩ := repL_cons.mp rn
    have := repL_nil.mp rn'; subst this
    rw [Rep] at ry rz; subst ry; subst rz
    exact ⟨m, n, rfl, h1.1, q _ H1 G1 Γ1 M1 _ k1 e1 walkD_rng h1.2⟩
  · exact h1.elim⟩

/-! ### for -/
def aForL (g : AG) (body : AS) : List D → AS
  | [] => fun A Γ M => A.nx Γ M
  | d :: ds => fun A Γ M => g d Γ fun Γ1 => body { A with nx := aForL g body ds A, ct := aForL g body ds A, bk := A.nx } Γ1 M
structure WitA (A : AEnds) : Type where
def forW (g : AG) (body : AS) (ds : List D) (A : AEnds) (_ : WitA A) (Γ : Sl) (M : Mem) : Prop := aForL g body ds A Γ M
def aFor (ai : AI) (g : AG) (body : AS) (A : AEnds) (Γ : Sl) (M : Mem) : Prop := ai Γ M fun ds Γ1 M1 => forW g body ds A ⟨⟩ Γ1 M1
theorem Ok.to (k : Ok K ρ B σ H G Γ M) (e : Ex G1 G) (e0 : Ex B.G G1) (gn : ∀ a o, G1 a = some o → B.G a = some o ∨ B.H a = none) : Ok K ρ ⟨B.H, G1, B.A⟩ σ H G Γ M :=
  ⟨⟨e, k.st.fr, fun a o h => (k.st.gn a o h).imp (fun z => e0 a o z) id, k.st.mn, k.st.nn⟩, k.ex, k.nd, k.ms, k.dat, k.own, k.dis, k.len, k.pb.h, k.pb.a, k.pb.g.trans e0, fun a o h => (gn a o h).elim (k.pb.gn a o) fun z => .inr (k.pb.h ▸ z)⟩
theorem Ok.back (pb : Refi ρ B) (k : Ok K ρ ⟨B.H, G1, B.A⟩ σ H G Γ M) (e0 : Ex B.G G1) (gn : ∀ a o, G1 a = some o → B.G a = some o ∨ B.H a = none) : Ok K ρ B σ H G Γ M ∧ Ex G1 G :=
  ⟨⟨⟨e0.trans k.st.g, k.st.fr, fun a o h => (k.st.gn a o h).elim (fun z => gn a o z) .inr, k.st.mn, k.st.nn⟩, k.ex, k.nd, k.ms, k.dat, k.own, k.dis, k.len, pb⟩, k.st.g⟩
theorem rd_for {wi : TI} {ai : AI} {g : TG} {ag : AG} {is : List Nat} {tb : TS} {ab : AS} (hi : RdI K ρ wi ai) (hg : RdG K ρ g ag is) (hb : RdS K ρ tb ab) : RdS K ρ (tFor wi g tb) (aFor ai ag ab) := fun B σ H G Γ M A E k h s => by
  refine hi B σ H G Γ M _ _ k h fun J H1 G1 Γ1 M1 ds k1 e1 w h1 => ?_
  obtain ⟨GG, Y, wk, hGG, hY⟩ := w.w
  have e0 : Ex B.G G1 := k1.st.g
  have gn := k1.st.gn
  have sim : ∀ i, Sim K ρ ⟨B.H, G1, B.A⟩ { A with nx := aForL ag ab (ds.drop (i + 1)) A, ct := aForL ag ab (ds.drop (i + 1)) A, bk := A.nx }
      { E with nx := fun σ H => ∃ G2 Γ2 M2, Ok K ρ B σ H G2 Γ2 M2 ∧ Ex G1 G2 ∧ aForL ag ab (ds.drop (i + 1)) A Γ2 M2, ct := fun σ H => ∃ G2 Γ2 M2, Ok K ρ B σ H G2 Γ2 M2 ∧ Ex G1 G2 ∧ aForL ag ab (ds.drop (i + 1)) A Γ2 M2, bk := E.nx } := fun i =>
    ⟨fun σ H G Γ M k q => let ⟨k', e'⟩ := k.back k1.pb e0 gn; ⟨G, Γ, M, k', e', q⟩, fun σ H0 H G Γ M r v k rr q => s.rt σ H0 H G Γ M r v (k.back k1.pb e0 gn).1 rr q, fun σ H G Γ M k q => s.nx σ H G Γ M (k.back k1.pb e0 gn).1 q, fun σ H G Γ M k q => let ⟨k', e'⟩ := k.back k1.pb e0 gn; ⟨G, Γ, M, k', e', q⟩⟩
  refine for_it wk (fun i σ H => ∃ G2 Γ2 M2, Ok K ρ B σ H G2 Γ2 M2 ∧ Ex G1 G2 ∧ aForL ag ab (ds.drop i) A Γ2 M2) ⟨G1, Γ1, M1, k1, Ex.refl _, h1⟩ (fun i σ H _ ⟨G2, Γ2, M2, k2, e2, _⟩ => hGG H (e2.trans k2.ex)) ?_ ?_
  · rintro i x σ H H' hin ⟨G2, Γ2, M2, k2, e2, h2⟩ y
    rw [List.drop_eq_getElem_cons hin] at h2
    obtain ⟨G3, k3, e3, rp⟩ := (hY i H x H' _ (List.getElem?_eq_getElem hin) (e2.trans k2.ex) y).ok k2 e2
    refine hg B σ H' G3 Γ2 M2 _ x _ _ k3 rp h2 fun σ' Γ' k4 _ _ h4 => ?_
    exact hb ⟨B.H, G1, B.A⟩ σ' H' G3 Γ' M2 _ _ (k4.to (e2.trans e3.g) e0 gn) h4 (sim i)
  · rintro σ H ⟨G2, Γ2, M2, k2, e2, h2⟩
    rw [List.drop_length] at h2
    exact s.nx σ H G2 Γ2 M2 k2 h2
theorem qs_for {iter : Expr} {body : List Stmt} {wi : TI} {ai : AI} {g : TG} {ag : AG} {is : List Nat} {tb : TS} {ab : AS} (hi : QI X ρ tg iter wi ai) (hg : QG X ρ tg g ag is) (hb : QSs X ρ body tb ab) (hc : X.calm = true := by rfl)
    (hp : PassesOwn (model X.prog X.w) X.A X.env X.xe := by exact PassesOwn.never) (hs : ∀ x, foldedSetIterable iter X.env x = pure x := by intro _; rfl) : QS X ρ (.For tg iter body [] pos) (tFor wi g tb) (aFor ai ag ab) := ⟨ps_for hp hc hi.pe hg.pe hb.pe hs, rd_for hi.rd hg.rd hb.rd⟩
/-! ### while -/
def aWhile (t : AT) (body : AS) (A : AEnds) (Γ : Sl) (M : Mem) : Prop := ∃ W : Nat → Sl → Mem → Prop, (∃ m, W m Γ M) ∧ ∀ m Γ M, W m Γ M →
  t Γ M fun b Γ1 M1 => if b = true then body { A with nx := fun Γ M => ∃ m', m' < m ∧ W m' Γ M, ct := fun Γ M => ∃ m', m' < m ∧ W m' Γ M, bk := A.nx } Γ1 M1 else A.nx Γ1 M1
theorem rd_while {tt : TT} {at' : AT} {tb : TS} {ab : AS} (hc : RdT K ρ tt at') (hb : RdS K ρ tb ab) : RdS K ρ (tWhile tt tb) (aWhile at' ab) := fun B σ H G Γ M A E k h s => by
  obtain ⟨W, ⟨m0, w0⟩, hw⟩ := h
  refine ⟨fun m σ H => ∃ G Γ M, Ok K ρ B σ H G Γ M ∧ W m Γ M, ⟨m0, G, Γ, M, k, w0⟩, ?_⟩
  rintro m σ H ⟨G1, Γ1, M1, k1, w1⟩
  refine hc B σ H G1 Γ1 M1 _ _ k1 (hw m Γ1 M1 w1) fun b H2 G2 Γ2 M2 k2 e2 h2 => ?_
  cases b with
  | true =>
    refine ⟨fun σ H => ∃ G Γ M, Ok K ρ B σ H G Γ M ∧ ∃ m', m' < m ∧ W m' Γ M, fun σ' H' ⟨G, Γ, M, k, m', l, w⟩ => ⟨m', l, G, Γ, M, k, w⟩, ?_⟩
    have h3 : ab { A with nx := fun Γ M => ∃ m', m' < m ∧ W m' Γ M, ct := fun Γ M => ∃ m', m' < m ∧ W m' Γ M, bk := A.nx } Γ2 M2 := by simpa using h2
    exact hb B σ H2 G2 Γ2 M2 _ _ k2 h3 ⟨fun σ H G Γ M k q => ⟨G, Γ, M, k, q⟩, s.rt, s.nx, fun σ H G Γ M k q => ⟨G, Γ, M, k, q⟩⟩
  | false => exact s.nx σ H2 G2 Γ2 M2 k2 (by simpa using h2)
theorem qs_while {body : List Stmt} {tt : TT} {at' : AT} {tb : TS} {ab : AS} (hc : QT X ρ c tt at') (hb : QSs X ρ body tb ab) (hp : PassesOwn (model X.prog X.w) X.A X.env X.xe := by exact PassesOwn.never) : QS X ρ (.While c body [] pos) (tWhile tt tb) (aWhile at' ab) := ⟨ps_while hp hc.pe hb.pe, rd_while hc.rd hb.rd⟩

/-! ### comprehensions -/
def wipeS (Γ : Sl) : List Nat → Sl
  | [] => Γ
  | v :: vs => (wipeS Γ vs).set v .non
theorem wipeS_some {i : Nat} {s : Slot} : ∀ {vs : List Nat}, (wipeS Γ vs)[i]? = some s → s ≠ .non → Γ[i]? = some s ∧ i ∉ vs
  | [], h, _ => ⟨h, by simp⟩
  | v :: vs, h, hn => by
    unfold wipeS at h
    rcases set_get h with ⟨_, e⟩ | ⟨ne, e⟩
    · exact (hn e).elim
    · obtain ⟨h1, h2⟩ := wipeS_some e hn
      exact ⟨h1, by simp only [List.mem_cons, not_or]; exact ⟨ne, h2⟩⟩
theorem wipeS_length : ∀ vs : List Nat, (wipeS Γ vs).length = Γ.length
  | [] => rfl
  | v :: vs => by unfold wipeS; rw [List.length_set, wipeS_length vs]
theorem wipe_wipe (σ : St) : ∀ vs : List Nat, wipe (wipe σ vs) vs = wipe σ vs := fun vs => by
  apply List.ext_getElem?
  intro i
  by_cases hi : i ∈ vs
  · have key : ∀ (ws : List Nat) (τ : St), i ∈ ws → i < τ.length → (wipe τ ws)[i]? = some none := by
      intro ws
      induction ws with
      | nil => intro τ h; simp at h
      | cons w ws ih =>
        intro τ h hl
        unfold wipe
        by_cases e : w = i
        · subst e; rw [List.getElem?_set_self (by rw [wipe_length]; exact hl)]
        · rw [List.getElem?_set_ne e]; exact ih τ (by simpa [show ¬ i = w from fun q => e q.symm] using h) hl
    by_cases hl : i < σ.length
    · rw [key vs _ hi (by rw [wipe_length]; exact hl), key vs σ hi hl]
    · rw [List.getElem?_eq_none (by rw [wipe_length, wipe_length]; omega), List.getElem?_eq_none (by rw [wipe_length]; omega)]
  · rw [wipe_out hi]
/-- slots that agree where something is said -/
theorem Ok.agree {σ' : St} {Γ' : Sl} (k : Ok K ρ B σ H G Γ M) (hs : ∀ (i : Nat) (s : Slot), Γ'[i]? = some s → s ≠ .non → Γ[i]? = some s ∧ σ'[i]? = σ[i]?) (hl : Γ'.length = σ'.length) : Ok K ρ B σ' H G Γ' M ∧ ∀ x, owned σ' Γ' x → owned σ Γ x := by
  refine ⟨⟨k.st, k.ex, k.nd, k.ms, fun i d h => ?_, fun i c h => ?_, fun i j ci cj p h h' a b => ?_, hl, k.pb⟩, fun x ⟨i, c, h1, h2⟩ => ?_⟩
  · obtain ⟨h1, h2⟩ := hs i _ h (by intro e; cases e)
    rw [h2]; exact k.dat i d h1
  · obtain ⟨h1, h2⟩ := hs i _ h (by intro e; cases e)
    rw [h2]; exact k.own i c h1
  · obtain ⟨h1, h2⟩ := hs i _ h (by intro e; cases e)
    obtain ⟨h1', h2'⟩ := hs j _ h' (by intro e; cases e)
    rw [h2] at a; rw [h2'] at b
    exact k.dis i j ci cj p h1 h1' a b
  · obtain ⟨g1, g2⟩ := hs i _ h1 (by intro e; cases e)
    exact ⟨i, c, g1, by rw [← g2]; exact h2⟩
theorem Ok.updTmp {p : Addr} {xs ys : List V} (k : Ok K ρ B σ H G Γ M) (hp : H p = some (.lst xs)) (hb : B.H p = none) (hg : G p = none) (hm : p ∉ dom M) (hn : ¬ owned σ Γ p) : Ok K ρ B σ (upd H p (.lst ys)) G Γ M := by
  have cel : ∀ x c, x ≠ p → Cel K H G x c → Cel K (upd H p (.lst ys)) G x c := fun x c ne ⟨z1, o, z2, z3⟩ => ⟨z1, o, by rw [upd_ne ne]; exact z2, z3⟩
  refine ⟨⟨k.st.g, fun x o z n => ?_, k.st.gn, k.st.mn, fun x z => k.st.nn x ?_⟩, fun x o z => ?_, k.nd, fun x c z => cel x c (fun e => hm (e ▸ List.mem_map.mpr ⟨_, z, rfl⟩)) (k.ms x c z), k.dat, fun i c z => ?_, k.dis, k.len, k.pb⟩
  · rw [upd_ne (ne_of_none z hb)]; exact k.st.fr x o z n
  · by_cases e : x = p
    · subst e; rw [upd_same] at z; cases z
    · rw [upd_ne e] at z; exact z
  · rw [upd_ne (ne_of_none z hg)]; exact k.ex x o z
  · obtain ⟨q, h1, h2, h3, h4⟩ := k.own i c z
    exact ⟨q, h1, h2, h3, cel q c (fun e => hn ⟨i, c, z, e ▸ h1⟩) h4⟩
def aLcL (g : AG) (tt : AT) (ae : AE) (vs : List Nat) (k : List D → Sl → Mem → Prop) : List D → List D → Sl → Mem → Prop
  | [], acc, Γ, M => k acc Γ M
  | d :: ds, acc, Γ, M => g d Γ fun Γ1 => tt Γ1 M fun b Γ2 M2 => if b = true then ae Γ2 M2 fun r Γ3 M3 => frz r Γ3 fun y Γ4 => acc.length < sizeLine ∧ aLcL g tt ae vs k ds (acc ++ [y]) (wipeS Γ4 vs) M3
      else aLcL g tt ae vs k ds acc (wipeS Γ2 vs) M2
structure WitL (k : List D → Sl → Mem → Prop) : Type where
def lcW (g : AG) (tt : AT) (ae : AE) (vs : List Nat) (k : List D → Sl → Mem → Prop) (_ : WitL k) (ds acc : List D) (Γ : Sl) (M : Mem) : Prop := aLcL g tt ae vs k ds acc Γ M
def aLc (ai : AI) (g : AG) (tt : AT) (ae : AE) (vs : List Nat) (Γ : Sl) (M : Mem) (Q : Ret → Sl → Mem → Prop) : Prop := ai Γ M fun ds Γ1 M1 => lcW g tt ae vs (fun acc Γ2 M2 => Q (.tmp (.lst acc)) Γ2 M2) ⟨⟩ ds [] (wipeS Γ1 vs) M1
def aYes (Γ : Sl) (M : Mem) (Q : Bool → Sl → Mem → Prop) : Prop := Q true Γ M
theorem rd_yes : RdT K ρ tYes aYes := fun _ _ H G Γ M _ _ k h q => q true H G Γ M k .refl h
theorem rd_lc {wi : TI} {ai : AI} {g : TG} {ag : AG} {is vs : List Nat} {tt : TT} {at' : AT} (hi : RdI K ρ wi ai) (hg : RdG K ρ g ag is) (hsub : ∀ j ∈ is, j ∈ vs) (ht : RdT K ρ tt at') (he : RdE K ρ te ae) : RdE K ρ (tLc wi g tt te vs) (aLc ai ag at' ae vs) := by
  intro B σ H G Γ M Q R k h q
  refine hi B σ H G Γ M _ _ k h fun J H1 G1 Γ1 M1 ds k1 e1 w h1 p hp => ?_
  obtain ⟨GG, Y, wk, hGG, hY⟩ := w.w
  have h0p : H p = none := e1.nn p hp
  -- the state with the block's names wiped
  have wS : ∀ (Δ : Sl) (i : Nat) (s : Slot), (wipeS Δ vs)[i]? = some s → s ≠ .non → Δ[i]? = some s ∧ i ∉ vs := fun Δ i s a b => wipeS_some a b
  obtain ⟨k1t, e1t, hm1, hn1, hb1, hg1⟩ := k1.tmp (o := .lst []) hp
  obtain ⟨k1w, o1w⟩ := k1t.agree (σ' := σ) (Γ' := wipeS Γ1 vs) (fun i s a b => ⟨(wS Γ1 i s a b).1, rfl⟩) (by rw [wipeS_length]; exact k1.len)
  have upN : ∀ {H2 : Hp} {o : HO} x, upd H2 p o x = none → H2 x = none := fun {H2 o} x z => by
    by_cases e : x = p
    · subst e; rw [upd_same] at z; cases z
    · rw [upd_ne e] at z; exact z
  refine lc_it wk (fun i H2 => ∃ G2 Γ2 M2 acc xs, Ok K ρ B σ H2 G2 Γ2 M2 ∧ Es σ H1 G1 Γ1 M1 H2 G2 Γ2 M2 ∧ (∀ (j : Nat) (s : Slot), Γ2[j]? = some s → s ≠ .non → j ∉ vs) ∧ H2 p = some (.lst xs) ∧ RepL K G2 acc xs ∧ G2 p = none ∧ p ∉ dom M2 ∧ ¬ owned σ Γ2 p ∧
      aLcL ag at' ae vs (fun acc Γ2 M2 => Q (.tmp (.lst acc)) Γ2 M2) (ds.drop i) acc Γ2 M2) ?_ ?_ ?_ ?_
  · refine ⟨G1, wipeS Γ1 vs, M1, [], [], k1w, ⟨Ex.refl _, fun a o h g m n => ?_, fun a z => upN a z⟩, fun j s a b => (wS Γ1 j s a b).2, upd_same, repL_nil.mpr rfl, hg1, hm1, fun z => hn1 (o1w _ z), h1⟩
    exact ⟨by rw [upd_ne (ne_of_none h hp)]; exact h, g, m, fun z => n (o1w _ z)⟩
  · rintro i H2 _ ⟨G2, Γ2, M2, acc, xs, k2, e2, _⟩
    exact hGG H2 (e2.g.trans k2.ex)
  · rintro i x H2 H2' hin ⟨G2, Γ2, M2, acc, xs, k2, e2, hv2, hp2, ra2, hg2, hm2, hn2, h2⟩ y
    rw [List.drop_eq_getElem_cons hin] at h2
    obtain ⟨G3, k3, e3, rp⟩ := (hY i H2 x H2' _ (List.getElem?_eq_getElem hin) (e2.g.trans k2.ex) y).ok k2 e2.g
    obtain ⟨hp3, hg3, hm3, hn3⟩ := e3.tmp p _ hp2 hg2 hm2 hn2
    obtain ⟨k3w, o3w⟩ := k3.agree (σ' := wipe σ vs) (Γ' := Γ2) (fun j s a b => ⟨a, wipe_out (hv2 j s a b)⟩) (by rw [wipe_length]; exact k3.len)
    have o3b : ∀ x, owned σ Γ2 x → owned (wipe σ vs) Γ2 x := fun x ⟨j, c, z1, z2⟩ => ⟨j, c, z1, by rw [wipe_out (hv2 j _ z1 (by intro e; cases e))]; exact z2⟩
    refine hg B (wipe σ vs) H2' G3 Γ2 M2 _ x _ _ k3w rp h2 fun σ2 Γ3 k4 w4 o4 h4 => ⟨?_, ?_⟩
    · rw [w4 vs hsub, wipe_wipe]
    have hw2 : wipe σ2 vs = wipe σ vs := by rw [w4 vs hsub, wipe_wipe]
    have ag2 : ∀ j, j ∉ vs → σ[j]? = σ2[j]? := fun j hj => by rw [← wipe_out (σ := σ2) hj, hw2, wipe_out hj]
    have hl2 : σ2.length = σ.length := by rw [← wipe_length σ2 vs, hw2, wipe_length]
    -- what stands at the end of a turn
    have fin : ∀ {H5 G5 : Hp} {Γ5 : Sl} {M5 : Mem}, Ok K ρ B σ2 H5 G5 Γ5 M5 → Es σ2 H2' G3 Γ3 M2 H5 G5 Γ5 M5 → Ok K ρ B σ H5 G5 (wipeS Γ5 vs) M5 ∧ Es σ H1 G1 Γ1 M1 H5 G5 (wipeS Γ5 vs) M5 ∧ H5 p = some (.lst xs) ∧ G5 p = none ∧ p ∉ dom M5 ∧ ¬ owned σ2 Γ5 p ∧ ¬ owned σ (wipeS Γ5 vs) p := fun {H5 G5 Γ5 M5} k5 e5 => by
      obtain ⟨k6, o6⟩ := k5.agree (σ' := σ) (Γ' := wipeS Γ5 vs) (fun j s a b => ⟨(wS Γ5 j s a b).1, ag2 j (wS Γ5 j s a b).2⟩) (by rw [wipeS_length, k5.len, hl2])
      have through : ∀ a o, H2 a = some o → G2 a = none → a ∉ dom M2 → ¬ owned σ Γ2 a → H5 a = some o ∧ G5 a = none ∧ a ∉ dom M5 ∧ ¬ owned σ2 Γ5 a := fun a o h g m n => by
        obtain ⟨a1, a2, a3, a4⟩ := e3.tmp a o h g m n
        exact e5.tmp a o a1 a2 a3 fun z => a4 (o3w _ (o4 _ z))
      obtain ⟨b1, b2, b3, b4⟩ := through p _ hp2 hg2 hm2 hn2
      refine ⟨k6, ⟨(e2.g.trans e3.g).trans e5.g, fun a o h g m n => ?_, fun a z => e2.nn a (e3.nn a (e5.nn a z))⟩, b1, b2, b3, b4, fun z => b4 (o6 _ z)⟩
      obtain ⟨a1, a2, a3, a4⟩ := e2.tmp a o h g m n
      obtain ⟨c1, c2, c3, c4⟩ := through a o a1 a2 a3 a4
      exact ⟨c1, c2, c3, fun z => c4 (o6 _ z)⟩
    refine ht B σ2 H2' G3 Γ3 M2 _ _ k4 h4 fun b H5 G5 Γ5 M5 k5 e5 h5 => ?_
    cases b with
    | false =>
      obtain ⟨k6, e6, p6, g6, m6, _, n6⟩ := fin k5 e5
      exact ⟨G5, wipeS Γ5 vs, M5, acc, xs, k6, e6, fun j s a b => (wS Γ5 j s a b).2, p6, (ra2.mono e3.g).mono e5.g, g6, m6, n6, by simpa using h5⟩
    | true =>
      refine he B σ2 H5 G5 Γ5 M5 _ _ k5 (by simpa using h5) fun v H6 G6 Γ6 M6 r k6 e6 rr h6 => ?_
      obtain ⟨G7, Γ7, y, k7, e7, rp7, hlen, h7⟩ := frz_ok (H0 := H5) k6 e6 rr h6
      obtain ⟨k8, e8, p8, g8, m8, n8', n8⟩ := fin k7 (e5.trans e7)
      have ra : RepL K G7 acc xs := (ra2.mono e3.g).mono (e5.trans e7).g
      refine ⟨xs, p8, by rw [ra.length]; exact hlen, G7, wipeS Γ7 vs, M6, acc ++ [y], xs ++ [v], k8.updTmp p8 hb1 g8 m8 n8, ⟨e8.g, fun a o h g m n => ?_, fun a z => e8.nn a (upN a z)⟩, fun j s a b => (wS Γ7 j s a b).2, upd_same, ra.append (RepL.one rp7), g8, m8, n8, h7⟩
      obtain ⟨a1, a2, a3, a4⟩ := e8.tmp a o h g m n
      exact ⟨by rw [upd_ne (ne_of_none h hp)]; exact a1, a2, a3, a4⟩
  · rintro H2 ⟨G2, Γ2, M2, acc, xs, k2, e2, _, hp2, ra2, hg2, hm2, hn2, h2⟩
    rw [List.drop_length] at h2
    exact q _ H2 G2 Γ2 M2 (.tmp (.lst acc)) k2 (e1.trans e2) ⟨p, rfl, h0p, hb1, ⟨hg2, _, hp2, xs, rfl, ra2⟩, hm2, hn2⟩ h2
structure QTs (X : Cx) (ρ : Ent) (ifs : List Expr) (tt : TT) (at' : AT) : Prop where
  pe : PTs X ifs tt
  rd : RdT X.K ρ tt at'
theorem qts_nil : QTs X ρ [] tYes aYes := ⟨pts_nil, rd_yes⟩
theorem qts_one {tt : TT} {at' : AT} (h : QT X ρ c tt at') : QTs X ρ [c] tt at' := ⟨pts_one h.pe, h.rd⟩
theorem q_lc {elt iter : Expr} {ifs : List Expr} {scope : Scope} {own : List (Str × Nat)} {wi : TI} {ai : AI} {g : TG} {ag : AG} {is : List Nat} {tt : TT} {at' : AT} (own' : List (Str × Nat)) (hown : own = own') (hN : X.N.Nodup) (hi : QI X ρ tg iter wi ai) (ok : BlkOk X.N X.env.scope scope own)
    (hg : ∀ (s : Shared) (H : Hp) (C : Addr) (cl : List (Str × Addr)) (fp : List Addr), QG (X.blk s H scope (compEnvC scope cl C X.env) fp) ρ tg g ag is) (ht : ∀ (s : Shared) (H : Hp) (C : Addr) (cl : List (Str × Addr)) (fp : List Addr), QTs (X.blk s H scope (compEnvC scope cl C X.env) fp) ρ ifs tt at')
    (he : ∀ (s : Shared) (H : Hp) (C : Addr) (cl : List (Str × Addr)) (fp : List Addr), QE (X.blk s H scope (compEnvC scope cl C X.env) fp) ρ elt te ae) (hsub : ∀ j ∈ is, j ∈ own.map (·.2)) (s0 : Shared) (hc : X.calm = true := by rfl) (hs : ∀ x, foldedSetIterable iter X.env x = pure x := by intro _; rfl) :
    QE X ρ (.ListComp elt [⟨tg, iter, ifs, 0⟩] scope pos) (tLc wi g tt te (own.map (·.2))) (aLc ai ag at' ae (own.map (·.2))) :=
  ⟨pe_lc hc hN hi.pe ok (fun s H C cl fp => (hg s H C cl fp).pe) (fun s H C cl fp => (ht s H C cl fp).pe) (fun s H C cl fp => (he s H C cl fp).pe) hs,
   rd_lc hi.rd (hg s0 X.H_0 0 [] []).rd hsub (ht s0 X.H_0 0 [] []).rd (he s0 X.H_0 0 [] []).rd⟩
end
end Gw

namespace Gw
open PySem L2 PyProof.Rows
variable {ρ : Ent}
/-! ### a def by its abstract body -/
def ret (r : Ret) (Γ : Sl) (k : Ret → Prop) : Prop := match r with
  | .dat d => k (.dat d)
  | .tmp c => k (.tmp c)
  | .var i => match Γ[i]? with
    | some (.own c) => k (.tmp c)
    | some (.dat d) => k (.dat d)
    | _ => False
def endsOf (Q : Ret → Mem → Prop) : AEnds := ⟨fun _ M => Q (.dat .non) M, fun r Γ M => ret r Γ fun r' => Q r' M, fun _ _ => False, fun _ _ => False⟩
def slots (n : Nat) (ds : List D) : Sl := ds.map .dat ++ List.replicate (n - ds.length) .non
section
variable {P : Program} {w : World} {K : PySem.W.Frag} {mg : Str → Option Value} {base : Heap}
theorem ok_start {N : List Str} {vs : List V} {ds : List D} {H G : Hp} {M : Mem} (ex : Ex G H) (nd : (dom M).Nodup) (ms : ∀ a c, (a, c) ∈ M → Cel K H G a c) (rl : RepL K G ds vs) : Ok K ⟨H, G, dom M⟩ ⟨H, G, dom M⟩ (L2.start N vs) H G (slots N.length ds) M := by
  have hdat : ∀ (i : Nat) (s : Slot), (slots N.length ds)[i]? = some s → s ≠ .non → ∃ d, ds[i]? = some d ∧ s = .dat d := fun i s h hn => by
    unfold slots at h
    by_cases hi : i < ds.length
    · rw [List.getElem?_append_left (by rw [List.length_map]; exact hi), List.getElem?_map, List.getElem?_eq_getElem hi] at h
      cases h
      exact ⟨_, List.getElem?_eq_getElem hi, rfl⟩
    · rw [List.getElem?_append_right (by rw [List.length_map]; omega)] at h
      have := List.mem_of_getElem? h
      rw [List.mem_replicate] at this
      exact (hn this.2).elim
  refine ⟨⟨Ex.refl _, fun _ _ h _ => h, fun _ _ h => .inl h, fun _ h => .inl h, fun _ h => h⟩, ex, nd, ms, fun i d h => ?_, fun i c h => ?_, fun i j ci cj p h _ _ _ => ?_, ?_, Refi.refl _⟩
  · obtain ⟨d', e, z⟩ := hdat i _ h (by intro e; cases e)
    cases z
    obtain ⟨v, hv, r⟩ := rl.get e
    refine ⟨v, ?_, r⟩
    unfold L2.start
    rw [List.getElem?_append_left (by rw [List.length_map]; exact (List.getElem?_eq_some_iff.mp hv).1), List.getElem?_map, hv]
    rfl
  · obtain ⟨d', e, z⟩ := hdat i _ h (by intro e; cases e)
    cases z
  · obtain ⟨d', e, z⟩ := hdat i _ h (by intro e; cases e)
    cases z
  · unfold slots L2.start
    rw [List.length_append, List.length_append, List.length_map, List.length_map, List.length_replicate, List.length_replicate, rl.length]
theorem fn_ok {k : Nat} {x qual : Str} {st : Stmt} {f : Addr} {fd : FuncData} {N ps : List Str} {S : ASp} (F : Fun K x qual st f fd) (sc : FnScope N ps (defScope st)) (hn : Ar ps.length S) {as : AS}
    (hb : ∀ (ρ : Ent) (cd : Value) (A : Around) (outer : List Env) (s : Shared) (H : Hp) (E : XK), Room k (A.deeper (envOfC qual (defScope st) s.heap.objs.size f cd)) → A.guards = some [] → ∃ ts, QSs (cxOf CX0 P w K mg base N qual (defScope st) f cd A outer s H E).nox ρ (defBody st) ts as)
    (hr : ∀ ds M Q, S ds M Q → as (endsOf Q) (slots N.length ds) M) : FnG P w K mg base CX0 (k + 1) f fd ps (spA K ps.length S) := by
  refine fnG_of F sc (fun vs H Q E h => ?_) fun cd A outer s H vs Q E room gd h => ?_
  · obtain ⟨G, M, ds, hl, _⟩ := h; exact hl
  · obtain ⟨G, M, ds, hl, ex, nd, ms, rl, Qa, hS, fin⟩ := h
    obtain ⟨ts, q⟩ := hb ⟨H, G, dom M⟩ cd A outer s H E room gd
    refine ⟨ts, q.pe.nox, q.rd ⟨H, G, dom M⟩ (L2.start N vs) H G (slots N.length ds) M (endsOf Qa) _ (ok_start ex nd ms rl) (hr ds M Qa hS) ⟨fun σ H' G' Γ' M' k' z => ?_, fun σ H0 H' G' Γ' M' r v k' rr z => ?_, fun _ _ _ _ _ _ z => z.elim, fun _ _ _ _ _ _ z => z.elim⟩⟩
    · exact fin (.dat .non) M' .non H' G' z ⟨k'.st, k'.ex, k'.nd, k'.ms⟩ (by simp only [RetOk, Rep])
    · have post : Post K H G M H' G' M' := ⟨k'.st, k'.ex, k'.nd, k'.ms⟩
      cases r with
      | dat d => exact fin (.dat d) M' v H' G' z post rr
      | tmp c =>
        obtain ⟨p, e, _, hb, hc, hm, _⟩ := rr
        exact fin (.tmp c) M' v H' G' z post ⟨p, e, hb, hc, hm⟩
      | var i =>
        simp only [endsOf, ret] at z
        split at z
        · rename_i c e1
          obtain ⟨p, s1, hb, hm, hc⟩ := k'.own i c e1
          have : v = .ref p := by have := (show (_ : L2.St)[i]? = some (some v) from rr); rw [s1] at this; cases this; rfl
          exact fin (.tmp c) M' v H' G' z post ⟨p, this, hb, hc, hm⟩
        · rename_i d e1
          obtain ⟨v', h1, h2⟩ := k'.dat i d e1
          have : v' = v := by have := (show (_ : L2.St)[i]? = some (some v) from rr); rw [h1] at this; cases this; rfl
          subst this
          exact fin (.dat d) M' _ H' G' z post h2
        · exact z.elim
end
/-! ### repr -/
section
variable {X : Cx} {a : Expr} {ta : TE} {aa : AE} {pos : Pos} {K : PySem.W.Frag}
def shOk (d : D) : Bool := plain d && (toPy d).showable && decide ((toPy d).depth ≤ 64) && decide ((toPy d).shown.length ≤ sizeLine)
def shD (d : D) : Str := (toPy d).shown
def aRepr (r : Ret) (Γ : Sl) (M : Mem) (Q : Ret → Sl → Mem → Prop) : Prop := match dOf r Γ M with
  | some d => shOk d = true ∧ Q (.dat (.str (shD d))) Γ M
  | none => False
def rReprD (K : PySem.W.Frag) : List V → Hp → VK → Prop := fun xs H Q => ∃ v d, xs = [v] ∧ Dp K H v d ∧ d.showable = true ∧ d.depth ≤ 64 ∧ d.shown.length ≤ sizeLine ∧ Q (.str d.shown) H
theorem rd_repr : RdU K ρ (rReprD K) aRepr := by
  intro B σ H H1 G Γ M rx x Q R k r1 h q
  unfold aRepr at h
  split at h
  · rename_i d hd
    obtain ⟨c, h⟩ := h
    simp only [shOk, Bool.and_eq_true, decide_eq_true_eq] at c
    exact ⟨x, _, rfl, (dOf_ok k r1 hd).dp c.1.1.1, c.1.1.2, c.1.2, c.2, q _ H G Γ M (.dat (.str _)) k .refl (by simp only [RepR, Rep]; rfl) h⟩
  · exact h.elim
theorem q_repr {p : Pos} (gd : X.A.guards = some []) (hu : X.A.units + 100 < cLine) (hm : X.mg "repr" = none) (ha : QE X ρ a ta aa) (hg : Gl X "repr" := by rfl) (na : starEach [a] X.env = (false, eval a X.env) :: starEach [] X.env := by rfl) (hK : X.K = K := by rfl) :
    QE X ρ (.Call (.Name "repr" p) [a] [] pos) (tCB (rReprD K) (tCons ta tNil)) (aCall1 aRepr aa) := by subst hK; exact q_callB1 (call_reprD gd hu) rd_repr hm ha hg (na := na)
end
/-! ### the law's end -/
section
variable {P : Program} {w : World} {K : PySem.W.Frag} {mg mb : Str → Option Value}
/-- what stands at the law's call where only the script is told of -/
theorem env_script {s : Shared} {H : Hp} {a : Addr} {vs : List Value} (KX : K.In s.heap) (hns : s.heap.Ns mainGlobals mg) (hb : s.heap.Ns builtinsNs mb) (hbb : ∀ x : Str, x ≠ "__name__" → mb x = bootBuiltins x) (lim : s.heap.NoLimit) (hg : s.gens = #[])
    (ha : s.heap.get? a = some { cls := .type "list", data := .seq vs.toArray }) (hok : HOk P w H s.heap) (one : ∀ b, H b ≠ none → b = a) (hK : H a ≠ none → K.lookup a = none) :
    K.In (hidT s.heap H) ∧ (hidT s.heap H).Ns mainGlobals mg ∧ Env0 P w K mg (hidT s.heap H) callerA [] s H := by
  have free : ∀ b, b ≠ a → H b = none := fun b ne => Classical.byContradiction fun z => ne (one b z)
  have nsOf : ∀ {b : Addr} {m : Str → Option Value}, s.heap.Ns b m → (hidT s.heap H).Ns b m := by
    rintro b m ⟨o, es, ep, e, d, r⟩
    refine ⟨o, es, ep, hidT_get e (free b fun z => ?_), d, r⟩
    rw [z, ha] at e
    have e' := Option.some.inj e
    rw [← e'] at d
    cases d
  have kin : K.In (hidT s.heap H) := by
    intro b o e
    refine hidT_get (KX b o e) (Classical.byContradiction fun z => ?_)
    have eb := one b z
    subst eb
    rw [hK z] at e
    cases e
  obtain ⟨mc, l1, l2⟩ := lim
  refine ⟨kin, nsOf hns, ⟨rfl, ⟨kin, nsOf hns, ⟨mb, nsOf hb, hbb⟩, ⟨mc, nsOf l1, l2⟩⟩, fun b o e => of_hidT e, ?_, trivial, ?_, hok, .of_eq hg⟩⟩
  · rw [hidT_size]; exact Nat.le_refl _
  · intro b hb'; cases hb'
def spLaw (K : PySem.W.Frag) (S : List Int → Prop) : Sp := fun vs H Q _ => ∃ (a : Addr) (ns : List Int), vs = [.ref a] ∧ SqL K H a (ns.map V.int) ∧ S ns ∧ ∀ H', Q (.bl true) H'
theorem law_end {S : List Int → Prop} {k : Nat} {fa a : Addr} {fd : FuncData} {x : Str} {s₁ : Shared} {vs : List Value} {ns : List Int} (KX : K.In s₁.heap) (hns : s₁.heap.Ns mainGlobals mg) (hb : s₁.heap.Ns builtinsNs mb) (hbb : ∀ x : Str, x ≠ "__name__" → mb x = bootBuiltins x) (lim : s₁.heap.NoLimit) (hg : s₁.gens = #[])
    (ha : s₁.heap.get? a = some { cls := .type "list", data := .seq vs.toArray }) (hi : IntsAre vs ns) (hl : ns.length ≤ sizeLine) (hr : Room k callerA) (hS : S ns)
    (F : ∀ base : Heap, K.In base → base.Ns mainGlobals mg → FnG P w K mg base CX0 k fa fd [x] (spLaw K S)) (bind : ∀ (s : Shared) (u : Value), BindsTo s fd ⟨[u], []⟩ [(x, u)]) :
    codeAny (model P w) callerA (.call (.ref fa) ⟨[.ref a], []⟩) (fun r s' => r = .ok (.ret (.bool true)) ∧ PySem.OldK s₁.heap s'.heap ∧ s'.os = s₁.os ∧ AllBare s'.gens) s₁ := by
  have go : ∀ H : Hp, (∀ b, H b = none ∨ ∃ o xs, H b = some (.frz o (.lst xs))) → SqL K H a (ns.map V.int) → HOk P w H s₁.heap → (∀ b, H b ≠ none → b = a) → (H a ≠ none → K.lookup a = none) →
      codeAny (model P w) callerA (.call (.ref fa) ⟨[.ref a], []⟩) (fun r s' => r = .ok (.ret (.bool true)) ∧ PySem.OldK s₁.heap s'.heap ∧ s'.os = s₁.os ∧ AllBare s'.gens) s₁ := by
    intro H only sq hok one hK
    obtain ⟨kin, nsb, e0⟩ := env_script (P := P) (w := w) KX hns hb hbb lim hg ha hok one hK
    have run := (F _ kin nsb).go callerA [] s₁ H ⟨[.ref a], []⟩ [.ref a] [.ref a] (fun v _ => v = .bl true) (fun _ _ _ => False) hr rfl e0 (bind s₁ (.ref a)) (.cons rfl .nil) ⟨a, ns, rfl, sq, hS, fun _ => rfl⟩
    refine codeAny_mono run fun r s' h => ?_
    match r, h with
    | .error _, h => exact h.elim
    | .ok .next, h => exact h.elim
    | .ok .brk, h => exact h.elim
    | .ok .cont, h => exact h.elim
    | .ok (.ret u), ⟨v, H', os, bare, un, hok', rv, q⟩ =>
      have q' : v = .bl true := q
      subst q'
      have eu : u = Value.bool true := rv
      subst eu
      refine ⟨rfl, PySem.OldK.of_keep fun b o e => ?_, os, bare⟩
      rcases only b with z | ⟨ob, xs, z⟩
      · exact un.keep b o e z (fun m => by cases m) (fun m => by cases m)
      · obtain ⟨e1, _⟩ := hok b _ z
        obtain ⟨e2, _⟩ := hok' b _ (un.frzs b ob _ z)
        rw [e1] at e
        cases e
        exact e2
  have rv : Vals (ns.map V.int) vs := vals_ints hi
  by_cases hk : ∃ o, K.lookup a = some o
  · obtain ⟨o, hk⟩ := hk
    have e := KX a o hk
    rw [ha] at e
    cases e
    refine go (fun _ => none) (fun _ => .inl rfl) (.inr ⟨_, vs.toArray, _, hk, rfl, rfl, rfl, ?_, ?_⟩) (fun b u z => nomatch z) (fun b z => (z rfl).elim) (fun z => (z rfl).elim)
    · rw [List.size_toArray, hi.length]; exact hl
    · simpa using rv
  · have hk' : K.lookup a = none := by cases z : K.lookup a with | none => rfl | some o => exact (hk ⟨o, z⟩).elim
    let ob : Obj := { cls := .type "list", data := .seq vs.toArray }
    refine go (fun b => if b = a then some (.frz ob (.lst (ns.map V.int))) else none) (fun b => ?_) (.inl (.inr ⟨ob, if_pos rfl⟩)) (fun b u z => ?_) (fun b z => ?_) (fun _ => hk')
    · by_cases eb : b = a
      · exact .inr ⟨_, _, if_pos eb⟩
      · exact .inl (if_neg eb)
    · by_cases eb : b = a
      · subst eb
        have z' : u = .frz ob (.lst (ns.map V.int)) := by simpa using z.symm
        subst z'
        exact ⟨ha, by rw [List.length_map]; exact hl, vs, _, rv, ha⟩
      · simp [eb] at z
    · exact Classical.byContradiction fun eb => z (if_neg eb)
end
theorem law_walk {l : PySem.W.OpenLaw} {n k : Nat} {q : Program} {loose : List Str} {XP : (Str → Option Value) → Heap → Prop} {YP : World → Heap → Prop} {d : DefRec} {K : Params → PySem.W.Frag} {x : Str} {S : List Int → Prop}
    (hn : l.most = some n) (hn2 : n ≤ sizeLine) (hdf : d.params.defaults = []) (hr : Room k callerA) (hY : ∀ (w : World) (h : Heap), YP w h → (K w.params).In h)
    (F : ∀ (w : World) (mg : Str → Option Value) (fa : Addr) (h : Heap), (K w.params).In h → h.Ns mainGlobals mg → mg d.name = some (.ref fa) →
      ∃ fd : FuncData, (∀ (s : Shared) (u : Value), BindsTo s fd ⟨[u], []⟩ [(x, u)]) ∧ ∀ base : Heap, (K w.params).In base → base.Ns mainGlobals mg → FnG l.prog w (K w.params) mg base CX0 k fa fd [x] (spLaw (K w.params) S))
    (hS : ∀ ns : List Int, ns.length ≤ n → (∀ z ∈ ns, Builtin.Int.intBits z ≤ 1048576) → S ns) : PySem.W.WalkO q loose XP YP l.row.toRowW d [] (fun f vs => PySem.call f vs) :=
  Att.attach_callB hn hdf fun w s₀ s₁ mg mb fa o pm cd doc a vs ns G Y ho hd hcd hmg hobj hints hlen hbits hg => by
    have kx := hY w _ Y
    obtain ⟨fd, hb, hF⟩ := F w mg fa _ kx G.T.g hmg
    exact law_end kx G.T.g G.T.b G.T.builtins G.T.nolimit hg hobj hints (Nat.le_trans hlen hn2) hr (hS ns hlen hbits) hF hb
end Gw

namespace Gw
open PySem L2
variable {ρ : Ent}
section
variable {X : Cx} {tg a b c : Expr} {ta tb tc te : TE} {aa ab ac ae : AE} {pos : Pos} {K : PySem.W.Frag} {i : Nat} {x : Str} {pos' : Pos}
/-- name = [..] -/
theorem qs_setLcG {elt iter : Expr} {ifs : List Expr} {scope : Scope} {own : List (Str × Nat)} {wi : TI} {ai : AI} {g : TG} {ag : AG} {is : List Nat} {tt : TT} {at' : AT} {spos : Pos} {as : AS} (i : Nat)
    (has : ∀ {te' : TE} {ae' : AE}, RdE X.K ρ te' ae' → ae' = aLc ai ag at' ae (own.map (·.2)) → RdS X.K ρ (tAsg te' (gName i)) as)
    (hN : X.N.Nodup) (hi : QI X ρ tg iter wi ai) (ok : BlkOk X.N X.env.scope scope own)
    (hg : ∀ (s : Shared) (H : Hp) (C : Addr) (cl : List (Str × Addr)) (fp : List Addr), QG (X.blk s H scope (compEnvC scope cl C X.env) fp) ρ tg g ag is) (ht : ∀ (s : Shared) (H : Hp) (C : Addr) (cl : List (Str × Addr)) (fp : List Addr), QTs (X.blk s H scope (compEnvC scope cl C X.env) fp) ρ ifs tt at')
    (he : ∀ (s : Shared) (H : Hp) (C : Addr) (cl : List (Str × Addr)) (fp : List Addr), QE (X.blk s H scope (compEnvC scope cl C X.env) fp) ρ elt te ae) (hsub : ∀ j ∈ is, j ∈ own.map (·.2)) (s0 : Shared)
    (hy : X.N[i]? = some x) (hyl : X.env.scope.names.lookup x = some .local) (hsw : swapsWith (.ListComp elt [⟨tg, iter, ifs, 0⟩] scope pos) (some (.Name x pos')) spos.line X.env = pure true) (hc : X.calm = true) (hs : ∀ x, foldedSetIterable iter X.env x = pure x) :
    QS X ρ (.Assign [.Name x pos'] (.ListComp elt [⟨tg, iter, ifs, 0⟩] scope pos) spos) (tAsg (tLc wi g tt te (own.map (·.2))) (gName i)) as :=
  ⟨ps_setLc hc hN hy hyl hsw hi.pe ok (fun s H C cl fp => (hg s H C cl fp).pe) (fun s H C cl fp => (ht s H C cl fp).pe) (fun s H C cl fp => (he s H C cl fp).pe) hs,
   has (rd_lc hi.rd (hg s0 X.H_0 0 [] []).rd hsub (ht s0 X.H_0 0 [] []).rd (he s0 X.H_0 0 [] []).rd) rfl⟩
theorem qs_setLc {elt iter : Expr} {ifs : List Expr} {scope : Scope} {own : List (Str × Nat)} {wi : TI} {ai : AI} {g : TG} {ag : AG} {is : List Nat} {tt : TT} {at' : AT} {spos : Pos} (i : Nat) (hN : X.N.Nodup) (hi : QI X ρ tg iter wi ai) (ok : BlkOk X.N X.env.scope scope own)
    (hg : ∀ (s : Shared) (H : Hp) (C : Addr) (cl : List (Str × Addr)) (fp : List Addr), QG (X.blk s H scope (compEnvC scope cl C X.env) fp) ρ tg g ag is) (ht : ∀ (s : Shared) (H : Hp) (C : Addr) (cl : List (Str × Addr)) (fp : List Addr), QTs (X.blk s H scope (compEnvC scope cl C X.env) fp) ρ ifs tt at')
    (he : ∀ (s : Shared) (H : Hp) (C : Addr) (cl : List (Str × Addr)) (fp : List Addr), QE (X.blk s H scope (compEnvC scope cl C X.env) fp) ρ elt te ae) (s0 : Shared) (hsub : ∀ j ∈ is, j ∈ own.map (·.2) := by decide)
    (hy : X.N[i]? = some x := by rfl) (hyl : X.env.scope.names.lookup x = some .local := by rfl) (hsw : swapsWith (.ListComp elt [⟨tg, iter, ifs, 0⟩] scope pos) (some (.Name x pos')) spos.line X.env = pure true := by exact sw_true rfl rfl rfl (by decide +kernel)) (hc : X.calm = true := by rfl) (hs : ∀ x, foldedSetIterable iter X.env x = pure x := by intro _; rfl) :
    QS X ρ (.Assign [.Name x pos'] (.ListComp elt [⟨tg, iter, ifs, 0⟩] scope pos) spos) (tAsg (tLc wi g tt te (own.map (·.2))) (gName i)) (aAsg (aLc ai ag at' ae (own.map (·.2))) i) :=
  qs_setLcG i (fun h e => by subst e; exact rd_asg h) hN hi ok hg ht he hsub s0 hy hyl hsw hc hs
theorem qs_setLcF {elt iter : Expr} {ifs : List Expr} {scope : Scope} {own : List (Str × Nat)} {wi : TI} {ai : AI} {g : TG} {ag : AG} {is : List Nat} {tt : TT} {at' : AT} {spos : Pos} (i : Nat) (hN : X.N.Nodup) (hi : QI X ρ tg iter wi ai) (ok : BlkOk X.N X.env.scope scope own)
    (hg : ∀ (s : Shared) (H : Hp) (C : Addr) (cl : List (Str × Addr)) (fp : List Addr), QG (X.blk s H scope (compEnvC scope cl C X.env) fp) ρ tg g ag is) (ht : ∀ (s : Shared) (H : Hp) (C : Addr) (cl : List (Str × Addr)) (fp : List Addr), QTs (X.blk s H scope (compEnvC scope cl C X.env) fp) ρ ifs tt at')
    (he : ∀ (s : Shared) (H : Hp) (C : Addr) (cl : List (Str × Addr)) (fp : List Addr), QE (X.blk s H scope (compEnvC scope cl C X.env) fp) ρ elt te ae) (s0 : Shared) (hsub : ∀ j ∈ is, j ∈ own.map (·.2) := by decide)
    (hy : X.N[i]? = some x := by rfl) (hyl : X.env.scope.names.lookup x = some .local := by rfl) (hsw : swapsWith (.ListComp elt [⟨tg, iter, ifs, 0⟩] scope pos) (some (.Name x pos')) spos.line X.env = pure true := by exact sw_true rfl rfl rfl (by decide +kernel)) (hc : X.calm = true := by rfl) (hs : ∀ x, foldedSetIterable iter X.env x = pure x := by intro _; rfl) :
    QS X ρ (.Assign [.Name x pos'] (.ListComp elt [⟨tg, iter, ifs, 0⟩] scope pos) spos) (tAsg (tLc wi g tt te (own.map (·.2))) (gName i)) (aAsgF (aLc ai ag at' ae (own.map (·.2))) i) :=
  qs_setLcG i (fun h e => by subst e; exact rd_asgF h) hN hi ok hg ht he hsub s0 hy hyl hsw hc hs
theorem q_comp {elt iter : Expr} {ifs : List Expr} {scope : Scope} {own : List (Str × Nat)} {wi : TI} {ai : AI} {g : TG} {ag : AG} {is : List Nat} {tt : TT} {at' : AT} (hN : X.N.Nodup) (hi : QI X ρ tg iter wi ai) (ok : BlkOk X.N X.env.scope scope own)
    (hg : ∀ (s : Shared) (H : Hp) (C : Addr) (cl : List (Str × Addr)) (fp : List Addr), QG (X.blk s H scope (compEnvC scope cl C X.env) fp) ρ tg g ag is) (ht : ∀ (s : Shared) (H : Hp) (C : Addr) (cl : List (Str × Addr)) (fp : List Addr), QTs (X.blk s H scope (compEnvC scope cl C X.env) fp) ρ ifs tt at')
    (he : ∀ (s : Shared) (H : Hp) (C : Addr) (cl : List (Str × Addr)) (fp : List Addr), QE (X.blk s H scope (compEnvC scope cl C X.env) fp) ρ elt te ae) (s0 : Shared) (hsub : ∀ j ∈ is, j ∈ own.map (·.2) := by decide) (hc : X.calm = true := by rfl) (hs : ∀ x, foldedSetIterable iter X.env x = pure x := by intro _; rfl) :
    QE X ρ (.ListComp elt [⟨tg, iter, ifs, 0⟩] scope pos) (tLc wi g tt te (own.map (·.2))) (aLc ai ag at' ae (own.map (·.2))) := q_lc own rfl hN hi ok hg ht he hsub s0 hc hs
/-! a, b = e1, e2 -/
def sto (r : Ret) (Γ : Sl) (i : Nat) (k : Sl → Prop) : Prop := match r with
  | .tmp c => k (Γ.set i (.own c))
  | r => frz r Γ fun d Γ2 => k (Γ2.set i (.dat d))
/-- both made first; data alone -/
def aPar (aa : AA) (i j : Nat) (A : AEnds) (Γ : Sl) (M : Mem) : Prop := aa Γ M fun ds Γ1 M1 => match ds with
  | [d, e] => A.nx ((Γ1.set i (.dat d)).set j (.dat e)) M1
  | _ => False
theorem qs_par {y : Str} {tr : TA} {ar : AA} {px py pt spos : Pos} {kt k2 pt2} (i j : Nat) (hN : X.N.Nodup) (ha : QA X ρ [a, b] tr ar) (hi : X.N[i]? = some x := by rfl) (hj : X.N[j]? = some y := by rfl) (hij : i ≠ j := by decide)
    (hx : X.env.scope.names.lookup x = some .local := by rfl) (hy : X.env.scope.names.lookup y = some .local := by rfl) (hw : swappedStores [.Tuple [.Name x px, .Name y py] kt pt] (.Tuple [a, b] k2 pt2) X.env = pure (some [x, y]) := by rfl)
    (hs : swapsWithSole [.Tuple [.Name x px, .Name y py] kt pt] (.Tuple [a, b] k2 pt2) spos.line X.env = pure false := by rfl) (hc : X.calm = true := by rfl) : QS X ρ (.Assign [.Tuple [.Name x px, .Name y py] kt pt] (.Tuple [a, b] k2 pt2) spos) (tPar i j tr) (aPar ar i j) :=
  ⟨ps_par hc hN hi hj hij hx hy ha.pe hw hs, fun B σ H G Γ M A E k h s => ha.rd B σ H G Γ M _ _ k h fun vs H1 G1 Γ1 M1 ds k1 e1 rl h1 => by
    split at h1
    · rename_i d e
      obtain ⟨v, r, rfl, rv, rn⟩ := repL_cons.mp rl
      obtain ⟨u, r', rfl, ru, rn'⟩ := repL_cons.mp rn
      have := repL_nil.mp rn'; subst this
      exact ⟨v, u, rfl, s.nx _ H1 G1 _ M1 ((k1.setD rv).setD ru) h1⟩
    · exact h1.elim⟩
/-- the second a new list of its own -/
def aParO (aa ab : AE) (i j : Nat) (A : AEnds) (Γ : Sl) (M : Mem) : Prop := aa Γ M fun r Γ1 M1 => frz r Γ1 fun d Γ2 => ab Γ2 M1 fun r2 Γ3 M3 => match r2 with
  | .tmp c => A.nx ((Γ3.set i (.dat d)).set j (.own c)) M3
  | _ => False
theorem qs_parO {y : Str} {px py pt spos : Pos} {kt k2 pt2} (i j : Nat) (hN : X.N.Nodup) (ha : QE X ρ a ta aa) (hb : QE X ρ b tb ab) (na : starEach [a, b] X.env = (false, eval a X.env) :: starEach [b] X.env := by rfl) (nb : starEach [b] X.env = (false, eval b X.env) :: starEach [] X.env := by rfl) (hi : X.N[i]? = some x := by rfl) (hj : X.N[j]? = some y := by rfl) (hij : i ≠ j := by decide)
    (hx : X.env.scope.names.lookup x = some .local := by rfl) (hy : X.env.scope.names.lookup y = some .local := by rfl) (hw : swappedStores [.Tuple [.Name x px, .Name y py] kt pt] (.Tuple [a, b] k2 pt2) X.env = pure (some [x, y]) := by rfl)
    (hs : swapsWithSole [.Tuple [.Name x px, .Name y py] kt pt] (.Tuple [a, b] k2 pt2) spos.line X.env = pure false := by rfl) (hc : X.calm = true := by rfl) : QS X ρ (.Assign [.Tuple [.Name x px, .Name y py] kt pt] (.Tuple [a, b] k2 pt2) spos) (tPar i j (tCons ta (tCons tb tNil))) (aParO aa ab i j) :=
  ⟨ps_par hc hN hi hj hij hx hy (pa_cons ha.pe (pa_cons hb.pe pa_nil nb) na) hw hs, fun B σ H G Γ M A E k h s => ha.rd B σ H G Γ M _ _ k h fun v H1 G1 Γ1 M1 r k1 e1 rr h1 => by
    obtain ⟨G2, Γ2, d, k2, e2, rp, h2⟩ := frz_ok (H0 := H) k1 e1 rr h1
    refine hb.rd B σ H1 G2 Γ2 M1 _ _ k2 h2 fun u H3 G3 Γ3 M3 r3 k3 e3 rr3 h3 => ?_
    split at h3
    · rename_i c
      obtain ⟨p, rfl, h0, hb', hc', hm, hn⟩ := rr3
      exact ⟨v, _, rfl, s.nx _ H3 G3 _ M3 ((k3.setD (rp.mono e3.g)).setO hb' hc' hm fun z => hn (owned_set (fun c e => by cases e) z)) h3⟩
    · exact h3.elim⟩
/-! min, max of three -/
def aI3 (g : Int → Int → Int → Int) (aa : AA) (Γ : Sl) (M : Mem) (Q : Ret → Sl → Mem → Prop) : Prop := aa Γ M fun ds Γ1 M1 => match ds with
  | [.int i, .int j, .int l] => Q (.dat (.int (g i j l))) Γ1 M1
  | _ => False
theorem rd_I3 {f : V → V → V → Option V} {g : Int → Int → Int → Int} (hf : ∀ i j l, f (.int i) (.int j) (.int l) = some (.int (g i j l))) {tr : TA} {ar : AA} (ha : RdA K ρ tr ar) : RdE K ρ (tCB (rNuC3 f) tr) (aI3 g ar) := fun B σ H G Γ M Q R k h q =>
  ha B σ H G Γ M _ _ k h fun vs H1 G1 Γ1 M1 ds k1 e1 rl h1 => by
    split at h1
    · rename_i i j l
      obtain ⟨v, r, rfl, rv, rn⟩ := repL_cons.mp rl
      obtain ⟨u, r', rfl, ru, rn'⟩ := repL_cons.mp rn
      obtain ⟨t, r'', rfl, rt, rn''⟩ := repL_cons.mp rn'
      have := repL_nil.mp rn''; subst this
      rw [Rep] at rv ru rt
      subst rv; subst ru; subst rt
      exact ⟨_, _, _, _, rfl, hf i j l, q _ H1 G1 Γ1 M1 (.dat (.int _)) k1 e1 (by simp only [RepR, Rep]) h1⟩
    · exact h1.elim
def min3 (i j l : Int) : Int := let m := if j < i then j else i; if l < m then l else m
theorem q_min3 {p : Pos} {tr : TA} {ar : AA} (hm : X.mg "min" = none) (ha : QA X ρ [a, b, c] tr ar) (hc : X.calm = true := by rfl) (hg : Gl X "min" := by rfl) (he : starEach [a, b, c] X.env = (false, eval a X.env) :: starEach [b, c] X.env := by rfl) (hpl : (backTo pos (starEach [b, c] X.env)).any (·.1) = false := by rfl) :
    QE X ρ (.Call (.Name "min" p) [a, b, c] [] pos) (tCB (rNuC3 nuMin3) tr) (aI3 min3 ar) := ⟨pe_callB (call_min3Nu hc) hg hm (by decide +kernel) ha.pe (by decide) (by decide) he hpl, rd_I3 (fun i j l => by
      simp only [nuMin3, nuMin2, nuLt, nuCB, Option.map_some, Option.bind_some, min3]
      by_cases h1 : j < i <;> simp [h1] <;> split <;> simp_all) ha.rd⟩
end
/-! ### the law's def -/
section
variable {P : Program} {w : World} {K : PySem.W.Frag} {mg : Str → Option Value} {base : Heap}
def SLaw (S : List Int → Prop) : ASp := fun ds M Q => ∃ ns : List Int, ds = [.scr (ns.map .int)] ∧ M = [] ∧ S ns ∧ ∀ M', Q (.dat (.bl true)) M'
theorem ar_law (S : List Int → Prop) : Ar 1 (SLaw S) := fun _ _ _ ⟨_, e, _⟩ => by rw [e]; rfl
theorem law_fn {S : List Int → Prop} {k : Nat} {f : Addr} {fd : FuncData} {x : Str} (F : FnG P w K mg base CX0 k f fd [x] (spA K 1 (SLaw S))) : FnG P w K mg base CX0 k f fd [x] (spLaw K S) where
  arity := fun vs H Q E h => by obtain ⟨a, ns, rfl, _⟩ := h; rfl
  go := fun A o s H ar us vs Q E r gd e b rv h => F.go A o s H ar us vs Q E r gd e b rv (by
    obtain ⟨a, ns, rfl, sq, hS, hq⟩ := h
    refine ⟨H, [], [.scr (ns.map .int)], rfl, Ex.refl H, List.nodup_nil, (fun _ _ h => nomatch h), RepL.one (rep_scr.mpr ⟨a, _, rfl, sq, repL_map_int.mpr rfl⟩), fun r _ => r = .dat (.bl true), ⟨ns, rfl, rfl, hS, fun _ => rfl⟩, fun r M' v H' G' er _ rr => ?_⟩
    subst er
    have ev : v = .bl true := by have := rr; simp only [RetOk, Rep] at this; exact this
    subst ev
    exact hq H')
end
end Gw

namespace Gw
open PySem L2
variable {ρ : Ent}
theorem hu_big {k : Nat} {A : Around} (r : Room k A) : A.units + 100 < cLine := by have := r.un; omega
/-! ### a def that may be called: all that its callers want -/
structure Cal (P : Program) (w : World) (K : PySem.W.Frag) (mg : Str → Option Value) (base : Heap) (x : Str) (ps : List Str) (k : Nat) (S : ASp) : Prop where
  ex : ∃ f fd, FnG P w K mg base CX0 k f fd ps (spA K ps.length S) ∧ mg x = some (.ref f) ∧ PySem.W.keepIn K (.ref f) = true ∧ Binds K fd ps [] ∧ Ar ps.length S
structure KCal (P : Program) (w : World) (K : PySem.W.Frag) (mg : Str → Option Value) (base : Heap) (x : Str) (ps : List Str) (k : Nat) (S : ASp) : Prop where
  ex : ∃ f fd, FnG P w K mg base CX0 k f fd ps (spA K ps.length S) ∧ mg x = some (.ref f) ∧ PySem.W.keepIn K (.ref f) = true ∧
    (∀ (s : Shared) (ws : List Value), K.In s.heap → ws.length = ps.length → BindsTo s fd ⟨[], ps.zip ws⟩ (ps.zip ws)) ∧ Ar ps.length S
section
variable {X : Cx} {P : Program} {w : World} {K : PySem.W.Frag} {mg : Str → Option Value} {base : Heap} {k n : Nat} {ps : List Str} {S : ASp} {x : Str} {p pos : Pos} {a : Expr} {es : List Expr} {tr : TA} {ar : AA}
/-- the context runs over this text -/
structure At (X : Cx) (P : Program) (w : World) (K : PySem.W.Frag) (mg : Str → Option Value) (base : Heap) : Prop where
  prog : X.prog = P
  w : X.w = w
  K : X.K = K
  mg : X.mg = mg
  base : X.base = base
theorem q_callC (C : Cal P w K mg base x ps k S) (hr : Room k X.A) (gd : X.A.guards = some []) (ha : QA X ρ (a :: es) tr ar) (hX : At X P w K mg base := by exact ⟨rfl, rfl, rfl, rfl, rfl⟩) (hg : Gl X x := by rfl) (hdb : (x == ("__debug__" : Str)) = false := by decide)
    (he : starEach (a :: es) X.env = (false, eval a X.env) :: starEach es X.env := by rfl) (hpl : (backTo pos (starEach es X.env)).any (·.1) = false := by rfl) :
    QE X ρ (.Call (.Name x p) (a :: es) [] pos) (tCall (spA K ps.length S) [] E0 tr) (aCall S ar) := by
  obtain ⟨f, fd, F, hm, hk, hb, hn⟩ := C.ex
  obtain ⟨h1, h2, h3, h4, h5⟩ := hX
  subst h1 h2 h3 h4 h5
  exact q_call F hr gd hm hk hb hn ha hg hdb he hpl
theorem q_callC0 (C : Cal P w K mg base x ps k S) (hr : Room k X.A) (gd : X.A.guards = some []) (hX : At X P w K mg base := by exact ⟨rfl, rfl, rfl, rfl, rfl⟩) (hg : Gl X x := by rfl) (hdb : (x == ("__debug__" : Str)) = false := by decide) :
    QE X ρ (.Call (.Name x p) [] [] pos) (tCall (spA K ps.length S) [] E0 tNil) (aCall S aNil) := by
  obtain ⟨f, fd, F, hm, hk, hb, hn⟩ := C.ex
  obtain ⟨h1, h2, h3, h4, h5⟩ := hX
  subst h1 h2 h3 h4 h5
  exact q_call0 F hr gd hm hk hb hn hg hdb
theorem q_callCK {kws : List Keyword} {tk : TA} {ak : AA} (C : KCal P w K mg base x ps k S) (room : Room k X.A) (gd : X.A.guards = some []) (hkw : QK X ρ kws tk ak) (hX : At X P w K mg base := by exact ⟨rfl, rfl, rfl, rfl, rfl⟩) (hg : Gl X x := by rfl)
    (hall : (backToKw pos (keywordEach kws X.env)).all (·.1.isSome) = true := by rfl) (hks : (backToKw pos (keywordEach kws X.env)).filterMap (·.1) = ps := by rfl)
    (hdb : (x == ("__debug__" : Str)) = false := by decide) (hpl : ((backTo pos (starEach [] X.env)).any (·.1) || (backToKw pos (keywordEach kws X.env)).any (·.1.isNone)) = false := by rfl) :
    QE X ρ (.Call (.Name x p) [] kws pos) (tCall (spA K ps.length S) [] E0 tk) (aCall S ak) := by
  obtain ⟨f, fd, F, hm, hk, hb, hn⟩ := C.ex
  obtain ⟨h1, h2, h3, h4, h5⟩ := hX
  subst h1 h2 h3 h4 h5
  refine ⟨⟨fun pins s σ H Q I h => wpAny_Call_Name_kw (ld_glob I hg hm ?_ hdb)⟩, rd_call hn hkw.rd⟩
  refine PySem.W.callWith_KW0 (h₀ := X.base) I.ok.mod.kin hk hall (thn (hkw.pe.run pos pins s σ H _ I h) ?_) hpl
  rintro ws s2 ⟨zs, H2, I2, rz, q⟩
  rw [List.append_nil] at q
  rw [hks]
  exact ⟨I2.kIn, callG F room gd pass0 I2 (hb s2 ws I2.kIn (by rw [← rz.length]; exact F.arity _ _ _ _ q)) rz q⟩
end
/-! ### a new list is shared -/
section
variable {X : Cx} {a : Expr} {ta : TE} {aa : AE} {K : PySem.W.Frag} {B : Ent} {σ : St} {H G H1 G1 : Hp} {Γ Γ1 : Sl} {M M1 : Mem}
theorem Ok.share {p : Addr} {c : Cell} (k : Ok K ρ B σ H G Γ M) (hb : B.H p = none) (hc : Cel K H G p c) (hm : p ∉ dom M) (hn : ¬ owned σ Γ p) : Ok K ρ B σ H G Γ ((p, c) :: M) := by
  refine ⟨⟨k.st.g, k.st.fr, k.st.gn, fun x hx => ?_, k.st.nn⟩, k.ex, List.nodup_cons.mpr ⟨hm, k.nd⟩, fun x cx hx => ?_, k.dat, fun i ci h => ?_, k.dis, k.len, k.pb⟩
  · rcases List.mem_cons.mp hx with e | e
    · exact .inr (by rw [e]; exact hb)
    · exact k.st.mn x e
  · rcases List.mem_cons.mp hx with e | e
    · cases e; exact hc
    · exact k.ms x cx e
  · obtain ⟨q, h1, h2, h3, h4⟩ := k.own i ci h
    refine ⟨q, h1, h2, fun z => ?_, h4⟩
    rcases List.mem_cons.mp z with e | e
    · exact hn ⟨i, ci, h, by rw [show p = q from e.symm]; exact h1⟩
    · exact h3 e
def aSh (aa : AE) (Γ : Sl) (M : Mem) (Q : Ret → Sl → Mem → Prop) : Prop := aa Γ M fun r Γ1 M1 => match r with
  | .tmp c => ∀ p, p ∉ dom M1 → Q (.dat (.ref p)) Γ1 ((p, c) :: M1)
  | _ => False
theorem rd_sh (ha : RdE K ρ ta aa) : RdE K ρ ta (aSh aa) := fun B σ H G Γ M Q R k h q => ha B σ H G Γ M _ _ k h fun v H1 G1 Γ1 M1 r k1 e1 rr h1 => by
  split at h1
  · rename_i c
    obtain ⟨p, rfl, h0, hb, hc, hm, hn⟩ := rr
    refine q _ H1 G1 Γ1 _ (.dat (.ref p)) (k1.share hb hc hm hn) ⟨e1.g, fun x o hx g m n => ?_, e1.nn⟩ (by simp only [RepR, Rep]) (h1 p hm)
    obtain ⟨b1, b2, b3, b4⟩ := e1.tmp x o hx g m n
    refine ⟨b1, b2, fun z => ?_, b4⟩
    rcases List.mem_cons.mp z with e | e
    · subst e; rw [h0] at hx; cases hx
    · exact b3 e
  · exact h1.elim
theorem q_sh (h : QE X ρ a ta aa) : QE X ρ a ta (aSh aa) := ⟨h.pe, rd_sh h.rd⟩
def aShV (i : Nat) (Γ : Sl) (M : Mem) (Q : Ret → Sl → Mem → Prop) : Prop := match Γ[i]? with
  | some (.own c) => ∀ p, p ∉ dom M → Q (.dat (.ref p)) (Γ.set i (.dat (.ref p))) ((p, c) :: M)
  | _ => False
theorem rd_shV {i : Nat} : RdE K ρ (tVar i) (aShV i) := fun B σ H G Γ M Q R k h q => by
  unfold aShV at h
  split at h
  · rename_i c e1
    obtain ⟨p, s1, hb, hm, hc⟩ := k.own i c e1
    have own' : ∀ x, owned σ (Γ.set i .non) x → owned σ Γ x := fun x ⟨j, cj, h1, h2⟩ => by
      rcases set_get h1 with ⟨_, e⟩ | ⟨_, e⟩
      · cases e
      · exact ⟨j, cj, e, h2⟩
    have hn : ¬ owned σ (Γ.set i .non) p := fun ⟨j, cj, h1, h2⟩ => by
      rcases set_get h1 with ⟨_, e⟩ | ⟨ne, e⟩
      · cases e
      · exact ne (k.dis j i _ _ p e e1 h2 s1)
    obtain ⟨k0, _⟩ := k.agree (σ' := σ) (Γ' := Γ.set i .non) (fun j s h hs => by
      rcases set_get h with ⟨_, e⟩ | ⟨_, e⟩
      · exact (hs e).elim
      · exact ⟨e, rfl⟩) (by rw [List.length_set]; exact k.len)
    have k1 := (k0.share hb hc hm hn).setD (i := i) (d := .ref p) (v := .ref p) (by rw [Rep])
    have es : σ.set i (some (.ref p)) = σ := by
      apply List.ext_getElem?
      intro j
      rw [List.getElem?_set]
      split
      · rename_i ej
        subst ej
        rw [if_pos ((List.getElem?_eq_some_iff.mp s1).1), s1]
      · rfl
    rw [es, List.set_set] at k1
    refine ⟨_, s1, q _ H G _ _ (.dat (.ref p)) k1 ⟨Ex.refl G, fun x o hx g m n => ?_, fun _ z => z⟩ (by simp only [RepR, Rep]) (h p hm)⟩
    refine ⟨hx, g, fun z => ?_, fun ⟨j, cj, h1, h2⟩ => n ?_⟩
    · rcases List.mem_cons.mp z with e | e
      · exact n ⟨i, c, e1, by rw [show x = p from e]; exact s1⟩
      · exact m e
    · rcases set_get h1 with ⟨_, e⟩ | ⟨_, e⟩
      · cases e
      · exact ⟨j, cj, e, h2⟩
  · exact h.elim
theorem qv_sh (i : Nat) {x : Str} {pos : Pos} (hN : X.N[i]? = some x := by rfl) (hv : Vis X.env.scope x := by first | exact Or.inl rfl | exact Or.inr (Or.inl rfl) | exact Or.inr (Or.inr rfl)) (hd : (x == ("__debug__" : Str)) = false := by decide)
    (hcd : (x == ("__classdict__" : Str)) = false := by decide) : QE X ρ (.Name x pos) (tVar i) (aShV i) := ⟨pe_var hN hv hd hcd, rd_shV⟩
end
/-! ### texts compared -/
section
variable {X : Cx} {K : PySem.W.Frag}
def aEqS (f : Bool → Bool) (x : Ret) (y : Ret) (Γ : Sl) (M : Mem) (Q : Ret → Sl → Mem → Prop) : Prop := match x, y with
  | .dat (.str s), .dat (.str t) => Q (.dat (.bl (f (decide (s = t))))) Γ M
  | _, _ => False
theorem rd_eqS : RdO K ρ rEq (aEqS id) := by
  intro B σ H H1 H2 G Γ M rx ry x y Q R k r1 r2 h q
  unfold aEqS at h
  split at h
  · rename_i s t
    have e1 : x = .str s := by have := r1; simp only [RepR, Rep] at this; exact this
    have e2 : y = .str t := by have := r2; simp only [RepR, Rep] at this; exact this
    subst e1; subst e2
    refine ⟨rfl, q _ H G Γ M (.dat (.bl _)) k .refl ?_ h⟩
    simp only [RepR, Rep, id, V.str.injEq]
  · exact h.elim
theorem rd_neS : RdO K ρ rNe (aEqS not) := by
  intro B σ H H1 H2 G Γ M rx ry x y Q R k r1 r2 h q
  unfold aEqS at h
  split at h
  · rename_i s t
    have e1 : x = .str s := by have := r1; simp only [RepR, Rep] at this; exact this
    have e2 : y = .str t := by have := r2; simp only [RepR, Rep] at this; exact this
    subst e1; subst e2
    refine ⟨rfl, q _ H G Γ M (.dat (.bl _)) k .refl ?_ h⟩
    simp only [RepR, Rep, V.str.injEq]
  · exact h.elim
theorem c_eqS : CmpR X ρ .Eq rEq (aEqS id) := ⟨op_eq, rd_eqS⟩
theorem c_neS : CmpR X ρ .NotEq rNe (aEqS not) := ⟨op_ne, rd_neS⟩
end
end Gw

namespace Gw
open PySem L2
variable {ρ : Ent}
/-! ### loops read by what holds of the rest -/
theorem forL {g : AG} {body : AS} {A : AEnds} (I : List D → Sl → Mem → Prop) (hn : ∀ Γ M, I [] Γ M → A.nx Γ M)
    (hc : ∀ d ds Γ M (K : Sl → Mem → Prop), I (d :: ds) Γ M → (∀ Γ' M', I ds Γ' M' → K Γ' M') → g d Γ fun Γ1 => body { A with nx := K, ct := K, bk := A.nx } Γ1 M) : ∀ (ds : List D) {Γ : Sl} {M : Mem}, I ds Γ M → aForL g body ds A Γ M
  | [], Γ, M, h => hn Γ M h
  | d :: ds, Γ, M, h => hc d ds Γ M _ h fun Γ' M' h' => forL I hn hc ds h'
theorem lcL {g : AG} {tt : AT} {ae : AE} {vs : List Nat} {k : List D → Sl → Mem → Prop} (I : List D → List D → Sl → Mem → Prop) (hn : ∀ acc Γ M, I [] acc Γ M → k acc Γ M)
    (hc : ∀ d ds acc Γ M (K : List D → Sl → Mem → Prop), I (d :: ds) acc Γ M → (∀ acc' Γ' M', I ds acc' Γ' M' → K acc' Γ' M') → g d Γ fun Γ1 => tt Γ1 M fun b Γ2 M2 => if b = true then ae Γ2 M2 fun r Γ3 M3 => frz r Γ3 fun y Γ4 => acc.length < sizeLine ∧ K (acc ++ [y]) (wipeS Γ4 vs) M3
      else K acc (wipeS Γ2 vs) M2) : ∀ (ds acc : List D) {Γ : Sl} {M : Mem}, I ds acc Γ M → aLcL g tt ae vs k ds acc Γ M
  | [], acc, Γ, M, h => hn acc Γ M h
  | d :: ds, acc, Γ, M, h => hc d ds acc Γ M _ h fun acc' Γ' M' h' => lcL I hn hc ds acc' h'
theorem rngD_cons (lo : Int) (n : Nat) : rngD lo (n + 1) = .int lo :: rngD (lo + 1) n := by
  unfold rngD
  rw [List.range_succ_eq_map, List.map_cons, List.map_map]
  congr 1
  · simp
  · apply List.map_congr_left
    intro i _
    simp only [Function.comp_apply]
    congr 1
    omega
theorem rngD_zero (lo : Int) : rngD lo 0 = [] := rfl
/-- over a range: n turns are left -/
theorem forR {g : AG} {body : AS} {A : AEnds} (I : Int → Nat → Sl → Mem → Prop) (hn : ∀ i Γ M, I i 0 Γ M → A.nx Γ M)
    (hc : ∀ i n Γ M (K : Sl → Mem → Prop), I i (n + 1) Γ M → (∀ Γ' M', I (i + 1) n Γ' M' → K Γ' M') → g (.int i) Γ fun Γ1 => body { A with nx := K, ct := K, bk := A.nx } Γ1 M) : ∀ (n : Nat) {lo : Int} {Γ : Sl} {M : Mem}, I lo n Γ M → aForL g body (rngD lo n) A Γ M
  | 0, lo, Γ, M, h => hn lo Γ M h
  | n + 1, lo, Γ, M, h => by rw [rngD_cons]; exact hc lo n Γ M _ h fun Γ' M' h' => forR I hn hc n h'
theorem lcR {g : AG} {tt : AT} {ae : AE} {vs : List Nat} {k : List D → Sl → Mem → Prop} (I : Int → Nat → List D → Sl → Mem → Prop) (hn : ∀ i acc Γ M, I i 0 acc Γ M → k acc Γ M)
    (hc : ∀ i n acc Γ M (K : List D → Sl → Mem → Prop), I i (n + 1) acc Γ M → (∀ acc' Γ' M', I (i + 1) n acc' Γ' M' → K acc' Γ' M') → g (.int i) Γ fun Γ1 => tt Γ1 M fun b Γ2 M2 => if b = true then ae Γ2 M2 fun r Γ3 M3 => frz r Γ3 fun y Γ4 => acc.length < sizeLine ∧ K (acc ++ [y]) (wipeS Γ4 vs) M3
      else K acc (wipeS Γ2 vs) M2) : ∀ (n : Nat) {lo : Int} (acc : List D) {Γ : Sl} {M : Mem}, I lo n acc Γ M → aLcL g tt ae vs k (rngD lo n) acc Γ M
  | 0, lo, acc, Γ, M, h => hn lo acc Γ M h
  | n + 1, lo, acc, Γ, M, h => by rw [rngD_cons]; exact hc lo n acc Γ M _ h fun acc' Γ' M' h' => lcR I hn hc n acc' h'
/-! ### what can be compared, shown -/
theorem plainL_ints (ns : List Int) : plainL (ns.map .int) = true := by
  induction ns with
  | nil => rfl
  | cons n ns ih => rw [List.map_cons, plainL, plain, ih]; rfl
theorem toPyL_ints (ns : List Int) : toPyL (ns.map .int) = ns.map .int := by
  induction ns with
  | nil => rfl
  | cons n ns ih => rw [List.map_cons, toPyL, toPy, ih]; rfl
theorem lay_ints (ns : List Int) : PyData.canLayAll0 (ns.map .int) = true := by
  induction ns with
  | nil => simp [PyData.canLayAll0]
  | cons n ns ih => rw [List.map_cons, PyData.canLayAll0, PyData.canLay0, ih]; rfl
theorem depth_ints (ns : List Int) : PyData.depthAll (ns.map .int) = 0 := by
  induction ns with
  | nil => simp [PyData.depthAll]
  | cons n ns ih => rw [List.map_cons, PyData.depthAll, PyData.depth, ih]; rfl
theorem cmp_ints_l (ns : List Int) : cmpOk (.lst (ns.map .int)) = true := by
  simp only [cmpOk, plain, toPy, SeqAt.shaped, PyData.canLay0, PyData.depth, plainL_ints, toPyL_ints, lay_ints, depth_ints]; decide
theorem cmp_ints_t (ns : List Int) : cmpOk (.tup (ns.map .int)) = true := by
  simp only [cmpOk, plain, toPy, SeqAt.shaped, PyData.canLay0, PyData.depth, plainL_ints, toPyL_ints, lay_ints, depth_ints]; decide
theorem cmp_int (i : Int) : cmpOk (.int i) = true := by simp [cmpOk, plain, toPy, SeqAt.shaped, PyData.canLay0, PyData.depth]
theorem cmp_nil_l : cmpOk (.lst []) = true := cmp_ints_l []
theorem cmp_nil_t : cmpOk (.tup []) = true := cmp_ints_t []
theorem eqD_int (i j : Int) : eqD (.int i) (.int j) = decide (i = j) := by simp [eqD, toPy, PyData.eqv, Bool.beq_eq_decide_eq]
theorem eqD_ints_l (ns ms : List Int) : eqD (.lst (ns.map .int)) (.lst (ms.map .int)) = decide (ns = ms) := by
  simp only [eqD, toPy, PyData.eqv, toPyL_ints]
  induction ns generalizing ms with
  | nil => cases ms <;> simp [PyData.eqvAll]
  | cons n ns ih => cases ms with
    | nil => simp [PyData.eqvAll]
    | cons m ms => simp [PyData.eqvAll, PyData.eqv, ih, Bool.beq_eq_decide_eq]
theorem eqD_ints_t (ns ms : List Int) : eqD (.tup (ns.map .int)) (.tup (ms.map .int)) = decide (ns = ms) := by
  have := eqD_ints_l ns ms
  simpa only [eqD, toPy, PyData.eqv] using this
theorem eqD_nil_l (ns : List Int) : eqD (.lst (ns.map .int)) (.lst []) = decide (ns = []) := eqD_ints_l ns []
theorem eqD_nil_t (ns : List Int) : eqD (.tup (ns.map .int)) (.tup []) = decide (ns = []) := eqD_ints_t ns []
/-! ### items -/
theorem ixN_of {n : Nat} {i : Int} (h0 : 0 ≤ i) (h1 : i < n) : ixN n i = some i.toNat := by
  obtain ⟨j, rfl⟩ : ∃ j : Nat, i = (j : Int) := ⟨i.toNat, by omega⟩
  simp only [ixN]
  split <;> first | omega | simp
theorem atI_in {α : Type} {xs : List α} {i : Int} (h0 : 0 ≤ i) (h1 : i < xs.length) : ∃ x, atI xs i = some x ∧ xs[i.toNat]? = some x := by
  unfold atI
  rw [ixN_of h0 h1]
  have : i.toNat < xs.length := by omega
  exact ⟨xs[i.toNat], by simp [this], by simp [this]⟩
end Gw
namespace Gw
theorem size_val : PySem.sizeLine = 16777216 := by decide
end Gw
namespace Gw
open PySem L2
theorem lk_self {a : Addr} {c : Cell} {M : Mem} : List.lookup a ((a, c) :: M) = some c := by rw [List.lookup_cons, beq_self_eq_true]
theorem lk_ne {a b : Addr} {c : Cell} {M : Mem} (h : (b == a) = false) : List.lookup b ((a, c) :: M) = List.lookup b M := by rw [List.lookup_cons, h]
theorem at0 {α : Type} {x : α} {xs : List α} : atI (x :: xs) 0 = some x := by simp [atI, ixN]
theorem at1 {α : Type} {x y : α} {xs : List α} : atI (x :: y :: xs) 1 = some y := by
  unfold atI
  rw [ixN_of (by omega) (by simp only [List.length_cons]; omega)]; rfl
theorem at2 {α : Type} {x y z : α} {xs : List α} : atI (x :: y :: z :: xs) 2 = some z := by
  unfold atI
  rw [ixN_of (by omega) (by simp only [List.length_cons]; omega)]; rfl
theorem at3 {α : Type} {x y z u : α} {xs : List α} : atI (x :: y :: z :: u :: xs) 3 = some u := by
  unfold atI
  rw [ixN_of (by omega) (by simp only [List.length_cons]; omega)]; rfl
theorem at4 {α : Type} {x y z u v : α} {xs : List α} : atI (x :: y :: z :: u :: v :: xs) 4 = some v := by
  unfold atI
  rw [ixN_of (by omega) (by simp only [List.length_cons]; omega)]; rfl
theorem ix0 {n : Nat} : ixN (n + 1) 0 = some 0 := ixN_of (by omega) (by omega)
theorem ix1 {n : Nat} : ixN (n + 2) 1 = some 1 := ixN_of (by omega) (by omega)
theorem ix2 {n : Nat} : ixN (n + 3) 2 = some 2 := ixN_of (by omega) (by omega)
theorem sx0 {n : Nat} : seqIndex? 0 (n + 1) = some 0 := by simp [seqIndex?]
theorem mput_self {a : Addr} {c c' : Cell} {M : Mem} (h : a ∉ dom M) : mput ((a, c) :: M) a c' = (a, c') :: M := by
  unfold mput
  rw [List.map_cons]
  congr 1
  · simp
  · conv => rhs; rw [← List.map_id M]
    apply List.map_congr_left
    intro x hx
    have : x.1 ≠ a := fun e => h (e ▸ List.mem_map.mpr ⟨x, hx, rfl⟩)
    simp [this]
theorem mput_ne {a b : Addr} {c c' : Cell} {M : Mem} (h : a ≠ b) : mput ((a, c) :: M) b c' = (a, c) :: mput M b c' := by
  unfold mput
  rw [List.map_cons]
  simp [h]
theorem mput_nil {a : Addr} {c' : Cell} : mput [] a c' = [] := rfl
end Gw
namespace Gw
theorem ends_d {Q : Ret → Mem → Prop} {d : D} {Γ : Sl} {M : Mem} : (endsOf Q).rt (.dat d) Γ M = Q (.dat d) M := rfl
theorem ends_t {Q : Ret → Mem → Prop} {c : Cell} {Γ : Sl} {M : Mem} : (endsOf Q).rt (.tmp c) Γ M = Q (.tmp c) M := rfl
theorem ends_n {Q : Ret → Mem → Prop} {Γ : Sl} {M : Mem} : (endsOf Q).nx Γ M = Q (.dat .non) M := rfl
theorem ends_v {Q : Ret → Mem → Prop} {i : Nat} {c : Cell} {Γ : Sl} {M : Mem} (h : Γ[i]? = some (.own c)) : (endsOf Q).rt (.var i) Γ M = Q (.tmp c) M := by simp [endsOf, ret, h]
end Gw
namespace Gw
open PySem L2
theorem eqD_l00 : eqD (.lst []) (.lst []) = true := by simp [eqD, toPy, toPyL, PyData.eqv, PyData.eqvAll]
theorem eqD_l10 {d : D} {ds : List D} : eqD (.lst (d :: ds)) (.lst []) = false := by simp [eqD, toPy, toPyL, PyData.eqv, PyData.eqvAll]
theorem eqD_t00 : eqD (.tup []) (.tup []) = true := by simp [eqD, toPy, toPyL, PyData.eqv, PyData.eqvAll]
theorem eqD_t10 {d : D} {ds : List D} : eqD (.tup (d :: ds)) (.tup []) = false := by simp [eqD, toPy, toPyL, PyData.eqv, PyData.eqvAll]
theorem fmod_lo {a b : Int} (h : 0 < b) : 0 ≤ a.fmod b := Int.fmod_nonneg_of_pos a h
theorem fmod_hi {a b : Int} (h : 0 < b) : a.fmod b < b := Int.fmod_lt_of_pos a h
theorem log2_le {x k : Nat} (h : x < 2 ^ k) (hk : 0 < k) : x.log2 < k := by
  rcases Nat.eq_zero_or_pos x with z | z
  · rw [z]; simpa using hk
  · exact (Nat.log2_lt (by omega)).mpr h
theorem div_ok {i j : Int} (h0 : 0 < j) (h1 : j ≤ 4294967295) : CDivW i j := ⟨h0, by
  have := log2_le (x := j.natAbs) (k := 32) (by omega) (by decide)
  omega⟩
theorem mul_l {i j : Int} (h0 : -18446744073709551616 < i) (h1 : i < 18446744073709551616) : CM i j := .inl (.inl ⟨by omega, by omega⟩)
theorem mul_r {i j : Int} (h0 : -18446744073709551616 < j) (h1 : j < 18446744073709551616) : CM i j := .inl (.inr ⟨by omega, by omega⟩)
end Gw
namespace Gw
open PySem L2
def cutI (xs : List Int) (lo hi : Option Int) : List Int := (xs.drop (HT.sIx xs.length 0 lo)).take (HT.sIx xs.length xs.length hi - HT.sIx xs.length 0 lo)
theorem cutD_ints (xs : List Int) (lo hi : Option Int) : cutD (xs.map .int) lo hi = (cutI xs lo hi).map .int := by
  unfold cutD cutI
  rw [List.length_map, List.map_take, List.map_drop]
theorem cutI_len (xs : List Int) (lo hi : Option Int) : (cutI xs lo hi).length ≤ xs.length := by
  unfold cutI
  rw [List.length_take, List.length_drop]
  omega
theorem map_eq_cons {α : Type} {f : α → D} {xs : List α} {d : D} {ds : List D} (h : d :: ds = xs.map f) : ∃ x r, xs = x :: r ∧ d = f x ∧ ds = r.map f := by
  cases xs with
  | nil => cases h
  | cons x r => cases h; exact ⟨x, r, rfl, rfl, rfl⟩
theorem map_eq_nil {α : Type} {f : α → D} {xs : List α} (h : [] = xs.map f) : xs = [] := by cases xs with | nil => rfl | cons _ _ => cases h
end Gw

namespace Gw
open PySem L2
variable {ρ : Ent}
section
variable {X : Cx} {a b c : Expr} {ta tb tc te : TE} {aa ab ac ae : AE} {pos : Pos} {K : PySem.W.Frag} {i : Nat} {x : Str} {pos' : Pos} {B : Ent} {σ : St} {H G H1 G1 H2 G2 : Hp} {Γ Γ1 Γ2 : Sl} {M M1 M2 : Mem}
/-! a, b, c = e1, e2, e3 -/
def aPar3 (aa : AA) (i j l : Nat) (A : AEnds) (Γ : Sl) (M : Mem) : Prop := aa Γ M fun ds Γ1 M1 => match ds with
  | [d, e, f] => A.nx (((Γ1.set i (.dat d)).set j (.dat e)).set l (.dat f)) M1
  | _ => False
theorem qs_par3 {y z : Str} {tr : TA} {ar : AA} {px py pz pt spos : Pos} {kt k2 pt2} (i j l : Nat) (hN : X.N.Nodup) (ha : QA X ρ [a, b, c] tr ar) (hi : X.N[i]? = some x := by rfl) (hj : X.N[j]? = some y := by rfl) (hl : X.N[l]? = some z := by rfl) (hij : i ≠ j := by decide) (hil : i ≠ l := by decide) (hjl : j ≠ l := by decide)
    (hx : X.env.scope.names.lookup x = some .local := by rfl) (hy : X.env.scope.names.lookup y = some .local := by rfl) (hz : X.env.scope.names.lookup z = some .local := by rfl) (hw : swappedStores [.Tuple [.Name x px, .Name y py, .Name z pz] kt pt] (.Tuple [a, b, c] k2 pt2) X.env = pure (some [x, y, z]) := by rfl)
    (hs : swapsWithSole [.Tuple [.Name x px, .Name y py, .Name z pz] kt pt] (.Tuple [a, b, c] k2 pt2) spos.line X.env = pure false := by rfl) (hc : X.calm = true := by rfl) :
    QS X ρ (.Assign [.Tuple [.Name x px, .Name y py, .Name z pz] kt pt] (.Tuple [a, b, c] k2 pt2) spos) (tPar3 i j l tr) (aPar3 ar i j l) :=
  ⟨ps_par3 hc hN hi hj hl hij hil hjl hx hy hz ha.pe hw hs, fun B σ H G Γ M A E k h s => ha.rd B σ H G Γ M _ _ k h fun vs H1 G1 Γ1 M1 ds k1 e1 rl h1 => by
    split at h1
    · rename_i d e f
      obtain ⟨v, r, rfl, rv, rn⟩ := repL_cons.mp rl
      obtain ⟨u, r', rfl, ru, rn'⟩ := repL_cons.mp rn
      obtain ⟨t, r'', rfl, rt, rn''⟩ := repL_cons.mp rn'
      have := repL_nil.mp rn''; subst this
      exact ⟨v, u, t, rfl, s.nx _ H1 G1 _ M1 (((k1.setD rv).setD ru).setD rt) h1⟩
    · exact h1.elim⟩
/-! x *= e -/
def aAugC (i : Nat) (C : Int → Int → Prop) (f : Int → Int → Int) (aa : AE) (A : AEnds) (Γ : Sl) (M : Mem) : Prop := match Γ[i]? with
  | some (.dat (.int n)) => aa Γ M fun r Γ1 M1 => match r with
    | .dat (.int m) => C n m ∧ A.nx (Γ1.set i (.dat (.int (f n m)))) M1
    | _ => False
  | _ => False
theorem rd_augC {i : Nat} {C : Int → Int → Prop} {f : Int → Int → Int} (ha : RdE K ρ ta aa) : RdS K ρ (tAug i ta (rI C fun i j => .int (f i j))) (aAugC i C f aa) := fun B σ H G Γ M A E k h s => by
  unfold aAugC at h
  split at h
  · rename_i n e1
    obtain ⟨v, h1, h2⟩ := k.dat i _ e1
    have ev : v = .int n := by rw [Rep] at h2; exact h2
    refine ⟨v, h1, ha B σ H G Γ M _ _ k h fun u H1 G1 Γ1 M1 r k1 e2 rr hq => ?_⟩
    split at hq
    · rename_i m
      have eu : u = .int m := by have := rr; simp only [RepR, Rep] at this; exact this
      exact ⟨n, m, ev, eu, hq.1, s.nx _ H1 G1 _ M1 (k1.setD (by rw [Rep])) hq.2⟩
    · exact hq.elim
  · exact h.elim
theorem qs_augM (i : Nat) (hN : X.N.Nodup) (h : QE X ρ a ta aa) (hi : X.N[i]? = some x := by rfl) (hx : Loc X.env.scope x := by first | exact Or.inl rfl | exact Or.inr rfl) (hf : X.fn x = true ∨ X.env.scope.names.lookup x = some .local := by first | exact .inl rfl | exact .inr rfl | assumption) :
    QS X ρ (.AugAssign (.Name x pos') .Mult a pos) (tAug i ta (rI CMul fun i j => .int (i * j))) (aAugC i CMul (fun i j => i * j) aa) := ⟨ps_aug hN hi hx h.pe iop_mul hf, rd_augC h.rd⟩
/-! great powers -/
def CPowW (i j : Int) : Prop := 0 ≤ j ∧ (Builtin.Int.intBits i : Int) * j ≤ 2 ^ 27
theorem op_powW : OpR X (binaryOp .Pow) (rI CPowW fun i j => .int (i ^ j.toNat)) := opI fun _ _ _ _ _ _ _ hc q => PyProof.Rows.pow_int hc.1 hc.2 q
theorem q_powW (ha : QE X ρ a ta aa) (hb : QE X ρ b tb ab) : QE X ρ (.BinOp a .Pow b pos) (tOp (rI CPowW fun i j => .int (i ^ j.toNat)) ta tb) (aOp (aIC CPowW fun i j => .int (i ^ j.toNat)) aa ab) := q_op op_powW (rd_IC fun _ _ _ => by rw [Rep]) ha hb
/-! a constant of the module -/
structure Glob (K : PySem.W.Frag) (mg : Str → Option Value) (x : Str) (d : D) : Prop where
  ex : ∃ v u, mg x = some u ∧ RelV v u ∧ ∀ G, Rep K G d v
def tAny (K : PySem.W.Frag) (d : D) : TE := fun _ H Q => ∀ v, (∀ G, Rep K G d v) → Q v H
theorem q_glob {mg : Str → Option Value} {d : D} (h : Glob K mg x d) (hg : Gl X x := by rfl) (hmg : X.mg = mg := by rfl) (hK : X.K = K := by rfl) (hd : (x == ("__debug__" : Str)) = false := by decide) : QE X ρ (.Name x pos) (tAny K d) (aC d) := by
  subst hK; subst hmg
  obtain ⟨v, u, hm, r, hr⟩ := h.ex
  refine ⟨⟨fun pins s σ H Q I q => (pe_glob hg hm r hd).run pins s σ H Q I (q v hr)⟩, fun B σ H G Γ M Q R k h' q => fun v hv => q v H G Γ M (.dat d) k .refl (hv G) h'⟩
theorem glob_int {mg : Str → Option Value} {n : Int} {t : Tok} (h : mg x = some (.int n t)) : Glob K mg x (.int n) := ⟨.int n, _, h, ⟨t, rfl⟩, fun _ => by rw [Rep]⟩
theorem glob_tup {mg : Str → Option Value} {p : Addr} {ds : List D} {o : Obj} {its : Array Value} {n : Nat} {xs : List V} (h : mg x = some (.ref p)) (hl : K.lookup p = some o) (hc : o.cls = .type "tuple") (hd : o.data = .seq its n) (hz : its.size ≤ sizeLine) (hv : Vals xs its.toList) (hr : ∀ G, RepL K G ds xs) :
    Glob K mg x (.tup ds) := ⟨.ref p, _, h, rfl, fun G => rep_tup.mpr ⟨p, xs, rfl, .inr ⟨o, its, n, hl, hc, hd, hz, hv⟩, hr G⟩⟩
/-! calls with keywords in any order, behind places or not -/
def permL {α : Type} (π : List Nat) (xs : List α) : List α := π.filterMap (xs[·]?)
theorem RepL.perm {ds : List D} {vs : List V} (π : List Nat) (h : RepL K G ds vs) : RepL K G (permL π ds) (permL π vs) := by
  induction π with
  | nil => exact repL_nil.mpr rfl
  | cons n π ih =>
    unfold permL at *
    cases e : ds[n]? with
    | none =>
      have e2 : vs[n]? = none := by rw [List.getElem?_eq_none_iff] at *; rw [h.length]; exact e
      rw [List.filterMap_cons, List.filterMap_cons, e, e2]; exact ih
    | some d =>
      obtain ⟨v, e2, r⟩ := h.get e
      rw [List.filterMap_cons, List.filterMap_cons, e, e2]; exact repL_cons.mpr ⟨v, _, rfl, r, ih⟩
theorem vals_perm {vs : List V} {us : List Value} (π : List Nat) (h : Vals vs us) : Vals (permL π vs) (permL π us) := by
  induction π with
  | nil => exact .nil
  | cons n π ih =>
    unfold permL at *
    cases e : vs[n]? with
    | none =>
      have e2 : us[n]? = none := by rw [List.getElem?_eq_none_iff] at *; rw [← h.length]; exact e
      rw [List.filterMap_cons, List.filterMap_cons, e, e2]; exact ih
    | some d =>
      obtain ⟨v, e2, r⟩ := h.get e
      rw [List.filterMap_cons, List.filterMap_cons, e, e2]; exact .cons r ih
structure PCal (P : Program) (w : World) (K : PySem.W.Frag) (mg : Str → Option Value) (base : Heap) (x : Str) (ps : List Str) (m : Nat) (ks : List Str) (π : List Nat) (k : Nat) (S : ASp) : Prop where
  ex : ∃ f fd, FnG P w K mg base CX0 k f fd ps (spA K ps.length S) ∧ mg x = some (.ref f) ∧ PySem.W.keepIn K (.ref f) = true ∧
    (∀ (s : Shared) (us ws : List Value), K.In s.heap → us.length = m → ws.length = ks.length → BindsTo s fd ⟨us, ks.zip ws⟩ (ps.zip (permL π (us ++ ws)))) ∧ Ar ps.length S
def tCallP (sp : Sp) (m n : Nat) (π : List Nat) (t tk : TA) : TE := fun σ H Q => t σ H fun vs H1 => tk σ H1 fun zs H2 => vs.length = m ∧ zs.length = n ∧ sp (permL π (vs ++ zs)) H2 Q E0
def aCallP (S : ASp) (m n : Nat) (π : List Nat) (aa ak : AA) (Γ : Sl) (M : Mem) (Q : Ret → Sl → Mem → Prop) : Prop := aa Γ M fun ds Γ1 M1 => ak Γ1 M1 fun es Γ2 M2 => ds.length = m ∧ es.length = n ∧ ap S (permL π (ds ++ es)) M2 (fun r M3 => Q r Γ2 M3) ⟨⟩
theorem rd_callP {n m n' : Nat} {π : List Nat} {S : ASp} {tr tk : TA} {ar ak : AA} (hn : Ar n S) (ha : RdA K ρ tr ar) (hk : RdA K ρ tk ak) : RdE K ρ (tCallP (spA K n S) m n' π tr tk) (aCallP S m n' π ar ak) := by
  intro B σ H G Γ M Q R k h q
  refine ha B σ H G Γ M _ _ k h fun vs H1 G1 Γ1 M1 ds k1 e1 rl h1 => ?_
  refine hk B σ H1 G1 Γ1 M1 _ _ k1 h1 fun zs H2 G2 Γ2 M2 es k2 e2 rz h2 => ?_
  obtain ⟨l1, l2, h2⟩ := h2
  have rp := ((rl.mono e2.g).append rz).perm π
  refine ⟨by rw [rl.length]; exact l1, by rw [rz.length]; exact l2, G2, M2, _, by rw [rp.length]; exact hn _ _ _ h2, k2.ex, k2.nd, k2.ms, rp, _, h2, fun r M' v H' G' hq p rr => ?_⟩
  obtain ⟨k3, e3, r3⟩ := k2.call p rr
  exact q _ H' G' Γ2 M' r k3 ((e1.trans e2).trans e3) (r3.old (fun x z => e1.nn x (e2.nn x z))) hq
section
variable {P : Program} {w : World} {mg : Str → Option Value} {base : Heap} {k n m : Nat} {ps ks : List Str} {π : List Nat} {S : ASp} {p : Pos} {es : List Expr} {tr tk : TA} {ar ak : AA} {kws : List Keyword}
theorem q_callP0 (C : PCal P w K mg base x ps 0 ks π k S) (room : Room k X.A) (gd : X.A.guards = some []) (hkw : QK X ρ kws tk ak) (hX : At X P w K mg base := by exact ⟨rfl, rfl, rfl, rfl, rfl⟩) (hg : Gl X x := by rfl)
    (hall : (backToKw pos (keywordEach kws X.env)).all (·.1.isSome) = true := by rfl) (hks : (backToKw pos (keywordEach kws X.env)).filterMap (·.1) = ks := by rfl)
    (hdb : (x == ("__debug__" : Str)) = false := by decide) (hpl : ((backTo pos (starEach [] X.env)).any (·.1) || (backToKw pos (keywordEach kws X.env)).any (·.1.isNone)) = false := by rfl) :
    QE X ρ (.Call (.Name x p) [] kws pos) (tCallP (spA K ps.length S) 0 ks.length π tNil tk) (aCallP S 0 ks.length π aNil ak) := by
  obtain ⟨f, fd, F, hm, hk, hb, hn⟩ := C.ex
  obtain ⟨h1, h2, h3, h4, h5⟩ := hX
  subst h1 h2 h3 h4 h5
  refine ⟨⟨fun pins s σ H Q I h => wpAny_Call_Name_kw (ld_glob I hg hm ?_ hdb)⟩, rd_callP hn rd_nil hkw.rd⟩
  refine PySem.W.callWith_KW0 (h₀ := X.base) I.ok.mod.kin hk hall (thn (hkw.pe.run pos pins s σ H _ I h) ?_) hpl
  rintro ws s2 ⟨zs, H2, I2, rz, l1, l2, q⟩
  rw [hks]
  exact ⟨I2.kIn, callG F room gd pass0 I2 (hb s2 [] ws I2.kIn rfl (by rw [← rz.length]; exact l2)) (vals_perm π (.append .nil rz)) q⟩
theorem q_callP (C : PCal P w K mg base x ps m ks π k S) (room : Room k X.A) (gd : X.A.guards = some []) (ha : QA X ρ (a :: es) tr ar) (hkw : QK X ρ kws tk ak) (hX : At X P w K mg base := by exact ⟨rfl, rfl, rfl, rfl, rfl⟩) (hg : Gl X x := by rfl)
    (hall : (backToKw pos (keywordEach kws X.env)).all (·.1.isSome) = true := by rfl) (hks : (backToKw pos (keywordEach kws X.env)).filterMap (·.1) = ks := by rfl) (he : starEach (a :: es) X.env = (false, eval a X.env) :: starEach es X.env := by rfl)
    (hdb : (x == ("__debug__" : Str)) = false := by decide) (hpl : ((backTo pos (starEach (a :: es) X.env)).any (·.1) || (backToKw pos (keywordEach kws X.env)).any (·.1.isNone)) = false := by rfl) :
    QE X ρ (.Call (.Name x p) (a :: es) kws pos) (tCallP (spA K ps.length S) m ks.length π tr tk) (aCallP S m ks.length π ar ak) := by
  obtain ⟨f, fd, F, hm, hk, hb, hn⟩ := C.ex
  obtain ⟨h1, h2, h3, h4, h5⟩ := hX
  subst h1 h2 h3 h4 h5
  refine ⟨⟨fun pins s σ H Q I h => wpAny_Call_Name_kw (ld_glob I hg hm ?_ hdb)⟩, rd_callP hn ha.rd hkw.rd⟩
  refine PySem.W.callWith_KW (h₀ := X.base) I.ok.mod.kin hk hall (thn (ha.pe.run pos pins s σ H _ I h) ?_) hpl he
  rintro us s1 ⟨vs, H1, I1, r1, q1⟩
  refine thn (hkw.pe.run pos pins s1 σ H1 _ I1 q1) ?_
  rintro ws s2 ⟨zs, H2, I2, rz, l1, l2, q⟩
  rw [hks]
  exact ⟨I2.kIn, callG F room gd pass0 I2 (hb s2 us ws I2.kIn (by rw [← r1.length]; exact l1) (by rw [← rz.length]; exact l2)) (vals_perm π (r1.append rz)) q⟩
end
end
end Gw

namespace Gw
open PySem L2
variable {ρ : Ent}
/-! ### how long a shown thing is at most -/
mutual
def wid : D → Nat
  | .non => 4
  | .bl _ => 5
  | .int i => i.natAbs.log2 + 2
  | .str x => (reprText x).length
  | .tup ds => widL ds + 3
  | .lst ds => widL ds + 3
  | .scr ds => widL ds + 3
  | .ref _ => 4
  | .dct _ _ => 4
  | .exc _ _ _ => 4
def widL : List D → Nat
  | [] => 0
  | d :: ds => wid d + 2 + widL ds
end
mutual
theorem shown_wid : ∀ d : D, (toPy d).shown.length ≤ wid d
  | .non => by rw [toPy, PyData.shown, wid]; decide
  | .bl b => by rw [toPy, PyData.shown, wid]; cases b <;> decide
  | .int i => by
    rw [toPy, PyData.shown, wid]
    have h := int_text_length_le (a := i) (k := i.natAbs.log2 + 1) (by omega) (by omega)
    have e : (Str.ofString (toString i)).length = (toString i).length := by
      rw [Str.ofString_eq_toList]
      show ((toString i).toList.map Char.toNat).toArray.size = _
      rw [List.size_toArray, List.length_map]; exact String.length_toList
    rw [e]; exact h
  | .str x => by rw [toPy, PyData.shown, wid]; exact Nat.le_refl _
  | .ref _ => by rw [toPy, PyData.shown, wid]; decide
  | .dct _ _ => by rw [toPy, PyData.shown, wid]; decide
  | .exc _ _ _ => by rw [toPy, PyData.shown, wid]; decide
  | .tup ds => by
    rw [toPy, PyData.shown, wid]
    have := tupleText_len_le (PyData.shownAll (toPyL ds))
    have := shownL_wid ds
    omega
  | .lst ds => by
    rw [toPy, PyData.shown, wid]
    have := listText_len_le (PyData.shownAll (toPyL ds))
    have := shownL_wid ds
    omega
  | .scr ds => by
    rw [toPy, PyData.shown, wid]
    have := listText_len_le (PyData.shownAll (toPyL ds))
    have := shownL_wid ds
    omega
theorem shownL_wid : ∀ ds : List D, ((PyData.shownAll (toPyL ds)).map (·.length)).sum + 2 * (PyData.shownAll (toPyL ds)).length ≤ widL ds
  | [] => by rw [toPyL, PyData.shownAll, widL]; decide
  | d :: ds => by
    rw [toPyL, PyData.shownAll, widL, List.map_cons, List.sum_cons, List.length_cons]
    have := shown_wid d
    have := shownL_wid ds
    omega
end
/-! ints that are not too great -/
mutual
def fine : D → Bool
  | .int i => decide (i.natAbs.log2 < 1920)
  | .tup ds => fineL ds
  | .lst ds => fineL ds
  | .scr ds => fineL ds
  | .ref _ => false
  | .dct _ _ => false
  | .exc _ _ _ => false
  | .non => true
  | .bl _ => true
  | .str _ => true
def fineL : List D → Bool
  | [] => true
  | d :: ds => fine d && fineL ds
end
mutual
theorem fine_plain : ∀ {d : D}, fine d = true → plain d = true ∧ (toPy d).showable = true
  | .int i, h => by rw [fine] at h; rw [plain, toPy, PyData.showable]; exact ⟨rfl, h⟩
  | .tup ds, h => by rw [fine] at h; rw [plain, toPy, PyData.showable]; exact fineL_plain h
  | .lst ds, h => by rw [fine] at h; rw [plain, toPy, PyData.showable]; exact fineL_plain h
  | .scr ds, h => by rw [fine] at h; rw [plain, toPy, PyData.showable]; exact fineL_plain h
  | .ref _, h => by rw [fine] at h; cases h
  | .dct _ _, h => by rw [fine] at h; cases h
  | .exc _ _ _, h => by rw [fine] at h; cases h
  | .non, _ => by rw [plain, toPy, PyData.showable]; exact ⟨rfl, rfl⟩
  | .bl _, _ => by rw [plain, toPy, PyData.showable]; exact ⟨rfl, rfl⟩
  | .str _, _ => by rw [plain, toPy, PyData.showable]; exact ⟨rfl, rfl⟩
theorem fineL_plain : ∀ {ds : List D}, fineL ds = true → plainL ds = true ∧ PyData.showableAll (toPyL ds) = true
  | [], _ => by rw [plainL, toPyL, PyData.showableAll]; exact ⟨rfl, rfl⟩
  | d :: ds, h => by
    rw [fineL, Bool.and_eq_true] at h
    obtain ⟨a1, a2⟩ := fine_plain h.1
    obtain ⟨b1, b2⟩ := fineL_plain h.2
    rw [plainL, toPyL, PyData.showableAll, a1, a2, b1, b2]; exact ⟨rfl, rfl⟩
end
mutual
def dep : D → Nat
  | .tup ds => depL ds + 1
  | .lst ds => depL ds + 1
  | .scr ds => depL ds + 1
  | .int _ => 0
  | .ref _ => 0
  | .dct _ _ => 0
  | .exc _ _ _ => 0
  | .non => 0
  | .bl _ => 0
  | .str _ => 0
def depL : List D → Nat
  | [] => 0
  | d :: ds => max (dep d) (depL ds)
end
mutual
theorem dep_py : ∀ d : D, (toPy d).depth = dep d
  | .tup ds => by rw [toPy, PyData.depth, dep, depL_py]
  | .lst ds => by rw [toPy, PyData.depth, dep, depL_py]
  | .scr ds => by rw [toPy, PyData.depth, dep, depL_py]
  | .int _ => by rw [toPy, PyData.depth, dep]
  | .ref _ => by rw [toPy, PyData.depth, dep]
  | .dct _ _ => by rw [toPy, PyData.depth, dep]
  | .exc _ _ _ => by rw [toPy, PyData.depth, dep]
  | .non => by rw [toPy, PyData.depth, dep]
  | .bl _ => by rw [toPy, PyData.depth, dep]
  | .str _ => by rw [toPy, PyData.depth, dep]
theorem depL_py : ∀ ds : List D, PyData.depthAll (toPyL ds) = depL ds
  | [] => by rw [toPyL, PyData.depthAll, depL]
  | d :: ds => by rw [toPyL, PyData.depthAll, depL, dep_py, depL_py]
end
theorem sh_of {d : D} (h1 : fine d = true) (h2 : dep d ≤ 64) (h3 : wid d ≤ 16777216) : shOk d = true := by
  obtain ⟨a, b⟩ := fine_plain h1
  have := shown_wid d
  simp only [shOk, a, b, dep_py, Bool.true_and, Bool.and_eq_true, decide_eq_true_eq, size_val]
  omega
/-! ### comparing data: texts in it are texts -/
mutual
def safe : D → Bool
  | .str x => PyData.strOk x
  | .tup ds => safeL ds
  | .lst ds => safeL ds
  | .scr ds => safeL ds
  | .ref _ => false
  | .dct _ _ => false
  | .exc _ _ _ => false
  | .int _ => true
  | .non => true
  | .bl _ => true
def safeL : List D → Bool
  | [] => true
  | d :: ds => safe d && safeL ds
end
mutual
theorem safe_lay : ∀ {d : D}, safe d = true → plain d = true ∧ (toPy d).canLay0 = true
  | .int i, _ => by rw [plain, toPy, PyData.canLay0]; exact ⟨rfl, rfl⟩
  | .str x, h => by rw [safe] at h; rw [plain, toPy, PyData.canLay0]; exact ⟨rfl, h⟩
  | .tup ds, h => by rw [safe] at h; rw [plain, toPy, PyData.canLay0]; exact safeL_lay h
  | .lst ds, h => by rw [safe] at h; rw [plain, toPy, PyData.canLay0]; exact safeL_lay h
  | .scr ds, h => by rw [safe] at h; rw [plain, toPy, PyData.canLay0]; exact safeL_lay h
  | .ref _, h => by rw [safe] at h; cases h
  | .dct _ _, h => by rw [safe] at h; cases h
  | .exc _ _ _, h => by rw [safe] at h; cases h
  | .non, _ => by rw [plain, toPy, PyData.canLay0]; exact ⟨rfl, rfl⟩
  | .bl _, _ => by rw [plain, toPy, PyData.canLay0]; exact ⟨rfl, rfl⟩
theorem safeL_lay : ∀ {ds : List D}, safeL ds = true → plainL ds = true ∧ PyData.canLayAll0 (toPyL ds) = true
  | [], _ => by rw [plainL, toPyL, PyData.canLayAll0]; exact ⟨rfl, rfl⟩
  | d :: ds, h => by
    rw [safeL, Bool.and_eq_true] at h
    obtain ⟨a1, a2⟩ := safe_lay h.1
    obtain ⟨b1, b2⟩ := safeL_lay h.2
    rw [plainL, toPyL, PyData.canLayAll0, a1, a2, b1, b2]; exact ⟨rfl, rfl⟩
end
theorem cmp_of {d : D} (h1 : safe d = true) (h2 : dep d ≤ 64) : cmpOk d = true := by
  obtain ⟨a, b⟩ := safe_lay h1
  simp only [cmpOk, SeqAt.shaped, a, b, dep_py, Bool.true_and, decide_eq_true_eq]
  exact h2
mutual
theorem eqD_refl : ∀ {d : D}, plain d = true → eqD d d = true
  | .non, _ => by simp [eqD, toPy, PyData.eqv]
  | .bl b, _ => by simp [eqD, toPy, PyData.eqv]
  | .int i, _ => by simp [eqD, toPy, PyData.eqv]
  | .str x, _ => by simp [eqD, toPy, PyData.eqv]
  | .ref _, h => by rw [plain] at h; cases h
  | .dct _ _, h => by rw [plain] at h; cases h
  | .exc _ _ _, h => by rw [plain] at h; cases h
  | .tup ds, h => by rw [plain] at h; unfold eqD; rw [toPy, PyData.eqv]; exact eqDL_refl h
  | .lst ds, h => by rw [plain] at h; unfold eqD; rw [toPy, PyData.eqv]; exact eqDL_refl h
  | .scr ds, h => by rw [plain] at h; unfold eqD; rw [toPy, PyData.eqv]; exact eqDL_refl h
theorem eqDL_refl : ∀ {ds : List D}, plainL ds = true → PyData.eqvAll (toPyL ds) (toPyL ds) = true
  | [], _ => by rw [toPyL, PyData.eqvAll]
  | d :: ds, h => by
    rw [plainL, Bool.and_eq_true] at h
    have a := eqD_refl h.1
    unfold eqD at a
    rw [toPyL, PyData.eqvAll, a, eqDL_refl h.2]; rfl
end
/-! shown things are texts -/
theorem ok_app {x y : Str} (h1 : PyData.strOk x = true) (h2 : PyData.strOk y = true) : PyData.strOk (x ++ y) = true := by
  unfold PyData.strOk at *
  show (x.cps ++ y.cps).all _ = true
  rw [Array.all_append, h1, h2]; rfl
theorem ok_str (s : String) : PyData.strOk (Str.ofString s) = true := by
  unfold PyData.strOk
  rw [Str.ofString_eq_toList, List.all_toArray, List.all_eq_true]
  intro c hc
  obtain ⟨ch, _, rfl⟩ := List.mem_map.mp hc
  have h := ch.valid
  simp only [decide_eq_true_eq]
  show ch.val.toNat < 1114112
  rcases h with h | h
  · have : ch.val.toNat < 0xd800 := h
    omega
  · exact h.2
theorem ok_join {sep : Str} (hs : PyData.strOk sep = true) : ∀ ts : List Str, (∀ t ∈ ts, PyData.strOk t = true) → PyData.strOk (Str.join sep ts) = true
  | [], _ => by simp [Str.join, Str.empty, PyData.strOk]
  | [t], h => h t List.mem_cons_self
  | t :: u :: r, h => by
    show PyData.strOk (t ++ sep ++ Str.join sep (u :: r)) = true
    exact ok_app (ok_app (h t List.mem_cons_self) hs) (ok_join hs (u :: r) fun x hx => h x (List.mem_cons_of_mem _ hx))
theorem ok_from : ∀ (ts : List Str) (k : Nat) (acc : Str), PyData.strOk acc = true → (∀ t ∈ ts, PyData.strOk t = true) → PyData.strOk (textFrom k acc ts) = true
  | [], _, _, h, _ => h
  | t :: r, k, acc, h, hr => by
    show PyData.strOk (textFrom (k + 1) (acc ++ (if k > 0 then ", " else "" : String) ++ t) r) = true
    exact ok_from r (k + 1) _ (ok_app (ok_app h (ok_str _)) (hr t List.mem_cons_self)) fun x hx => hr x (List.mem_cons_of_mem _ hx)
mutual
def safeS : D → Bool
  | .str x => PyData.strOk (reprText x)
  | .tup ds => safeSL ds
  | .lst ds => safeSL ds
  | .scr ds => safeSL ds
  | .ref _ => true
  | .dct _ _ => true
  | .exc _ _ _ => true
  | .int _ => true
  | .non => true
  | .bl _ => true
def safeSL : List D → Bool
  | [] => true
  | d :: ds => safeS d && safeSL ds
end
mutual
theorem ok_shown : ∀ {d : D}, safeS d = true → PyData.strOk (toPy d).shown = true
  | .non, _ => by rw [toPy, PyData.shown]; exact ok_str _
  | .ref _, _ => by rw [toPy, PyData.shown]; exact ok_str _
  | .dct _ _, _ => by rw [toPy, PyData.shown]; exact ok_str _
  | .exc _ _ _, _ => by rw [toPy, PyData.shown]; exact ok_str _
  | .bl b, _ => by rw [toPy, PyData.shown]; cases b <;> exact ok_str _
  | .int i, _ => by rw [toPy, PyData.shown]; exact ok_str _
  | .str x, h => by rw [safeS] at h; rw [toPy, PyData.shown]; exact h
  | .tup ds, h => by
    rw [safeS] at h; rw [toPy, PyData.shown]
    exact ok_app (ok_app (ok_str _) (ok_join (ok_str _) _ (okL_shown h))) (ok_str _)
  | .lst ds, h => by
    rw [safeS] at h; rw [toPy, PyData.shown]
    exact ok_app (ok_from _ _ _ (ok_str _) (okL_shown h)) (ok_str _)
  | .scr ds, h => by
    rw [safeS] at h; rw [toPy, PyData.shown]
    exact ok_app (ok_from _ _ _ (ok_str _) (okL_shown h)) (ok_str _)
theorem okL_shown : ∀ {ds : List D}, safeSL ds = true → ∀ t ∈ PyData.shownAll (toPyL ds), PyData.strOk t = true
  | [], _, t, h => by rw [toPyL, PyData.shownAll] at h; cases h
  | d :: ds, hs, t, h => by
    rw [safeSL, Bool.and_eq_true] at hs
    rw [toPyL, PyData.shownAll] at h
    rcases List.mem_cons.mp h with e | e
    · rw [e]; exact ok_shown hs.1
    · exact okL_shown hs.2 t e
end
/-! ints in a row -/
theorem wid_ints {k : Nat} : ∀ {ns : List Int}, (∀ n ∈ ns, n.natAbs < 2 ^ k) → 0 < k → widL (ns.map .int) ≤ ns.length * (k + 4)
  | [], _, _ => by simp [widL]
  | n :: ns, h, hk => by
    rw [List.map_cons, widL, wid, List.length_cons]
    have a := log2_le (h n List.mem_cons_self) hk
    have b := wid_ints (fun x hx => h x (List.mem_cons_of_mem _ hx)) hk (ns := ns)
    rw [Nat.add_mul]; omega
theorem fine_ints {k : Nat} : ∀ {ns : List Int}, (∀ n ∈ ns, n.natAbs < 2 ^ k) → 0 < k → k ≤ 1920 → fineL (ns.map .int) = true
  | [], _, _, _ => by simp [fineL]
  | n :: ns, h, hk, hk2 => by
    rw [List.map_cons, fineL, fine]
    have a := log2_le (h n List.mem_cons_self) hk
    rw [fine_ints (fun x hx => h x (List.mem_cons_of_mem _ hx)) hk hk2, Bool.and_true, decide_eq_true_eq]; omega
theorem dep_ints : ∀ ns : List Int, depL (ns.map .int) = 0
  | [] => by simp [depL]
  | n :: ns => by rw [List.map_cons, depL, dep, dep_ints ns]; rfl
theorem safeS_ints : ∀ ns : List Int, safeSL (ns.map .int) = true
  | [] => by simp [safeSL]
  | n :: ns => by rw [List.map_cons, safeSL, safeS, safeS_ints ns]; rfl
theorem sh_ints_t {k : Nat} {ns : List Int} (h : ∀ n ∈ ns, n.natAbs < 2 ^ k) (hk : 0 < k) (hk2 : k ≤ 1920) (hl : ns.length ≤ 4000) : shOk (.tup (ns.map .int)) = true := by
  refine sh_of (by rw [fine]; exact fine_ints h hk hk2) (by rw [dep, dep_ints]; decide) ?_
  rw [wid]
  have a := wid_ints h hk
  have b : ns.length * (k + 4) ≤ 4000 * 1924 := Nat.mul_le_mul hl (by omega)
  omega
end Gw

namespace Gw
open PySem L2 RZ RT
variable {ρ : Ent}
section
variable {X : Cx} {tg a b c : Expr} {ta tb tc te : TE} {aa ab ac ae : AE} {pos : Pos} {K : PySem.W.Frag} {i : Nat} {x : Str} {pos' : Pos} {B : Ent} {σ : St} {H G H1 G1 H2 G2 : Hp} {Γ Γ1 Γ2 : Sl} {M M1 M2 : Mem}
/-! ### zip, reversed, enumerate -/
def zipD (xs ys : List D) : List D := List.zipWith (fun x y => D.tup [x, y]) xs ys
def aIzip (ar : AA) (Γ : Sl) (M : Mem) (Q : List D → Sl → Mem → Prop) : Prop := ar Γ M fun ds Γ1 M1 => match ds with
  | [.tup xs, .tup ys] => Q (zipD xs ys) Γ1 M1
  | [.lst xs, .lst ys] => Q (zipD xs ys) Γ1 M1
  | _ => False
theorem zipD_get {xs ys : List D} {i : Nat} {d : D} (h : (zipD xs ys)[i]? = some d) : ∃ x y, xs[i]? = some x ∧ ys[i]? = some y ∧ d = .tup [x, y] := by
  unfold zipD at h
  rw [List.getElem?_zipWith] at h
  cases e1 : xs[i]? with
  | none => rw [e1] at h; simp at h
  | some x =>
    cases e2 : ys[i]? with
    | none => rw [e1, e2] at h; simp at h
    | some y => rw [e1, e2] at h; simp at h; exact ⟨x, y, rfl, rfl, h.symm⟩
theorem walk_zipT {a b : Addr} {xs ys : List V} {n : Nat} (hn : n = min xs.length ys.length) : Walk (ItzT K a b) n (fun H => SqT K H a xs ∧ SqT K H b ys) (YPair (fun i => xs[i]?) (fun i => ys[i]?)) := by
  subst hn
  refine ⟨fun i _ hi q => ?_, fun _ q => ⟨xs, ys, q.1, q.2, by omega⟩, fun i H v H' _ q y => ?_⟩
  · have l1 : i < xs.length := by omega
    have l2 : i < ys.length := by omega
    exact ⟨xs, ys, xs[i], ys[i], q.1, q.2, by simp [l1], by simp [l2]⟩
  · obtain ⟨T, u, z, e1, e2, e3, e4, e5⟩ := y
    exact ⟨T, u, z, e1, e2, e3, e4 xs q.1, e5 ys q.2⟩
theorem yld_pair {xs ys : List D} {us ws : List V} {i : Nat} {H' : Hp} {v : V} {d : D} (r1 : RepL K G xs us) (r2 : RepL K G ys ws) (hd : (zipD xs ys)[i]? = some d) (y : YPair (fun i => us[i]?) (fun i => ws[i]?) i H v H') : Yld K G H H' d v := by
  obtain ⟨d1, d2, e1, e2, rfl⟩ := zipD_get hd
  obtain ⟨T, u, z, ev, hT, eH, f1, f2⟩ := y
  obtain ⟨u', g1, q1⟩ := r1.get e1
  obtain ⟨z', g2, q2⟩ := r2.get e2
  have f1 : us[i]? = some u := f1
  have f2 : ws[i]? = some z := f2
  have eu : u' = u := by rw [g1] at f1; exact Option.some.inj f1
  have ez : z' = z := by rw [g2] at f2; exact Option.some.inj f2
  subst eu; subst ez
  exact .inr ⟨T, [u', z'], [d1, d2], ev, hT, eH, rfl, repL_cons.mpr ⟨_, _, rfl, q1, RepL.one q2⟩⟩
theorem qi_zip {tpos p : Pos} {elts : List Expr} {kk : Nat} {tr : TA} {ar : AA} (hm : X.mg "zip" = none) (ha : QA X ρ [a, b] tr ar) (hg : Gl X "zip" := by rfl) (hs : starEach [a, b] X.env = (false, eval a X.env) :: starEach [b] X.env := by rfl) (hpl : (backTo pos (starEach [b] X.env)).any (·.1) = false := by rfl) (hK : X.K = K := by rfl) :
    QI X ρ (.Tuple elts kk tpos) (.Call (.Name "zip" p) [a, b] [] pos) (iZipA K tr) (aIzip ar) := by
  subst hK
  refine ⟨pi_zipA hg hm ha.pe hs hpl, fun B σ H G Γ M Q R k hh q => ha.rd B σ H G Γ M _ _ k hh fun vs H1 G1 Γ1 M1 ds k1 e1 rl h1 => ?_⟩
  split at h1
  · rename_i xs ys
    obtain ⟨v, r, rfl, rv, rn⟩ := repL_cons.mp rl
    obtain ⟨u, r', rfl, ru, rn'⟩ := repL_cons.mp rn
    have := repL_nil.mp rn'; subst this
    obtain ⟨p1, us, rfl, s1, l1⟩ := rep_tup.mp rv
    obtain ⟨p2, ws, rfl, s2, l2⟩ := rep_tup.mp ru
    refine ⟨p1, p2, us, ws, rfl, .inr ⟨ex_t k1.ex s1, ex_t k1.ex s2, q _ H1 G1 Γ1 M1 _ k1 e1 ⟨_, _, walk_zipT ?_, fun H e => ⟨ex_t e s1, ex_t e s2⟩, fun i H x H' d hd _ y => yld_pair l1 l2 hd y⟩ h1⟩⟩
    unfold zipD; rw [List.length_zipWith, l1.length, l2.length]
  · rename_i xs ys
    obtain ⟨v, r, rfl, rv, rn⟩ := repL_cons.mp rl
    obtain ⟨u, r', rfl, ru, rn'⟩ := repL_cons.mp rn
    have := repL_nil.mp rn'; subst this
    obtain ⟨p1, us, rfl, s1, l1⟩ := rep_lst.mp rv
    obtain ⟨p2, ws, rfl, s2, l2⟩ := rep_lst.mp ru
    refine ⟨p1, p2, us, ws, rfl, .inl ⟨SqL.of (k1.ex _ _ s1), SqL.of (k1.ex _ _ s2), q _ H1 G1 Γ1 M1 _ k1 e1 ⟨_, _, walk_zip ?_, fun H e => ⟨SqL.of (e _ _ s1), SqL.of (e _ _ s2)⟩, fun i H x H' d hd _ y => yld_pair l1 l2 hd y⟩ h1⟩⟩
    unfold zipD; rw [List.length_zipWith, l1.length, l2.length]
  · exact h1.elim
def aIrev (aa : AE) (Γ : Sl) (M : Mem) (Q : List D → Sl → Mem → Prop) : Prop := aa Γ M fun r Γ1 M1 => frz r Γ1 fun d Γ2 => match d with
  | .lst ds => Q ds.reverse Γ2 M1
  | .tup ds => Q ds.reverse Γ2 M1
  | _ => False
theorem walk_revT {p : Addr} {xs : List V} : Walk (ItvT K p xs.length) xs.length (fun H => SqT K H p xs) (fun i H x H' => H' = H ∧ xs[xs.length - 1 - i]? = some x) :=
  ⟨fun i _ hi q => ⟨hi, xs, xs[xs.length - 1 - i]'(by omega), q, by simp [show xs.length - 1 - i < xs.length by omega]⟩, fun _ _ => Nat.le_refl _, fun _ _ _ _ _ q y => ⟨y.1, y.2 xs q⟩⟩
theorem rev_get {ds : List D} {vs : List V} {i : Nat} {d : D} {v : V} (r : RepL K G ds vs) (hd : ds.reverse[i]? = some d) (hv : vs[vs.length - 1 - i]? = some v) : Rep K G d v := by
  have hi : i < ds.length := by simpa using (List.getElem?_eq_some_iff.mp hd).1
  rw [List.getElem?_reverse hi] at hd
  obtain ⟨u, e, q⟩ := r.get hd
  rw [r.length] at hv
  rw [e] at hv; cases hv; exact q
theorem qi_rev {p : Pos} (hm : X.mg "reversed" = none) (h : QE X ρ a ta aa) (hg : Gl X "reversed" := by rfl) (hs : starEach [a] X.env = (false, eval a X.env) :: starEach [] X.env := by rfl) (hK : X.K = K := by rfl) :
    QI X ρ tg (.Call (.Name "reversed" p) [a] [] pos) (iRevA K ta) (aIrev aa) := by
  subst hK
  refine ⟨pi_revA hg hm h.pe hs, fun B σ H G Γ M Q R k hh q => h.rd B σ H G Γ M _ _ k hh fun v H1 G1 Γ1 M1 r k1 e1 rr h1 => ?_⟩
  obtain ⟨G2, Γ2, d, k2, e2, rp, h2⟩ := frz_ok (H0 := H) k1 e1 rr h1
  split at h2
  · rename_i ds
    obtain ⟨p, xs, rfl, hp, rl⟩ := rep_lst.mp rp
    refine ⟨p, xs, rfl, .inl ⟨SqL.of (k2.ex _ _ hp), q _ H1 G2 Γ2 M1 _ k2 e2 ⟨fun H => SqL X.K H p xs, fun i H x H' => H' = H ∧ xs[xs.length - 1 - i]? = some x, ?_, fun H e => SqL.of (e _ _ hp), fun i H x H' d hd _ y => .inl ⟨y.1, rev_get rl hd y.2⟩⟩ h2⟩⟩
    rw [List.length_reverse, ← rl.length]; exact walk_rev
  · rename_i ds
    obtain ⟨p, xs, rfl, hp, rl⟩ := rep_tup.mp rp
    refine ⟨p, xs, rfl, .inr ⟨ex_t k2.ex hp, q _ H1 G2 Γ2 M1 _ k2 e2 ⟨fun H => SqT X.K H p xs, fun i H x H' => H' = H ∧ xs[xs.length - 1 - i]? = some x, ?_, fun H e => ex_t e hp, fun i H x H' d hd _ y => .inl ⟨y.1, rev_get rl hd y.2⟩⟩ h2⟩⟩
    rw [List.length_reverse, ← rl.length]; exact walk_revT
  · exact h2.elim
def enumD (k : Nat) : List D → List D
  | [] => []
  | d :: ds => .tup [.int k, d] :: enumD (k + 1) ds
theorem enumD_get : ∀ {ds : List D} {k i : Nat} {d : D}, (enumD k ds)[i]? = some d → ∃ x, ds[i]? = some x ∧ d = .tup [.int (k + i : Nat), x]
  | [], k, i, d, h => by simp [enumD] at h
  | y :: ds, k, 0, d, h => by simp [enumD] at h; exact ⟨y, rfl, by simpa using h.symm⟩
  | y :: ds, k, i + 1, d, h => by
    rw [enumD, List.getElem?_cons_succ] at h
    obtain ⟨x, e1, e2⟩ := enumD_get h
    exact ⟨x, by simpa using e1, by rw [e2, show k + 1 + i = k + (i + 1) by omega]⟩
theorem enumD_len : ∀ (ds : List D) (k : Nat), (enumD k ds).length = ds.length
  | [], _ => rfl
  | d :: ds, k => by rw [enumD, List.length_cons, enumD_len, List.length_cons]
def aIenum (ar : AA) (Γ : Sl) (M : Mem) (Q : List D → Sl → Mem → Prop) : Prop := ar Γ M fun ds Γ1 M1 => match ds with
  | [.lst xs] => Q (enumD 0 xs) Γ1 M1
  | _ => False
theorem qi_enumL {tpos p : Pos} {elts : List Expr} {kk : Nat} {tr : TA} {ar : AA} (hm : X.mg "enumerate" = none) (ha : QA X ρ [a] tr ar) (hg : Gl X "enumerate" := by rfl) (hs : starEach [a] X.env = [(false, eval a X.env)] := by rfl) (hK : X.K = K := by rfl) :
    QI X ρ (.Tuple elts kk tpos) (.Call (.Name "enumerate" p) [a] [] pos) (iEnum K tr) (aIenum ar) := by
  subst hK
  refine ⟨pi_enum hg hm ha.pe hs, fun B σ H G Γ M Q R k hh q => ha.rd B σ H G Γ M _ _ k hh fun vs H1 G1 Γ1 M1 ds k1 e1 rl h1 => ?_⟩
  split at h1
  · rename_i xs
    obtain ⟨v, r, rfl, rv, rn⟩ := repL_cons.mp rl
    have := repL_nil.mp rn; subst this
    obtain ⟨p1, us, rfl, s1, l1⟩ := rep_lst.mp rv
    refine ⟨p1, us, rfl, SqL.of (k1.ex _ _ s1), q _ H1 G1 Γ1 M1 _ k1 e1 ⟨fun H => SqL X.K H p1 us, YPair (fun i => some (.int (i : Nat))) (fun i => us[i]?), ?_, fun H e => SqL.of (e _ _ s1), fun i H x H' d hd _ y => ?_⟩ h1⟩
    · rw [enumD_len, ← l1.length]; exact walk_enum
    · obtain ⟨z, e3, rfl⟩ := enumD_get hd
      obtain ⟨T, u, w, ev, hT, eH, f1, f2⟩ := y
      obtain ⟨u', g1, q1⟩ := l1.get e3
      have f1 : some (V.int (i : Nat)) = some u := f1
      have f2 : us[i]? = some w := f2
      have ew : u' = w := by rw [g1] at f2; exact Option.some.inj f2
      subst ew
      cases f1
      exact .inr ⟨T, [.int (i : Nat), u'], [.int (0 + i : Nat), z], ev, hT, eH, rfl, repL_cons.mpr ⟨_, _, rfl, by rw [Rep, Nat.zero_add], RepL.one q1⟩⟩
  · exact h1.elim
/-! ### x[i] += e -/
def rGetL (K : PySem.W.Frag) : V → V → Hp → VK → Prop := fun x y H Q => ∃ p xs i v, x = .ref p ∧ y = .int i ∧ SqL K H p xs ∧ 0 ≤ i ∧ xs[i.toNat]? = some v ∧ Q v H
theorem get_list : PGet X (rGetL X.K) := by
  intro pins s σ H o i ov iv Q I ro ri h
  obtain ⟨p, xs, n, v, rfl, rfl, sq, h0, hv, q⟩ := h
  cases ro
  obtain ⟨t, rfl⟩ := ri
  obtain ⟨its, r, pl, hz⟩ := I.list sq
  obtain ⟨u, eu, ru⟩ := r.get hv
  have hl : n.toNat < its.length := (List.getElem?_eq_some_iff.mp eu).1
  have hl2 := r.length
  refine wpAny_getItem_list pl.isList h0 ?_ (by simpa using eu) ⟨v, H, I, ru, q⟩
  have : sizeLine < 2 ^ 63 := by decide
  omega
def aAugX (ao ai ae : AE) (A : AEnds) (Γ : Sl) (M : Mem) : Prop := ao Γ M fun ro Γ1 M1 => ai Γ1 M1 fun ri Γ2 M2 => match ri, lget ro Γ2 M2 with
  | .dat (.int i), some ds => 0 ≤ i ∧ match ds[i.toNat]? with
    | some (.int n) => ae Γ2 M2 fun re Γ3 M3 => match re, lget ro Γ3 M3 with
      | .dat (.int m), some ds' => match ixN ds'.length i with
        | some j => lput ro (ds'.set j (.int (n + m))) Γ3 M3 fun Γ4 M4 => A.nx Γ4 M4
        | none => False
      | _, _ => False
    | _ => False
  | _, _ => False
theorem qs_augX {o i : Expr} {to ti : TE} {ao ai : AE} (ho : QE X ρ o to ao) (hi : QE X ρ i ti ai) (h : QE X ρ a ta aa)
    (has : ∀ ov iv new, augStore i ov iv new = (do holding [new, ov, iv] (setItem ov iv new); release [new, ov, iv] []; pure .next) := by intros; rfl) (hK : X.K = K := by rfl) :
    QS X ρ (.AugAssign (.Subscript o i pos') .Add a pos) (tAugS to ti ta (rGetL K) (ipI fun i j => i + j) rSetL) (aAugX ao ai aa) := by
  subst hK
  refine ⟨ps_augS ho.pe hi.pe get_list h.pe ip_add set_list has, fun B σ H G Γ M A E k hh s => ?_⟩
  refine ho.rd B σ H G Γ M _ _ k hh fun ov H1 G1 Γ1 M1 ro k1 e1 rro h1 => ?_
  refine hi.rd B σ H1 G1 Γ1 M1 _ _ k1 h1 fun iv H2 G2 Γ2 M2 ri k2 e2 rri h2 => ?_
  split at h2
  · rename_i n ds hd
    obtain ⟨h0, h2⟩ := h2
    have rro2 := rro.es e2
    obtain ⟨l, xs, rfl, hl, hx⟩ := lget_ok k2 rro2 hd
    have ei : iv = .int n := by have := rri; simp only [RepR, Rep] at this; exact this
    split at h2
    · rename_i old hold
      obtain ⟨v, hv, rv⟩ := hx.get hold
      rw [Rep] at rv
      refine ⟨l, xs, n, v, rfl, ei, SqL.of hl, h0, hv, h.rd B σ H2 G2 Γ2 M2 _ _ k2 h2 fun u H3 G3 Γ3 M3 re k3 e3 rre h3 => ?_⟩
      split at h3
      · rename_i m ds' hd'
        have eu : u = .int m := by have := rre; simp only [RepR, Rep] at this; exact this
        have rro3 := rro2.es e3
        obtain ⟨l', xs', e', hl', hx'⟩ := lget_ok k3 rro3 hd'
        cases e'
        split at h3
        · rename_i j hj
          obtain ⟨Γ5, M5, k5, e5, hq⟩ := lput_ok k3 rro3 hd' (hx'.set j (show Rep X.K G3 (.int (old + m)) (.int (old + m)) by rw [Rep])) h3
          exact ⟨old, m, rv, eu, l, xs', n, j, rfl, ei, hl', by rw [hx'.length]; exact hj, s.nx σ _ G3 Γ5 M5 k5 hq⟩
        · exact h3.elim
      · exact h3.elim
    · exact h2.elim
  · exact h2.elim
end
end Gw
namespace Gw
open PySem L2
/-- a, b = e, [..] where a name is held by a comprehension too: by a tuple -/
theorem qs_parOc {X : Cx} {a b : Expr} {ta tb : TE} {aa ab : AE} {K : PySem.W.Frag} {x y : Str} {px py pt spos : Pos} {kt k2 pt2} (i j : Nat) (hN : X.N.Nodup) (ha : QE X ρ a ta aa) (hb : QE X ρ b tb ab) (na : starEach [a, b] X.env = (false, eval a X.env) :: starEach [b] X.env := by rfl) (nb : starEach [b] X.env = (false, eval b X.env) :: starEach [] X.env := by rfl)
    (hi : X.N[i]? = some x := by rfl) (hj : X.N[j]? = some y := by rfl) (hx : Loc X.env.scope x := by first | exact Or.inl rfl | exact Or.inr rfl) (hy : Loc X.env.scope y := by first | exact Or.inl rfl | exact Or.inr rfl)
    (hfx : X.fn x = true ∨ X.env.scope.names.lookup x = some .local := by first | exact .inl rfl | exact .inr rfl) (hfy : X.fn y = true ∨ X.env.scope.names.lookup y = some .local := by first | exact .inl rfl | exact .inr rfl)
    (hs : swapsWithSole [.Tuple [.Name x px, .Name y py] kt pt] (.Tuple [a, b] k2 pt2) spos.line X.env = pure false := by rfl) (hw : swappedStores [.Tuple [.Name x px, .Name y py] kt pt] (.Tuple [a, b] k2 pt2) X.env = pure none := by rfl) (hc : X.calm = true := by rfl) (hK : X.K = K := by rfl) :
    QS X ρ (.Assign [.Tuple [.Name x px, .Name y py] kt pt] (.Tuple [a, b] k2 pt2) spos) (tAsg (tTup (tCons ta (tCons tb tNil))) (gTup K 2 (gCons (gName i) (gCons (gName j) gNil)))) (aParO aa ab i j) := by
  subst hK
  refine ⟨ps_asg (pe_tup (pa_cons ha.pe (pa_cons hb.pe pa_nil nb) na)) (pg_tup hc (pgs_cons (pg_name hN hi hx hfx) (pgs_cons (pg_name hN hj hy hfy) pgs_nil))) hs hw, fun B σ H G Γ M A E k h s => ?_⟩
  refine ha.rd B σ H G Γ M _ _ k h fun v H1 G1 Γ1 M1 r k1 e1 rr h1 => ?_
  obtain ⟨G2, Γ2, d, k2, e2, rp, h2⟩ := frz_ok (H0 := H) k1 e1 rr h1
  refine hb.rd B σ H1 G2 Γ2 M1 _ _ k2 h2 fun u H3 G3 Γ3 M3 r3 k3 e3 rr3 h3 => ?_
  split at h3
  · rename_i c
    refine ⟨by show 2 ≤ sizeLine; decide, fun p hp => ?_⟩
    obtain ⟨k4, e4, _⟩ := k3.tmp (o := .tup [v, u]) hp
    obtain ⟨q, rfl, h0, hb', hc', hm, hn⟩ := rr3.es e4
    refine ⟨p, [v, .ref q], rfl, SqT.of upd_same, rfl, v, [.ref q], rfl, .ref q, [], rfl, rfl, ?_⟩
    exact s.nx _ _ G3 _ M3 ((k4.setD (rp.mono e3.g)).setO hb' hc' hm fun z => hn (owned_set (fun c e => by cases e) z)) h3
  · exact h3.elim
end Gw

namespace Gw
open PySem L2
variable {ρ : Ent}
/-! ### dicts: locked for good when they become data -/
section
variable {X : Cx} {a b c e : Expr} {ta tb tc te : TE} {aa ab ac ae : AE} {pos : Pos} {K : PySem.W.Frag} {B : Ent} {σ : St} {H G H1 G1 H2 G2 H0 : Hp} {Γ Γ1 Γ2 : Sl} {M M1 M2 : Mem}
/-- a thing that nobody holds is written anew and frozen -/
theorem Ok.lockAt {p : Addr} {o u : HO} (k : Ok K ρ B σ H G Γ M) (hp : H p = some o) (hb : B.H p = none) (hm : p ∉ dom M) (hn : ¬ owned σ Γ p) (hg : G p = none) :
    Ok K ρ B σ (upd H p u) (upd G p u) Γ M ∧ Ex G (upd G p u) := by
  have eG : Ex G (upd G p u) := Ex.new hg
  have cel : ∀ a c, a ≠ p → Cel K H G a c → Cel K (upd H p u) (upd G p u) a c := fun a c ne ⟨h1, w, h2, h3⟩ => ⟨by rw [upd_ne ne]; exact h1, w, by rw [upd_ne ne]; exact h2, h3.mono eG⟩
  refine ⟨⟨⟨k.st.g.trans eG, fun a w h n => ?_, fun a w h => ?_, k.st.mn, fun a h => ?_⟩, fun a w h => ?_, k.nd, fun a c h => cel a c (fun e => hm (e ▸ List.mem_map.mpr ⟨_, h, rfl⟩)) (k.ms a c h), fun i d h => ?_, fun i c h => ?_, k.dis, k.len, k.pb⟩, eG⟩
  · have ne : a ≠ p := ne_of_none h hb
    rw [upd_ne ne]; exact k.st.fr a w h n
  · by_cases e : a = p
    · subst e; exact .inr hb
    · rw [upd_ne e] at h; exact k.st.gn a w h
  · by_cases e : a = p
    · subst e; exact hb
    · rw [upd_ne e] at h; exact k.st.nn a h
  · by_cases e : a = p
    · subst e; rw [upd_same] at h ⊢; exact h
    · rw [upd_ne e] at h ⊢; exact k.ex a w h
  · obtain ⟨v, h1, h2⟩ := k.dat i d h
    exact ⟨v, h1, h2.mono eG⟩
  · obtain ⟨q, h1, h2, h3, h4⟩ := k.own i c h
    exact ⟨q, h1, h2, h3, cel q c (fun e => hn ⟨i, c, h, e ▸ h1⟩) h4⟩
def tLk (t : TE) : TE := fun σ H Q => t σ H fun v H1 => (∃ d u, v = .ref d ∧ H1 d = some u ∧ Mut (some u) ∧ ∀ od, Q v (upd H1 d (.frz od u))) ∨ Q v H1
theorem pe_lk (he : PE X e te) : PE X e (tLk te) := ⟨fun pins s σ H Q I h => thn (he.run pins s σ H _ I h) fun u s1 ⟨x, H1, I1, rx, q⟩ => by
  rcases q with ⟨d, w, ex, hd, mu, q⟩ | q
  · obtain ⟨od, I2⟩ := I1.lock hd mu
    exact ⟨x, _, I2, rx, q od⟩
  · exact ⟨x, _, I1, rx, q⟩⟩
def aLk (aa : AE) (Γ : Sl) (M : Mem) (Q : Ret → Sl → Mem → Prop) : Prop := aa Γ M fun r Γ1 M1 => match r with
  | .tmp (.dct ks ds) => Q (.dat (.dct ks ds)) Γ1 M1
  | .var i => match Γ1[i]? with
    | some (.own (.dct ks ds)) => Q (.dat (.dct ks ds)) (Γ1.set i (.dat (.dct ks ds))) M1
    | _ => False
  | .dat d => Q (.dat d) Γ1 M1
  | _ => False
theorem Ok.lockSlot {i : Nat} {ks : List L2.Key} {ds : List D} {p : Addr} {od : Obj} {vs : List V} (k : Ok K ρ B σ H G Γ M) (hi : Γ[i]? = some (.own (.dct ks ds))) (s1 : σ[i]? = some (some (.ref p))) (hb : B.H p = none) (hm : p ∉ dom M) (hg : G p = none) (hu : H p = some (.dK (ks.zip vs))) (hl : ks.length = ds.length) (hr : RepL K G ds vs) :
    Ok K ρ B σ (upd H p (.frz od (.dK (ks.zip vs)))) (upd G p (.frz od (.dK (ks.zip vs)))) (Γ.set i (.dat (.dct ks ds))) M ∧ Es σ H G Γ M (upd H p (.frz od (.dK (ks.zip vs)))) (upd G p (.frz od (.dK (ks.zip vs)))) (Γ.set i (.dat (.dct ks ds))) M ∧ Rep K (upd G p (.frz od (.dK (ks.zip vs)))) (.dct ks ds) (.ref p) := by
  have no : ¬ owned σ (Γ.set i .non) p := fun ⟨j, c, h1, h2⟩ => by
    rcases getElem?_setS h1 with ⟨_, e⟩ | ⟨ne, e⟩
    · cases e
    · exact ne (k.dis j i _ _ p e hi h2 s1)
  have k0 : Ok K ρ B σ H G (Γ.set i .non) M := ⟨k.st, k.ex, k.nd, k.ms, fun j d h => by
      rcases getElem?_setS h with ⟨_, e⟩ | ⟨_, e⟩
      · cases e
      · exact k.dat j d e, fun j c h => by
      rcases getElem?_setS h with ⟨_, e⟩ | ⟨_, e⟩
      · cases e
      · exact k.own j c e, fun j l c c' q h h' a b => by
      rcases getElem?_setS h with ⟨_, e⟩ | ⟨_, e⟩
      · cases e
      rcases getElem?_setS h' with ⟨_, e'⟩ | ⟨_, e'⟩
      · cases e'
      exact k.dis j l c c' q e e' a b, by rw [List.length_set]; exact k.len, k.pb⟩
  obtain ⟨k1, eG⟩ := k0.lockAt (u := .frz od (.dK (ks.zip vs))) hu hb hm no hg
  have rp : Rep K (upd G p (.frz od (.dK (ks.zip vs)))) (.dct ks ds) (.ref p) := rep_dct.mpr ⟨p, od, vs, rfl, upd_same, hl, hr.mono eG⟩
  refine ⟨⟨k1.st, k1.ex, k1.nd, k1.ms, fun j d h => ?_, fun j c h => ?_, fun j l c c' q h h' a b => ?_, by rw [List.length_set]; exact k.len, k.pb⟩, ⟨eG, fun a u h g m n => ?_, fun a h => ?_⟩, rp⟩
  · rcases getElem?_setS h with ⟨e1, e⟩ | ⟨ne, e⟩
    · cases e; subst e1; exact ⟨_, s1, rp⟩
    · exact k1.dat j d (by rw [List.getElem?_set_ne (fun q => ne q.symm)]; exact e)
  · rcases getElem?_setS h with ⟨_, e⟩ | ⟨ne, e⟩
    · cases e
    · exact k1.own j c (by rw [List.getElem?_set_ne (fun q => ne q.symm)]; exact e)
  · rcases getElem?_setS h with ⟨_, e⟩ | ⟨_, e⟩
    · cases e
    rcases getElem?_setS h' with ⟨_, e'⟩ | ⟨_, e'⟩
    · cases e'
    exact k.dis j l c c' q e e' a b
  · have ne : a ≠ p := fun e => n ⟨i, _, hi, e ▸ s1⟩
    refine ⟨by rw [upd_ne ne]; exact h, by rw [upd_ne ne]; exact g, m, fun ⟨j, c, h1, h2⟩ => n ?_⟩
    rcases getElem?_setS h1 with ⟨_, e⟩ | ⟨_, e⟩
    · cases e
    · exact ⟨j, c, e, h2⟩
  · by_cases e : a = p
    · subst e; rw [upd_same] at h; cases h
    · rw [upd_ne e] at h; exact h
theorem rd_lk (h : RdE K ρ te ae) : RdE K ρ (tLk te) (aLk ae) := by
  intro B σ H G Γ M Q R k h0 q
  refine h B σ H G Γ M _ _ k h0 fun v H1 G1 Γ1 M1 r k1 e1 rr hq => ?_
  cases r with
  | dat d => exact .inr (q v H1 G1 Γ1 M1 (.dat d) k1 e1 rr hq)
  | tmp c =>
    cases c with
    | lst ds => exact hq.elim
    | dct ks ds =>
      obtain ⟨p, rfl, hh, hb, ⟨hg, u, hu, vs, rfl, hl, hr⟩, hm, hn⟩ := rr
      refine .inl ⟨p, _, rfl, hu, trivial, fun od => ?_⟩
      obtain ⟨k2, eG⟩ := k1.lockAt (u := .frz od (.dK (ks.zip vs))) hu hb hm hn hg
      refine q _ _ _ Γ1 M1 (.dat (.dct ks ds)) k2 ⟨e1.g.trans eG, fun a w h g m n => ?_, fun a h => ?_⟩ (rep_dct.mpr ⟨p, od, vs, rfl, upd_same, hl, hr.mono eG⟩) hq
      · obtain ⟨a1, a2, a3, a4⟩ := e1.tmp a w h g m n
        have ne : a ≠ p := ne_of_none h hh
        exact ⟨by rw [upd_ne ne]; exact a1, by rw [upd_ne ne]; exact a2, a3, a4⟩
      · by_cases e : a = p
        · subst e; exact hh
        · rw [upd_ne e] at h; exact e1.nn a h
  | var i =>
    dsimp only at hq
    split at hq
    · rename_i ks ds e2
      obtain ⟨p, s1, hb, hm, hg, u, hu, vs, rfl, hl, hr⟩ := k1.own i _ e2
      have ev : v = .ref p := by have := (show σ[i]? = some (some v) from rr); rw [s1] at this; cases this; rfl
      subst ev
      refine .inl ⟨p, _, rfl, hu, trivial, fun od => ?_⟩
      obtain ⟨k2, e3, rp⟩ := k1.lockSlot (od := od) e2 s1 hb hm hg hu hl hr
      exact q _ _ _ _ M1 (.dat (.dct ks ds)) k2 (e1.trans e3) rp hq
    · exact hq.elim
theorem q_lk (h : QE X ρ e te ae) : QE X ρ e (tLk te) (aLk ae) := ⟨pe_lk h.pe, rd_lk h.rd⟩
end
end Gw

namespace Gw
open PySem L2
variable {ρ : Ent}
/-! ### dicts: tables of data -/
def getA (ks : List L2.Key) (ds : List D) (k : L2.Key) : Option D := ((ks.zip ds).find? fun p => decide (p.1 = k)).map (·.2)
def putA (t : List L2.Key × List D) (k : L2.Key) (d : D) : List L2.Key × List D :=
  if (t.1.any fun j => decide (j = k)) = true then (t.1, (t.1.zip t.2).map fun p => if p.1 = k then d else p.2) else (t.1 ++ [k], t.2 ++ [d])
def mergeA (t : List L2.Key × List D) (kds : List (L2.Key × D)) : List L2.Key × List D := kds.foldl (fun a p => putA a p.1 p.2) t
def keyD : D → Option L2.Key
  | .int i => some (.inl i)
  | .str x => some (.inr x)
  | _ => none
def kD : L2.Key → D
  | .inl i => .int i
  | .inr x => .str x
def itemsD (ks : List L2.Key) (ds : List D) : List D := (ks.zip ds).map fun p => .tup [kD p.1, p.2]
section
variable {K : PySem.W.Frag} {G G' H : Hp}
theorem rep_key {d : D} {v : V} {k : L2.Key} (h : Rep K G d v) (e : keyD d = some k) : v = kV k := by
  cases d <;> simp [keyD] at e <;> subst e <;> rw [Rep] at h <;> exact h
theorem rep_kD (k : L2.Key) : Rep K G (kD k) (kV k) := by
  cases k <;> simp [kD, kV, Rep]
theorem getA_cons {k0 : L2.Key} {ks : List L2.Key} {d0 : D} {ds : List D} {k : L2.Key} : getA (k0 :: ks) (d0 :: ds) k = if k0 = k then some d0 else getA ks ds k := by
  unfold getA
  rw [List.zip_cons_cons, List.find?_cons]
  by_cases e : k0 = k
  · simp [e]
  · simp [e]
theorem getA_ok {k : L2.Key} : ∀ {ks : List L2.Key} {ds : List D} {xs : List V}, ks.length = ds.length → RepL K G ds xs → (∀ d, getA ks ds k = some d → ∃ v, valV (ks.zip xs) k = some v ∧ Rep K G d v) ∧ (getA ks ds k = none → valV (ks.zip xs) k = none)
  | [], [], xs, _, h => ⟨fun d e => by simp [getA] at e, fun _ => rfl⟩
  | k0 :: ks, d0 :: ds, xs, hl, h => by
    obtain ⟨x, r, rfl, h1, h2⟩ := repL_cons.mp h
    have ih := getA_ok (k := k) (ks := ks) (by simpa using hl) h2
    rw [getA_cons, List.zip_cons_cons]
    by_cases e : k0 = k
    · rw [if_pos e, valV_pos (p := (k0, x)) e]
      exact ⟨fun d q => by cases q; exact ⟨x, rfl, h1⟩, fun q => by cases q⟩
    · rw [if_neg e, valV_neg (p := (k0, x)) e]
      exact ih
theorem any_zip {k : L2.Key} : ∀ {ks : List L2.Key} {xs : List V}, ks.length = xs.length → ((ks.zip xs).any fun kv => decide (kv.1 = k)) = ks.any fun j => decide (j = k)
  | [], [], _ => rfl
  | k0 :: ks, x :: xs, h => by
    rw [List.zip_cons_cons, List.any_cons, List.any_cons, any_zip (by simpa using h)]
theorem map_zip {k : L2.Key} {v : V} : ∀ {ks : List L2.Key} {xs : List V}, ks.length = xs.length → (ks.zip xs).map (fun kv => if kv.1 = k then (kv.1, v) else kv) = ks.zip ((ks.zip xs).map fun p => if p.1 = k then v else p.2)
  | [], [], _ => rfl
  | k0 :: ks, x :: xs, h => by
    rw [List.zip_cons_cons, List.map_cons, List.map_cons, List.zip_cons_cons, map_zip (by simpa using h)]
    congr 1
    show (if k0 = k then (k0, v) else (k0, x)) = (k0, if k0 = k then v else x)
    split <;> rfl
theorem repL_upd {k : L2.Key} {d : D} {v : V} (r : Rep K G d v) : ∀ {ks : List L2.Key} {ds : List D} {xs : List V}, ks.length = ds.length → RepL K G ds xs → RepL K G ((ks.zip ds).map fun p => if p.1 = k then d else p.2) ((ks.zip xs).map fun p => if p.1 = k then v else p.2)
  | [], [], xs, _, h => by rw [repL_nil.mp h]; exact repL_nil.mpr rfl
  | k0 :: ks, d0 :: ds, xs, hl, h => by
    obtain ⟨x, t, rfl, h1, h2⟩ := repL_cons.mp h
    rw [List.zip_cons_cons, List.zip_cons_cons, List.map_cons, List.map_cons]
    refine repL_cons.mpr ⟨_, _, rfl, ?_, repL_upd r (by simpa using hl) h2⟩
    show Rep K G (if k0 = k then d else d0) (if k0 = k then v else x)
    split
    · exact r
    · exact h1
theorem putA_len {t : List L2.Key × List D} {k : L2.Key} {d : D} (h : t.1.length = t.2.length) : (putA t k d).1.length = (putA t k d).2.length := by
  unfold putA
  split
  · simp [h]
  · simp [h]
theorem putA_ok {t : List L2.Key × List D} {xs : List V} {k : L2.Key} {d : D} {v : V} (hl : t.1.length = t.2.length) (h : RepL K G t.2 xs) (r : Rep K G d v) :
    ∃ xs', putK (t.1.zip xs) k v = (putA t k d).1.zip xs' ∧ RepL K G (putA t k d).2 xs' := by
  obtain ⟨ks, ds⟩ := t
  have hx : ks.length = xs.length := by rw [h.length]; exact hl
  unfold putK putA
  rw [any_zip hx]
  by_cases e : (ks.any fun j => decide (j = k)) = true
  · rw [if_pos e, if_pos e]
    exact ⟨_, map_zip hx, repL_upd r hl h⟩
  · rw [if_neg e, if_neg e]
    exact ⟨xs ++ [v], by rw [List.zip_append hx]; rfl, h.append (RepL.one r)⟩
def RepKs (K : PySem.W.Frag) (G : Hp) : List (L2.Key × D) → List (L2.Key × V) → Prop
  | [], kvs => kvs = []
  | p :: r, kvs => ∃ v t, kvs = (p.1, v) :: t ∧ Rep K G p.2 v ∧ RepKs K G r t
theorem RepKs.mono (e : Ex G G') : ∀ {kds : List (L2.Key × D)} {kvs : List (L2.Key × V)}, RepKs K G kds kvs → RepKs K G' kds kvs
  | [], _, h => h
  | p :: r, _, ⟨v, t, e1, h1, h2⟩ => ⟨v, t, e1, h1.mono e, RepKs.mono e h2⟩
theorem RepKs.len : ∀ {kds : List (L2.Key × D)} {kvs : List (L2.Key × V)}, RepKs K G kds kvs → kvs.length = kds.length
  | [], _, h => by rw [show _ = [] from h]; rfl
  | p :: r, _, ⟨v, t, e1, h1, h2⟩ => by rw [e1, List.length_cons, List.length_cons, RepKs.len h2]
theorem mergeA_ok : ∀ {kds : List (L2.Key × D)} {kvs : List (L2.Key × V)} {t : List L2.Key × List D} {xs : List V}, t.1.length = t.2.length → RepL K G t.2 xs → RepKs K G kds kvs →
    ∃ xs', mergeK (t.1.zip xs) kvs = (mergeA t kds).1.zip xs' ∧ RepL K G (mergeA t kds).2 xs' ∧ (mergeA t kds).1.length = (mergeA t kds).2.length
  | [], _, t, xs, hl, h, hk => by rw [show _ = [] from hk]; exact ⟨xs, rfl, h, hl⟩
  | p :: r, _, t, xs, hl, h, ⟨v, kt, e1, h1, h2⟩ => by
    subst e1
    obtain ⟨xs1, e2, h3⟩ := putA_ok (k := p.1) hl h h1
    obtain ⟨xs2, e3, h4, h5⟩ := mergeA_ok (putA_len hl) h3 h2
    refine ⟨xs2, ?_, h4, h5⟩
    show mergeK (putK (t.1.zip xs) p.1 v) kt = _
    rw [e2]; exact e3
end
section
variable {X : Cx} {a b c e : Expr} {ta tb tc te : TE} {aa ab ac ae : AE} {pos : Pos} {K : PySem.W.Frag} {B : Ent} {σ : St} {H G H1 G1 H2 G2 H0 : Hp} {Γ Γ1 Γ2 : Sl} {M M1 M2 : Mem}
/-! ### cells that are read and written -/
def dctOf (r : Ret) (Γ : Sl) (M : Mem) : Option (List L2.Key × List D) := match r with
  | .dat (.dct ks ds) => some (ks, ds)
  | .dat (.ref a) => match M.lookup a with
    | some (.dct ks ds) => some (ks, ds)
    | _ => none
  | .tmp (.dct ks ds) => some (ks, ds)
  | .var i => match Γ[i]? with
    | some (.own (.dct ks ds)) => some (ks, ds)
    | some (.dat (.dct ks ds)) => some (ks, ds)
    | _ => none
  | _ => none
theorem rep_dct_rd {ks : List L2.Key} {ds : List D} {v : V} (o : Ok K ρ B σ H G Γ M) (h : Rep K G (.dct ks ds) v) : ∃ a xs, v = .ref a ∧ Rd H a (.dK (ks.zip xs)) ∧ ks.length = ds.length ∧ RepL K G ds xs := by
  obtain ⟨a, od, xs, e, h1, h2, h3⟩ := rep_dct.mp h
  exact ⟨a, xs, e, .inr ⟨od, o.ex _ _ h1⟩, h2, h3⟩
theorem dctOf_ok {r : Ret} {v : V} {ks : List L2.Key} {ds : List D} (o : Ok K ρ B σ H G Γ M) (rr : RepR K B σ H0 H G Γ M r v) (h : dctOf r Γ M = some (ks, ds)) : ∃ a xs, v = .ref a ∧ Rd H a (.dK (ks.zip xs)) ∧ ks.length = ds.length ∧ RepL K G ds xs := by
  cases r with
  | dat d =>
    cases d with
    | dct ks' ds' => cases h; exact rep_dct_rd o rr
    | ref a =>
      simp only [dctOf] at h
      split at h
      · rename_i ks' ds' e1
        cases h
        obtain ⟨hg, u, ho, vs, rfl, hl, hr⟩ := o.ms a _ (lookup_mem e1)
        exact ⟨a, vs, by have := rr; simp only [RepR, Rep] at this; exact this, .inl ho, hl, hr⟩
      · cases h
    | _ => cases h
  | tmp c =>
    cases c with
    | lst ds => cases h
    | dct ks' ds' =>
      cases h
      obtain ⟨p, rfl, h0, hb, ⟨hg, u, hu, vs, rfl, hl, hr⟩, hm, hn⟩ := rr
      exact ⟨p, vs, rfl, .inl hu, hl, hr⟩
  | var i =>
    simp only [dctOf] at h
    split at h
    · rename_i ks' ds' e1
      cases h
      obtain ⟨p, s1, hb, hm, hg, u, ho, vs, rfl, hl, hr⟩ := o.own i _ e1
      have : v = .ref p := by have := (show σ[i]? = some (some v) from rr); rw [s1] at this; cases this; rfl
      exact ⟨p, vs, this, .inl ho, hl, hr⟩
    · rename_i ks' ds' e1
      cases h
      obtain ⟨v', h1, h2⟩ := o.dat i _ e1
      have : v' = v := by have := (show σ[i]? = some (some v) from rr); rw [h1] at this; cases this; rfl
      subst this
      exact rep_dct_rd o h2
    · cases h
def cget (r : Ret) (Γ : Sl) (M : Mem) : Option Cell := match r with
  | .var i => match Γ[i]? with
    | some (.own c) => some c
    | _ => none
  | .dat (.ref a) => M.lookup a
  | _ => none
def cput (r : Ret) (c : Cell) (Γ : Sl) (M : Mem) (k : Sl → Mem → Prop) : Prop := match r with
  | .var i => k (Γ.set i (.own c)) M
  | .dat (.ref a) => k Γ (mput M a c)
  | _ => False
theorem cget_ok {r : Ret} {v : V} {c : Cell} (k : Ok K ρ B σ H G Γ M) (rr : RepR K B σ H0 H G Γ M r v) (h : cget r Γ M = some c) : ∃ l o, v = .ref l ∧ H l = some o ∧ CellOk K G c o := by
  cases r with
  | var i =>
    simp only [cget] at h
    split at h
    · rename_i c' e1
      cases h
      obtain ⟨p, s1, hb, hm, hg, u, ho, hc⟩ := k.own i _ e1
      have : v = .ref p := by have := (show σ[i]? = some (some v) from rr); rw [s1] at this; cases this; rfl
      exact ⟨p, u, this, ho, hc⟩
    · cases h
  | dat d =>
    cases d with
    | ref a =>
      simp only [cget] at h
      obtain ⟨hg, u, ho, hc⟩ := k.ms a _ (lookup_mem h)
      exact ⟨a, u, by have := rr; simp only [RepR, Rep] at this; exact this, ho, hc⟩
    | _ => cases h
  | tmp c => cases h
theorem cput_ok {r : Ret} {l : Addr} {c c' : Cell} {o' : HO} {kk : Sl → Mem → Prop} (k : Ok K ρ B σ H G Γ M) (rr : RepR K B σ H0 H G Γ M r (.ref l)) (h : cget r Γ M = some c) (rl : CellOk K G c' o') (hp : cput r c' Γ M kk) :
    ∃ Γ' M', Ok K ρ B σ (upd H l o') G Γ' M' ∧ Es σ H G Γ M (upd H l o') G Γ' M' ∧ kk Γ' M' := by
  have updN : ∀ x, upd H l o' x = none → H x = none := fun x e => by
    by_cases z : x = l
    · subst z; rw [upd_same] at e; cases e
    · rw [upd_ne z] at e; exact e
  cases r with
  | tmp c => cases h
  | var i =>
    simp only [cget] at h
    split at h
    · rename_i dd e1
      cases h
      obtain ⟨p, s1, hb, hm, hg, u, ho, hc⟩ := k.own i _ e1
      have e : p = l := by have := (show σ[i]? = some (some (.ref l)) from rr); rw [s1] at this; cases this; rfl
      subst e
      have exG : Ex G (upd H p o') := fun x o z => by
        have ne : x ≠ p := fun e => by subst e; rw [hg] at z; cases z
        rw [upd_ne ne]; exact k.ex x o z
      have cel : ∀ x c, x ≠ p → Cel K H G x c → Cel K (upd H p o') G x c := fun x c ne ⟨z1, o, z2, z3⟩ => ⟨z1, o, by rw [upd_ne ne]; exact z2, z3⟩
      refine ⟨_, _, ⟨⟨k.st.g, fun x o z n => ?_, k.st.gn, k.st.mn, fun x z => k.st.nn x (updN x z)⟩, exG, k.nd, fun x c z => cel x c (fun e => hm (e ▸ List.mem_map.mpr ⟨_, z, rfl⟩)) (k.ms x c z), fun j d z => ?_, fun j c z => ?_, fun j m cj cm q z z' a b => ?_, by rw [List.length_set]; exact k.len, k.pb⟩, ⟨Ex.refl G, fun x o z g m n => ?_, updN⟩, hp⟩
      · have ne : x ≠ p := fun e => by subst e; rw [hb] at z; cases z
        rw [upd_ne ne]; exact k.st.fr x o z n
      · rcases set_get z with ⟨_, e⟩ | ⟨_, e⟩
        · cases e
        · exact k.dat j d e
      · rcases set_get z with ⟨e, e2⟩ | ⟨ne, e⟩
        · cases e2; subst e
          exact ⟨p, s1, hb, hm, hg, _, upd_same, rl⟩
        · obtain ⟨q, y1, y2, y3, y4⟩ := k.own j c e
          exact ⟨q, y1, y2, y3, cel q c (fun eq => ne (k.dis j i _ _ p e e1 (eq ▸ y1) s1)) y4⟩
      · have own' : ∀ (j : Nat) (c : Cell), (Γ.set i (Slot.own c'))[j]? = some (Slot.own c) → ∃ c', Γ[j]? = some (Slot.own c') := fun j c z => by
          rcases set_get z with ⟨e, _⟩ | ⟨_, e⟩
          · subst e; exact ⟨_, e1⟩
          · exact ⟨_, e⟩
        obtain ⟨c1, z1⟩ := own' j cj z
        obtain ⟨c2, z2⟩ := own' m cm z'
        exact k.dis j m c1 c2 q z1 z2 a b
      · have ne : x ≠ p := fun e => n ⟨i, _, e1, e ▸ s1⟩
        refine ⟨by rw [upd_ne ne]; exact z, g, m, fun ⟨j, c, y1, y2⟩ => n ?_⟩
        rcases set_get y1 with ⟨e, _⟩ | ⟨_, e⟩
        · subst e; exact ⟨_, _, e1, y2⟩
        · exact ⟨j, c, e, y2⟩
    · cases h
  | dat d =>
    cases d with
    | ref a =>
      simp only [cget] at h
      obtain ⟨hg, u, ho, hc⟩ := k.ms a _ (lookup_mem h)
      have e : l = a := by have := rr; simp only [RepR, Rep] at this; cases this; rfl
      subst e
      have exG : Ex G (upd H l o') := fun x o z => by
        have ne : x ≠ l := fun e => by subst e; rw [hg] at z; cases z
        rw [upd_ne ne]; exact k.ex x o z
      have cel : ∀ x c, x ≠ l → Cel K H G x c → Cel K (upd H l o') G x c := fun x c ne ⟨z1, o, z2, z3⟩ => ⟨z1, o, by rw [upd_ne ne]; exact z2, z3⟩
      have inM : l ∈ dom M := List.mem_map.mpr ⟨_, lookup_mem h, rfl⟩
      refine ⟨_, _, ⟨⟨k.st.g, fun x o z n => ?_, k.st.gn, ?_, fun x z => k.st.nn x (updN x z)⟩, exG, by rw [dom_mput]; exact k.nd, fun x c z => ?_, k.dat, fun j c z => ?_, k.dis, k.len, k.pb⟩, ⟨Ex.refl G, fun x o z g m n => ?_, updN⟩, hp⟩
      · have ne : x ≠ l := fun e => by
          subst e
          rcases k.st.mn x inM with z' | z'
          · exact n z'
          · rw [z] at z'; cases z'
        rw [upd_ne ne]; exact k.st.fr x o z n
      · rw [dom_mput]; exact k.st.mn
      · unfold mput at z
        obtain ⟨y, hy, e⟩ := List.mem_map.mp z
        split at e
        · cases e; exact ⟨hg, _, upd_same, rl⟩
        · rename_i ne
          obtain ⟨y1, y2⟩ := y
          cases e
          exact cel x c ne (k.ms x c hy)
      · obtain ⟨q, y1, y2, y3, y4⟩ := k.own j c z
        exact ⟨q, y1, y2, by rw [dom_mput]; exact y3, cel q c (fun e => y3 (e ▸ inM)) y4⟩
      · have ne : x ≠ l := fun e => m (e ▸ inM)
        exact ⟨by rw [upd_ne ne]; exact z, g, by rw [dom_mput]; exact m, n⟩
    | _ => cases h
/-- a thing that nobody holds is written anew -/
theorem Ok.updTmp' {p : Addr} {o u : HO} (k : Ok K ρ B σ H G Γ M) (hp : H p = some o) (hb : B.H p = none) (hg : G p = none) (hm : p ∉ dom M) (hn : ¬ owned σ Γ p) : Ok K ρ B σ (upd H p u) G Γ M := by
  have cel : ∀ x c, x ≠ p → Cel K H G x c → Cel K (upd H p u) G x c := fun x c ne ⟨z1, o, z2, z3⟩ => ⟨z1, o, by rw [upd_ne ne]; exact z2, z3⟩
  refine ⟨⟨k.st.g, fun x o z n => ?_, k.st.gn, k.st.mn, fun x z => k.st.nn x ?_⟩, fun x o z => ?_, k.nd, fun x c z => cel x c (fun e => hm (e ▸ List.mem_map.mpr ⟨_, z, rfl⟩)) (k.ms x c z), k.dat, fun i c z => ?_, k.dis, k.len, k.pb⟩
  · rw [upd_ne (ne_of_none z hb)]; exact k.st.fr x o z n
  · by_cases e : x = p
    · subst e; rw [upd_same] at z; cases z
    · rw [upd_ne e] at z; exact z
  · have ne : x ≠ p := fun e => by subst e; rw [hg] at z; cases z
    rw [upd_ne ne]; exact k.ex x o z
  · obtain ⟨q, y1, y2, y3, y4⟩ := k.own i c z
    exact ⟨q, y1, y2, y3, cel q c (fun e => hn ⟨i, c, z, e ▸ y1⟩) y4⟩
/-- new things: those of T are frozen, others are not held -/
theorem Ok.grow {H' : Hp} {T : List Addr} (k : Ok K ρ B σ H G Γ M) (hh : Ex H H') (hT : ∀ t ∈ T, H t = none) : Ok K ρ B σ H' (fun b => if b ∈ T then H' b else G b) Γ M ∧ Es σ H G Γ M H' (fun b => if b ∈ T then H' b else G b) Γ M := by
  have eG : Ex G (fun b => if b ∈ T then H' b else G b) := fun x o z => by
    show (if x ∈ T then H' x else G x) = some o
    rw [if_neg (fun hx => by have := k.ex x o z; rw [hT x hx] at this; cases this)]; exact z
  have cel : ∀ x c, Cel K H G x c → Cel K H' (fun b => if b ∈ T then H' b else G b) x c := fun x c ⟨z1, o, z2, z3⟩ => ⟨by
    show (if x ∈ T then H' x else G x) = none
    rw [if_neg (fun hx => by rw [hT x hx] at z2; cases z2)]; exact z1, o, hh _ _ z2, z3.mono eG⟩
  refine ⟨⟨⟨k.st.g.trans eG, fun x o z n => hh _ _ (k.st.fr x o z n), fun x o z => ?_, k.st.mn, fun x z => k.st.nn x (hh.none z)⟩, fun x o z => ?_, k.nd, fun x c z => cel x c (k.ms x c z), fun i d z => ?_, fun i c z => ?_, k.dis, k.len, k.pb⟩, eG, fun x o z g m n => ⟨hh _ _ z, ?_, m, n⟩, fun x z => hh.none z⟩
  · change (if x ∈ T then H' x else G x) = some o at z
    by_cases hx : x ∈ T
    · exact .inr (k.st.nn x (hT x hx))
    · rw [if_neg hx] at z; exact k.st.gn x o z
  · change (if x ∈ T then H' x else G x) = some o at z
    by_cases hx : x ∈ T
    · rw [if_pos hx] at z; exact z
    · rw [if_neg hx] at z; exact hh _ _ (k.ex x o z)
  · obtain ⟨v, h1, h2⟩ := k.dat i d z
    exact ⟨v, h1, h2.mono eG⟩
  · obtain ⟨q, y1, y2, y3, y4⟩ := k.own i c z
    exact ⟨q, y1, y2, y3, cel q c y4⟩
  · show (if x ∈ T then H' x else G x) = none
    rw [if_neg (fun hx => by rw [hT x hx] at z; cases z)]; exact g
theorem Ok.fresh {p : Addr} (k : Ok K ρ B σ H G Γ M) (hp : H p = none) : p ∉ dom M ∧ ¬ owned σ Γ p ∧ B.H p = none ∧ G p = none := by
  refine ⟨fun hm => ?_, fun ⟨i, c, h1, h2⟩ => ?_, k.st.nn _ hp, k.ex.none hp⟩
  · obtain ⟨⟨a, c⟩, h1, h2⟩ := List.mem_map.mp hm
    obtain ⟨_, u, h3, _⟩ := k.ms a c h1
    simp at h2; subst h2; rw [hp] at h3; cases h3
  · obtain ⟨q, h3, _, _, _, u, h4, _⟩ := k.own i c h1
    rw [h2] at h3; cases h3; rw [hp] at h4; cases h4
/-! ### {} and {k: v, ..} -/
def aDNew (Γ : Sl) (M : Mem) (Q : Ret → Sl → Mem → Prop) : Prop := Q (.tmp (.dct [] [])) Γ M
theorem q_dnew : QE X ρ (.Dict [] [] pos) tDNewK aDNew := ⟨pe_dnewK, fun B σ H G Γ M Q R k h q p hp => by
  obtain ⟨k2, e2, hm, hn, hb, hg⟩ := k.tmp (o := .dK []) hp
  exact q _ _ _ Γ M (.tmp (.dct [] [])) k2 e2 ⟨p, rfl, hp, hb, ⟨hg, _, upd_same, [], rfl, rfl, repL_nil.mpr rfl⟩, hm, hn⟩ h⟩
abbrev AP := Sl → Mem → (List (L2.Key × D) → Sl → Mem → Prop) → Prop
def RdP (K : PySem.W.Frag) (ρ : Ent) (trs : List (TE × TE)) (ap : AP) : Prop := ∀ B σ H G Γ M (Q : List (L2.Key × D) → Sl → Mem → Prop) (R : List (V × V) → Hp → Prop), Ok K ρ B σ H G Γ M → ap Γ M Q →
  (∀ kvs H' G' Γ' M' kds, Ok K ρ B σ H' G' Γ' M' → Es σ H G Γ M H' G' Γ' M' → RepKs K G' kds kvs → Q kds Γ' M' → R (kvs.map fun kv => (kV kv.1, kv.2)) H') → tPairs trs σ H R
structure QP (X : Cx) (ρ : Ent) (pos : Pos) (keys : List (Option Expr)) (values : List Expr) (trs : List (TE × TE)) (ap : AP) : Prop where
  pe : PPs X pos keys values trs
  rd : RdP X.K ρ trs ap
def apNil (Γ : Sl) (M : Mem) (Q : List (L2.Key × D) → Sl → Mem → Prop) : Prop := Q [] Γ M
def apCons (ak av : AE) (ar : AP) (Γ : Sl) (M : Mem) (Q : List (L2.Key × D) → Sl → Mem → Prop) : Prop := ak Γ M fun rk Γ1 M1 => match rk with
  | .dat y => match keyD y with
    | some k => av Γ1 M1 fun rv Γ2 M2 => frz rv Γ2 fun d Γ3 => ar Γ3 M2 fun kds Γ4 M4 => Q ((k, d) :: kds) Γ4 M4
    | none => False
  | _ => False
theorem qp_nil : QP X ρ pos [] [] [] apNil := ⟨pps_nil, fun B σ H G Γ M Q R k h q => q [] H G Γ M [] k .refl rfl h⟩
theorem qp_cons {ks : List (Option Expr)} {vs : List Expr} {trs : List (TE × TE)} {ar : AP} (ha : QE X ρ a ta aa) (hb : QE X ρ b tb ab) (hr : QP X ρ pos ks vs trs ar) : QP X ρ pos (some a :: ks) (b :: vs) ((ta, tb) :: trs) (apCons aa ab ar) := ⟨pps_cons ha.pe hb.pe hr.pe, by
  intro B σ H G Γ M Q R k h q
  refine ha.rd B σ H G Γ M _ _ k h fun v H1 G1 Γ1 M1 r1 k1 e1 rr1 h1 => ?_
  split at h1
  · rename_i y
    split at h1
    · rename_i key hy
      have ev := rep_key (show Rep X.K G1 y v from rr1) hy
      subst ev
      refine hb.rd B σ H1 G1 Γ1 M1 _ _ k1 h1 fun u H2 G2 Γ2 M2 r2 k2 e2 rr2 h2 => ?_
      obtain ⟨G3, Γ3, d, k3, e3, rp, h3⟩ := frz_ok (H0 := H1) k2 e2 rr2 h2
      refine hr.rd B σ H2 G3 Γ3 M2 _ _ k3 h3 fun kvs H4 G4 Γ4 M4 kds k4 e4 rk h4 => ?_
      exact q ((key, u) :: kvs) H4 G4 Γ4 M4 ((key, d) :: kds) k4 ((e1.trans e3).trans e4) ⟨u, kvs, rfl, rp.mono e4.g, rk⟩ h4
    · exact h1.elim
  · exact h1.elim⟩
def aDisp (ap : AP) (Γ : Sl) (M : Mem) (Q : Ret → Sl → Mem → Prop) : Prop := ap Γ M fun kds Γ1 M1 => kds.length ≤ 15 ∧ Q (.tmp (.dct (mergeA ([], []) kds).1 (mergeA ([], []) kds).2)) Γ1 M1
theorem q_disp {keys : List (Option Expr)} {values : List Expr} {trs : List (TE × TE)} {ap : AP} (h : QP X ρ pos keys values trs ap) (hall : keys.all (·.isSome) = true := by rfl) (hl : keys.length = values.length := by rfl) (h0 : keys ≠ [] := by simp)
    (h15 : keys.length ≤ 15 := by decide) : QE X ρ (.Dict keys values pos) (tDisp trs) (aDisp ap) := ⟨pe_disp h.pe hall hl h0 h15, by
  intro B σ H G Γ M Q R k hh q p hp
  obtain ⟨k1, e1, hm, hn, hb, hg⟩ := k.tmp (o := .dK []) hp
  refine h.rd B σ _ G Γ M _ _ k1 hh fun kvs H2 G2 Γ2 M2 kds k2 e2 rk h2 => ?_
  obtain ⟨p2, g2, m2, n2⟩ := e2.tmp p _ upd_same hg hm hn
  obtain ⟨xs', e3, h3, h4⟩ := mergeA_ok (t := ([], [])) rfl (repL_nil.mpr rfl) rk
  refine ⟨p2, kvs, rfl, by rw [rk.len]; exact h2.1, ?_⟩
  have e3' : mergeK [] kvs = (mergeA ([], []) kds).1.zip xs' := e3
  rw [e3']
  refine q _ _ G2 Γ2 M2 (.tmp (.dct _ _)) (k2.updTmp' p2 hb g2 m2 n2) ⟨e2.g, fun a o z g m n => ?_, fun a z => ?_⟩ ⟨p, rfl, hp, hb, ⟨g2, _, upd_same, xs', rfl, h4, h3⟩, m2, n2⟩ h2.2
  · have ne : a ≠ p := ne_of_none z hp
    obtain ⟨a1, a2, a3, a4⟩ := e2.tmp a o (by rw [upd_ne ne]; exact z) g m n
    exact ⟨by rw [upd_ne ne]; exact a1, a2, a3, a4⟩
  · by_cases e : a = p
    · subst e; exact hp
    · rw [upd_ne e] at z
      have := e2.nn a z
      rw [upd_ne e] at this; exact this⟩
/-! ### d[k], d.get(k, x), k in d -/
def aDGet (ad ay : AE) (Γ : Sl) (M : Mem) (Q : Ret → Sl → Mem → Prop) : Prop := ad Γ M fun r Γ1 M1 => ay Γ1 M1 fun ry Γ2 M2 => match ry with
  | .dat y => match keyD y with
    | some k => match dctOf r Γ2 M2 with
      | some t => match getA t.1 t.2 k with
        | some d => Q (.dat d) Γ2 M2
        | none => False
      | none => False
    | none => False
  | _ => False
theorem rd_dget (ha : RdE K ρ ta aa) (hb : RdE K ρ tb ab) : RdE K ρ (tDGet ta tb) (aDGet aa ab) := by
  intro B σ H G Γ M Q R k h q
  refine ha B σ H G Γ M _ _ k h fun v H1 G1 Γ1 M1 r1 k1 e1 rr1 h1 => ?_
  refine hb B σ H1 G1 Γ1 M1 _ _ k1 h1 fun u H2 G2 Γ2 M2 r2 k2 e2 rr2 h2 => ?_
  split at h2
  · rename_i y
    split at h2
    · rename_i key hy
      have eu := rep_key (show Rep K G2 y u from rr2) hy
      subst eu
      split at h2
      · rename_i t ht
        obtain ⟨l, xs, rfl, hd, hl, hx⟩ := dctOf_ok k2 (rr1.es e2) ht
        split at h2
        · rename_i d hd2
          obtain ⟨w, hw, rw'⟩ := (getA_ok (k := key) hl hx).1 d hd2
          exact ⟨l, w, rfl, .inl ⟨_, key, hd, rfl, hw.symm⟩, q w H2 G2 Γ2 M2 (.dat d) k2 (e1.trans e2) rw' h2⟩
        · exact h2.elim
      · exact h2.elim
    · exact h2.elim
  · exact h2.elim
theorem q_dget (hu : X.A.units + 64 < cLine) (ha : QE X ρ a ta aa) (hb : QE X ρ b tb ab) (hs : NoSl b := by exact fun _ _ => rfl) : QE X ρ (.Subscript a b pos) (tDGet ta tb) (aDGet aa ab) := ⟨pe_dget (by omega) ha.pe hb.pe hs, rd_dget ha.rd hb.rd⟩
def aDGet2 (ad ay az : AE) (Γ : Sl) (M : Mem) (Q : Ret → Sl → Mem → Prop) : Prop := ad Γ M fun r Γ1 M1 => (dctOf r Γ1 M1).isSome = true ∧ ay Γ1 M1 fun ry Γ2 M2 => az Γ2 M2 fun rz Γ3 M3 => match ry with
  | .dat y => match rz with
    | .dat z => match keyD y with
      | some k => match dctOf r Γ3 M3 with
        | some t => Q (.dat ((getA t.1 t.2 k).getD z)) Γ3 M3
        | none => False
      | none => False
    | _ => False
  | _ => False
theorem rd_dget2 (ha : RdE K ρ ta aa) (hb : RdE K ρ tb ab) (hc : RdE K ρ tc ac) : RdE K ρ (tDGet2 ta tb tc) (aDGet2 aa ab ac) := by
  intro B σ H G Γ M Q R k h q
  refine ha B σ H G Γ M _ _ k h fun v H1 G1 Γ1 M1 r1 k1 e1 rr1 h1 => ?_
  obtain ⟨hs, h1⟩ := h1
  obtain ⟨t1, ht1⟩ := Option.isSome_iff_exists.mp hs
  obtain ⟨l1, xs1, rfl, hd1, _, _⟩ := dctOf_ok k1 rr1 ht1
  refine ⟨l1, rfl, .inl ⟨_, hd1⟩, ?_⟩
  refine hb B σ H1 G1 Γ1 M1 _ _ k1 h1 fun u H2 G2 Γ2 M2 r2 k2 e2 rr2 h2 => ?_
  refine hc B σ H2 G2 Γ2 M2 _ _ k2 h2 fun w H3 G3 Γ3 M3 r3 k3 e3 rr3 h3 => ?_
  split at h3
  · rename_i y
    split at h3
    · rename_i z
      split at h3
      · rename_i key hy
        have eu := rep_key (show Rep K G2 y u from rr2) hy
        subst eu
        split at h3
        · rename_i t ht
          obtain ⟨l, xs, el, hd, hl, hx⟩ := dctOf_ok k3 ((rr1.es e2).es e3) ht
          cases el
          have ok := getA_ok (k := key) hl hx
          have rz : Rep K G3 z w := rr3
          cases hg : getA t.1 t.2 key with
          | some d =>
            obtain ⟨x, hw, rx⟩ := ok.1 d hg
            rw [hg] at h3
            exact ⟨some x, .inl ⟨_, key, hd, rfl, hw.symm⟩, q x H3 G3 Γ3 M3 (.dat d) k3 ((e1.trans e2).trans e3) rx h3⟩
          | none =>
            rw [hg] at h3
            exact ⟨none, .inl ⟨_, key, hd, rfl, (ok.2 hg).symm⟩, q w H3 G3 Γ3 M3 (.dat z) k3 ((e1.trans e2).trans e3) rz h3⟩
        · exact h3.elim
      · exact h3.elim
    · exact h3.elim
  · exact h3.elim
theorem q_dget2 {apos cpos : Pos} (hu : X.A.units + 64 < cLine) (ha : QE X ρ a ta aa) (hb : QE X ρ b tb ab) (hc : QE X ρ c tc ac) (m : L2.M2 X a "get" apos b c cpos := by exact ⟨rfl, rfl, rfl, rfl⟩) : QE X ρ (.Call (.Attribute a "get" apos) [b, c] [] cpos) (tDGet2 ta tb tc) (aDGet2 aa ab ac) :=
  ⟨pe_dget2 (by omega) ha.pe hb.pe hc.pe m, rd_dget2 ha.rd hb.rd hc.rd⟩
def aDIn (f : Bool → Bool) (ay ad : AE) (Γ : Sl) (M : Mem) (Q : Ret → Sl → Mem → Prop) : Prop := ay Γ M fun ry Γ1 M1 => ad Γ1 M1 fun r Γ2 M2 => match ry with
  | .dat y => match keyD y with
    | some k => match dctOf r Γ2 M2 with
      | some t => Q (.dat (.bl (f (getA t.1 t.2 k).isSome))) Γ2 M2
      | none => False
    | none => False
  | _ => False
theorem getA_isSome {ks : List L2.Key} {ds : List D} {xs : List V} {k : L2.Key} (hl : ks.length = ds.length) (h : RepL K G ds xs) : (valV (ks.zip xs) k).isSome = (getA ks ds k).isSome := by
  have ok := getA_ok (k := k) hl h
  cases hg : getA ks ds k with
  | some d => obtain ⟨v, e, _⟩ := ok.1 d hg; rw [e]; rfl
  | none => rw [ok.2 hg]; rfl
theorem rd_din (ha : RdE K ρ ta aa) (hb : RdE K ρ tb ab) : RdE K ρ (tDIn ta tb) (aDIn id aa ab) := by
  intro B σ H G Γ M Q R k h q
  refine ha B σ H G Γ M _ _ k h fun v H1 G1 Γ1 M1 r1 k1 e1 rr1 h1 => ?_
  refine hb B σ H1 G1 Γ1 M1 _ _ k1 h1 fun u H2 G2 Γ2 M2 r2 k2 e2 rr2 h2 => ?_
  split at h2
  · rename_i y
    split at h2
    · rename_i key hy
      have eu := rep_key (show Rep K G1 y v from rr1) hy
      subst eu
      split at h2
      · rename_i t ht
        obtain ⟨l, xs, rfl, hd, hl, hx⟩ := dctOf_ok k2 rr2 ht
        exact ⟨l, _, rfl, .inl ⟨_, key, hd, rfl, rfl⟩, q _ H2 G2 Γ2 M2 (.dat (.bl _)) k2 (e1.trans e2) (by rw [getA_isSome hl hx]; simp only [RepR, Rep]; rfl) h2⟩
      · exact h2.elim
    · exact h2.elim
  · exact h2.elim
theorem rd_dnotin (ha : RdE K ρ ta aa) (hb : RdE K ρ tb ab) : RdE K ρ (tDNotIn ta tb) (aDIn not aa ab) := by
  intro B σ H G Γ M Q R k h q
  refine ha B σ H G Γ M _ _ k h fun v H1 G1 Γ1 M1 r1 k1 e1 rr1 h1 => ?_
  refine hb B σ H1 G1 Γ1 M1 _ _ k1 h1 fun u H2 G2 Γ2 M2 r2 k2 e2 rr2 h2 => ?_
  split at h2
  · rename_i y
    split at h2
    · rename_i key hy
      have eu := rep_key (show Rep K G1 y v from rr1) hy
      subst eu
      split at h2
      · rename_i t ht
        obtain ⟨l, xs, rfl, hd, hl, hx⟩ := dctOf_ok k2 rr2 ht
        exact ⟨l, _, rfl, .inl ⟨_, key, hd, rfl, rfl⟩, q _ H2 G2 Γ2 M2 (.dat (.bl _)) k2 (e1.trans e2) (by rw [getA_isSome hl hx]; simp only [RepR, Rep]) h2⟩
      · exact h2.elim
    · exact h2.elim
  · exact h2.elim
theorem q_din (hu : X.A.units + 64 < cLine) (ha : QE X ρ a ta aa) (hb : QE X ρ b tb ab) (hm : behindInMarks .In b = false := by rfl) : QE X ρ (.Compare a [.In] [b] pos) (tDIn ta tb) (aDIn id aa ab) := ⟨pe_cmp (pc_din (by omega) ha.pe hb.pe) hm, rd_din ha.rd hb.rd⟩
theorem q_dnotin (hu : X.A.units + 64 < cLine) (ha : QE X ρ a ta aa) (hb : QE X ρ b tb ab) (hm : behindInMarks .NotIn b = false := by rfl) : QE X ρ (.Compare a [.NotIn] [b] pos) (tDNotIn ta tb) (aDIn not aa ab) := ⟨pe_cmp (pc_dnotin (by omega) ha.pe hb.pe) hm, rd_dnotin ha.rd hb.rd⟩
theorem qt_din (hu : X.A.units + 64 < cLine) (ha : QE X ρ a ta aa) (hb : QE X ρ b tb ab) (hm : behindInMarks .In b = false := by rfl) : QT X ρ (.Compare a [.In] [b] pos) (tB (tDIn ta tb)) (aTst (aDIn id aa ab)) := ⟨pt_cmp (pc_din (by omega) ha.pe hb.pe) hm, rd_tst (rd_din ha.rd hb.rd)⟩
theorem qt_dnotin (hu : X.A.units + 64 < cLine) (ha : QE X ρ a ta aa) (hb : QE X ρ b tb ab) (hm : behindInMarks .NotIn b = false := by rfl) : QT X ρ (.Compare a [.NotIn] [b] pos) (tB (tDNotIn ta tb)) (aTst (aDIn not aa ab)) := ⟨pt_cmp (pc_dnotin (by omega) ha.pe hb.pe) hm, rd_tst (rd_dnotin ha.rd hb.rd)⟩
/-! ### d[k] = v -/
def aDPut (ae ao ai : AE) (A : AEnds) (Γ : Sl) (M : Mem) : Prop := ae Γ M fun r Γ0 M0 => frz r Γ0 fun d Γ1 => ao Γ1 M0 fun ro Γ2 M2 => ai Γ2 M2 fun ri Γ3 M3 => match ri with
  | .dat y => match keyD y with
    | some k => match cget ro Γ3 M3 with
      | some (.dct ks ds) => ks.length < sizeLine ∧ cput ro (.dct (putA (ks, ds) k d).1 (putA (ks, ds) k d).2) Γ3 M3 fun Γ4 M4 => A.nx Γ4 M4
      | _ => False
    | none => False
  | _ => False
theorem qs_dput {o i : Expr} {to ti : TE} {ao ai : AE} {pos' : Pos} (hu : X.A.units + 64 < cLine) (h : QE X ρ a ta aa) (ho : QE X ρ o to ao) (hi : QE X ρ i ti ai) (hs : swapsWith a (some (.Subscript o i pos')) pos.line X.env = pure false := by rfl) :
    QS X ρ (.Assign [.Subscript o i pos'] a pos) (sDPut to ti ta) (aDPut aa ao ai) := ⟨ps_dput (by omega) ho.pe hi.pe h.pe hs, fun B σ H G Γ M A E k hh s => h.rd B σ H G Γ M _ _ k hh fun v H1 G1 Γ1 M1 r k1 e1 rr h1 => by
    obtain ⟨G2, Γ2, d, k2, e2, rp, h2⟩ := frz_ok (H0 := H) k1 e1 rr h1
    refine ho.rd B σ H1 G2 Γ2 M1 _ _ k2 h2 fun ov H3 G3 Γ3 M3 ro k3 e3 rro h3 => ?_
    refine hi.rd B σ H3 G3 Γ3 M3 _ _ k3 h3 fun iv H4 G4 Γ4 M4 ri k4 e4 rri h4 => ?_
    split at h4
    · rename_i y
      split at h4
      · rename_i key hy
        have eu := rep_key (show Rep X.K G4 y iv from rri) hy
        subst eu
        split at h4
        · rename_i ks ds hd
          have rro' := rro.es e4
          obtain ⟨l, o', rfl, hl, xs, rfl, hlen, hx⟩ := cget_ok k4 rro' hd
          have rp4 : Rep X.K G4 d v := (rp.mono e3.g).mono e4.g
          obtain ⟨xs', e5, hx'⟩ := putA_ok (t := (ks, ds)) (k := key) hlen hx rp4
          obtain ⟨Γ5, M5, k5, e6, hq⟩ := cput_ok (c' := .dct _ _) (o' := .dK ((putA (ks, ds) key d).1.zip xs')) k4 rro' hd ⟨xs', rfl, putA_len (t := (ks, ds)) hlen, hx'⟩ h4.2
          have e5' : putK (ks.zip xs) key v = (putA (ks, ds) key d).1.zip xs' := e5
          rw [← e5'] at k5
          exact ⟨l, _, rfl, .inl ⟨_, key, hl, rfl, by simp only [List.length_zip, hx.length]; omega, rfl⟩, s.nx σ _ G4 Γ5 M5 k5 hq⟩
        · exact h4.elim
      · exact h4.elim
    · exact h4.elim⟩
/-! ### for k, v in d.items() -/
def aIItems (aa : AE) (Γ : Sl) (M : Mem) (Q : List D → Sl → Mem → Prop) : Prop := aa Γ M fun r Γ1 M1 => match r with
  | .dat (.dct ks ds) => Q (itemsD ks ds) Γ1 M1
  | _ => False
theorem walkD_items {p : Addr} {o : Obj} {ks : List L2.Key} {xs : List V} {ds : List D} (h : G p = some (.frz o (.dK (ks.zip xs)))) (hl : ks.length = ds.length) (r : RepL K G ds xs) : WalkD K (Iti p o (ks.zip xs)) G (itemsD ks ds) := by
  have hn : (itemsD ks ds).length = (ks.zip xs).length := by simp [itemsD, hl, r.length]
  refine ⟨fun H => H p = some (.frz o (.dK (ks.zip xs))), _, hn ▸ walk_items, fun H e => e _ _ h, fun i H x H' d hd e y => .inr ?_⟩
  obtain ⟨T, x1, y1, rfl, hT, rfl, h3, h4⟩ := y
  have hi : i < (ks.zip xs).length := by rw [← hn]; exact (List.getElem?_eq_some_iff.mp hd).1
  have hk : i < ks.length := by simp at hi; omega
  have hi2 : i < ds.length := by omega
  have hx : i < xs.length := by rw [r.length]; exact hi2
  dsimp only at h3 h4
  rw [List.getElem?_eq_getElem hi] at h3 h4
  simp only [Option.map_some, Option.some.injEq, List.getElem_zip] at h3 h4
  subst h3; subst h4
  have hd2 : (itemsD ks ds)[i]? = some (.tup [kD ks[i], ds[i]]) := by
    unfold itemsD
    rw [List.getElem?_map, List.getElem?_eq_getElem (by simp; omega)]
    simp
  rw [hd2] at hd
  cases hd
  obtain ⟨v, hv, rv⟩ := r.get (List.getElem?_eq_getElem hi2)
  rw [List.getElem?_eq_getElem hx] at hv
  cases hv
  exact ⟨T, _, _, rfl, hT, rfl, rfl, repL_cons.mpr ⟨_, _, rfl, rep_kD _, RepL.one rv⟩⟩
theorem qi_items {elts : List Expr} {kk : Nat} {tpos apos cpos : Pos} (h : QE X ρ a ta aa) (hbase : attributeBase a "items" X.env (eval a X.env) = eval a X.env := by rfl) (hline : (apos.endLine == cpos.line) = true := by rfl) :
    QI X ρ (.Tuple elts kk tpos) (.Call (.Attribute a "items" apos) [] [] cpos) (iItems ta) (aIItems aa) := ⟨pi_items h.pe hbase hline, fun B σ H G Γ M Q R k hh q => h.rd B σ H G Γ M _ _ k hh fun v H1 G1 Γ1 M1 r k1 e1 rr h1 => by
  split at h1
  · rename_i ks ds
    obtain ⟨p, o, xs, rfl, hp, hl, rl⟩ := rep_dct.mp (show Rep X.K G1 (.dct ks ds) v from rr)
    exact ⟨p, o, _, rfl, k1.ex _ _ hp, q _ H1 G1 Γ1 M1 _ k1 e1 (walkD_items hp hl rl) h1⟩
  · exact h1.elim⟩
/-! ### list(d.items()), dict(pairs) -/
def tLItems (te : TE) : TE := fun σ H Q => te σ H fun x H => ∃ (d : Addr) (kvs : List (L2.Key × V)), x = .ref d ∧ Rd H d (.dK kvs) ∧
  ∀ (H' : Hp) (p : Addr) (ts : List Addr), (∀ b o, H b = some o → H' b = some o) → H p = none → (∀ t ∈ ts, H t = none) → p ∉ ts → H' p = some (.lst (ts.map V.ref)) → Paired (fun (t : Addr) (q : L2.Key × V) => H' t = some (.tup [kV q.1, q.2])) ts kvs → Q (.ref p) H'
theorem pe_lItems {p apos cpos : Pos} (hc : X.calm = true) (he : PE X e te) (hg : Gl X "list") (hm : X.mg "list" = none) (hv : bootBuiltins "list" = some (.type "list")) (hbase : attributeBase e "items" X.env (eval e X.env) = eval e X.env := by rfl) (hline : (apos.endLine == cpos.line) = true := by rfl)
    (hs : starEach [.Call (.Attribute e "items" apos) [] [] cpos] X.env = (false, eval (.Call (.Attribute e "items" apos) [] [] cpos) X.env) :: starEach [] X.env := by rfl) :
    PE X (.Call (.Name "list" p) [.Call (.Attribute e "items" apos) [] [] cpos] [] pos) (tLItems te) := by
  refine ⟨fun pins s σ H Q I hq => ?_⟩
  refine wpAny_Call_Name_kw (ld_blt I hg hm hv ?_)
  refine PyProof.Rows.callWith_type1 ?_ hs rfl
  rw [hs]
  show wpAny _ _ (spliced ((false, eval (.Call (.Attribute e "items" apos) [] [] cpos) X.env) :: backTo pos (starEach [] X.env))) _ _ s
  refine Calls.spliced_cons ?_
  refine wpAny_Call_method (T := "dict") (id := "dict.items") hbase rfl hline F.plainAttrs_dict F.slot_dict_items F.type_dict_items (thn (he.run pins s σ H _ I hq) fun u s1 ⟨x, H1, I1, rx, d, kvs, ex, hd, q⟩ => ?_)
  subst ex
  obtain rfl : u = Value.ref d := rx
  obtain ⟨hz, hs0, vs, kv, hdo⟩ := dk_rd I1.hok hd
  obtain ⟨ep, hat⟩ := hdo.dictAt
  have lk : kvs.length = vs.length := Paired.length kv
  have I2 : Inv X pins σ H1 { s1 with heap := s1.heap.push { cls := .type "dict_items", data := .fields #[.ref d] } } := I1.kept (t' := s1.toks) fun b ob q => Heap.get?_push_of_some _ q
  refine ⟨hdo.typeIs, hdo.mapOf.noDict, ?_⟩
  show wpAny _ _ (callWith cpos (.builtin "dict.items") [.ref d] [] []) _ X.xe s1
  refine method_meetsIn F.slot_dict_items F.entry_dict_items rfl (PySem.evalArgs_none ⟨rfl, hdo.typeIs, F.args_dict_items_1 _, _, meets_dict_items (mixKind X.prog X.w) d hs0, ⟨vs, hdo⟩, ?_⟩)
  refine Calls.spliced_nil ?_
  refine PySem.W.kdx_call (knd := mixKind X.prog X.w) (kvs := vs) (ep := ep) (I1.ok.hd hc) ⟨_, Heap.get?_push_size _ rfl, rfl, rfl⟩ (hat.push _) (by omega) fun h' tk acc c as hk hS hl hG hacc => ?_
  obtain ⟨H', k1, k2, k3, k4, k5, k6, J⟩ := LiI.items_laid (tk := tk) I2 hz kv hk hS hl hG hacc
  exact ⟨.ref _, H', J, rfl, q H' _ as k1 k2 k3 k4 k5 k6⟩
def aLItems (aa : AE) (Γ : Sl) (M : Mem) (Q : Ret → Sl → Mem → Prop) : Prop := aa Γ M fun r Γ1 M1 => match dctOf r Γ1 M1 with
  | some t => Q (.tmp (.lst (itemsD t.1 t.2))) Γ1 M1
  | none => False
theorem paired_items : ∀ {ks : List L2.Key} {ds : List D} {xs : List V} {ts : List Addr} {H' G' : Hp}, ks.length = ds.length → RepL K G' ds xs → Paired (fun (t : Addr) (q : L2.Key × V) => H' t = some (.tup [kV q.1, q.2])) ts (ks.zip xs) → (∀ t ∈ ts, G' t = H' t) → RepL K G' (itemsD ks ds) (ts.map V.ref)
  | [], [], xs, ts, H', G', _, h, hp, _ => by
    rw [repL_nil.mp h, List.zip_nil_right] at hp
    cases hp
    exact repL_nil.mpr rfl
  | k :: ks, d :: ds, xs, ts, H', G', hl, h, hp, hG => by
    obtain ⟨x, r, rfl, h1, h2⟩ := repL_cons.mp h
    rw [List.zip_cons_cons] at hp
    cases hp with
    | @cons t _ ts _ ht hr =>
      refine repL_cons.mpr ⟨_, _, rfl, ?_, paired_items (by simpa using hl) h2 hr fun t' z => hG t' (List.mem_cons_of_mem _ z)⟩
      refine rep_tup.mpr ⟨t, _, rfl, SqT.of (by rw [hG t List.mem_cons_self]; exact ht), repL_cons.mpr ⟨_, _, rfl, rep_kD _, RepL.one h1⟩⟩
theorem q_lItems {p apos cpos : Pos} (hm : X.mg "list" = none) (h : QE X ρ e te ae) (hc : X.calm = true := by rfl) (hg : Gl X "list" := by rfl) (hv : bootBuiltins "list" = some (.type "list") := by decide +kernel) (hbase : attributeBase e "items" X.env (eval e X.env) = eval e X.env := by rfl) (hline : (apos.endLine == cpos.line) = true := by rfl)
    (hs : starEach [.Call (.Attribute e "items" apos) [] [] cpos] X.env = (false, eval (.Call (.Attribute e "items" apos) [] [] cpos) X.env) :: starEach [] X.env := by rfl) :
    QE X ρ (.Call (.Name "list" p) [.Call (.Attribute e "items" apos) [] [] cpos] [] pos) (tLItems te) (aLItems ae) := ⟨pe_lItems hc h.pe hg hm hv hbase hline hs, by
  intro B σ H G Γ M Q R k hh q
  refine h.rd B σ H G Γ M _ _ k hh fun v H1 G1 Γ1 M1 r k1 e1 rr h1 => ?_
  split at h1
  · rename_i t ht
    obtain ⟨l, xs, rfl, hd, hl, hx⟩ := dctOf_ok k1 rr ht
    refine ⟨l, _, rfl, hd, fun H' p ts hh' hp hts hpt hp' hpa => ?_⟩
    obtain ⟨k2, e2⟩ := k1.grow (T := ts) hh' hts
    obtain ⟨m1, n1, b1, g1⟩ := k1.fresh hp
    refine q _ H' _ Γ1 M1 (.tmp (.lst (itemsD t.1 t.2))) k2 (e1.trans e2) ⟨p, rfl, e1.nn p hp, b1, ⟨by show (if p ∈ ts then H' p else G1 p) = none; rw [if_neg hpt]; exact g1, _, hp', _, rfl, ?_⟩, m1, n1⟩ h1
    exact paired_items hl (hx.mono e2.g) hpa fun t ht => by show (if t ∈ ts then H' t else G1 t) = H' t; rw [if_pos ht]
  · exact h1.elim⟩
def pairsOf : List D → Option (List (L2.Key × D))
  | [] => some []
  | .tup [y, d] :: ds => match keyD y with
    | some k => (pairsOf ds).map ((k, d) :: ·)
    | none => none
  | _ :: _ => none
theorem pairsOf_ok : ∀ {ds : List D} {kds : List (L2.Key × D)} {xs : List V}, pairsOf ds = some kds → RepL K G ds xs → ∃ (ps : List Addr) (kvs : List (L2.Key × V)), xs = ps.map V.ref ∧ Paired (fun p kv => SqT K G p [kV kv.1, kv.2]) ps kvs ∧ RepKs K G kds kvs := by
  intro ds
  induction ds with
  | nil => intro kds xs e h; cases e; exact ⟨[], [], repL_nil.mp h, .nil, rfl⟩
  | cons d0 ds ih =>
    intro kds xs e h
    unfold pairsOf at e
    split at e
    · rename_i z; cases z
    · rename_i y d ds' z
      cases z
      split at e
      · rename_i key hy
        obtain ⟨kds', e1, rfl⟩ := Option.map_eq_some_iff.mp e
        obtain ⟨x, r, rfl, h1, h2⟩ := repL_cons.mp h
        obtain ⟨p, ys, rfl, hp, hys⟩ := rep_tup.mp h1
        obtain ⟨yv, r1, rfl, hyv, h3⟩ := repL_cons.mp hys
        obtain ⟨dv, r2, rfl, hdv, h4⟩ := repL_cons.mp h3
        have := repL_nil.mp h4; subst this
        have := rep_key hyv hy; subst this
        obtain ⟨ps, kvs, rfl, hq, hr⟩ := ih e1 h2
        exact ⟨p :: ps, (key, dv) :: kvs, rfl, .cons hp hq, dv, kvs, rfl, hdv, hr⟩
      · cases e
    · cases e
def aDictP (r : Ret) (Γ : Sl) (M : Mem) (Q : Ret → Sl → Mem → Prop) : Prop := match sqOf r Γ M with
  | some (.lst ds) => match pairsOf ds with
    | some kds => Q (.tmp (.dct (mergeA ([], []) kds).1 (mergeA ([], []) kds).2)) Γ M
    | none => False
  | _ => False
theorem paired_mono {α β : Type} {F F' : α → β → Prop} (h : ∀ a b, F a b → F' a b) : ∀ {xs : List α} {ys : List β}, Paired F xs ys → Paired F' xs ys
  | _, _, .nil => .nil
  | _, _, .cons r t => .cons (h _ _ r) (paired_mono h t)
theorem rd_dictP : RdU K ρ (fun xs H Q => ∃ (a : Addr) (ps : List Addr) (kvs : List (L2.Key × V)), xs = [.ref a] ∧ SqL K H a (ps.map V.ref) ∧ Paired (fun p kv => SqT K H p [kV kv.1, kv.2]) ps kvs ∧
    ∀ p, H p = none → Q (.ref p) (upd H p (.dK (mergeK [] kvs)))) aDictP := by
  intro B σ H H1 G Γ M rx x Q R k r1 h q
  unfold aDictP at h
  split at h
  · rename_i ds hs
    split at h
    · rename_i kds hk
      obtain ⟨a, xs, rfl, ha, hx⟩ := sqOf_ok k r1 hs
      obtain ⟨ps, kvs, rfl, hq, hr⟩ := pairsOf_ok hk hx
      refine ⟨a, ps, kvs, rfl, SqL.of ha, paired_mono (fun p kv z => ex_t k.ex z) hq, fun p hp => ?_⟩
      obtain ⟨xs', e3, h3, h4⟩ := mergeA_ok (t := ([], [])) rfl (repL_nil.mpr rfl) hr
      have e3' : mergeK [] kvs = (mergeA ([], []) kds).1.zip xs' := e3
      rw [e3']
      obtain ⟨k2, e2, hm, hn, hb, hg⟩ := k.tmp (o := .dK ((mergeA ([], []) kds).1.zip xs')) hp
      exact q _ _ _ Γ M (.tmp (.dct _ _)) k2 e2 ⟨p, rfl, hp, hb, ⟨hg, _, upd_same, xs', rfl, h4, h3⟩, hm, hn⟩ h
    · exact h.elim
  · exact h.elim
theorem q_dictP {p : Pos} (hm : X.mg "dict" = none) (ha : QE X ρ a ta aa) (hc : X.calm = true := by rfl) (hg : Gl X "dict" := by rfl) (na : starEach [a] X.env = (false, eval a X.env) :: starEach [] X.env := by rfl) (hK : X.K = K := by rfl) :
    QE X ρ (.Call (.Name "dict" p) [a] [] pos) (tCB (fun xs H Q => ∃ (a : Addr) (ps : List Addr) (kvs : List (L2.Key × V)), xs = [.ref a] ∧ SqL K H a (ps.map V.ref) ∧ Paired (fun p kv => SqT K H p [kV kv.1, kv.2]) ps kvs ∧
    ∀ p, H p = none → Q (.ref p) (upd H p (.dK (mergeK [] kvs)))) (tCons ta tNil)) (aCall1 aDictP aa) := by subst hK; exact q_callT1 (call_dictP hc) rd_dictP hm ha hg (na := na)
end
end Gw

namespace Gw
open PySem L2
variable {ρ : Ent}
open PyProof.Rows hiding St
/-! ### chains of comparisons, of any length -/
abbrev TL := V → TE
abbrev AL := Ret → AE
def tLast (r : R2) (tb : TE) : TL := fun x σ H Q => tb σ H fun y H1 => r x y H1 Q
def tLink (r : R2) (tb : TE) (t : TL) : TL := fun x σ H Q => tb σ H fun y H1 => r x y H1 fun z H2 => ∃ k, z = .bl k ∧ (if k = true then t y σ H2 Q else Q (.bl false) H2)
def tChainN (ta : TE) (t : TL) : TE := fun σ H Q => ta σ H fun x H1 => t x σ H1 Q
def aLast (ao : AOp) (ab : AE) (x : Ret) (Γ : Sl) (M : Mem) (Q : Ret → Sl → Mem → Prop) : Prop := ab Γ M fun y Γ1 M1 => ao x y Γ1 M1 Q
def aLink (ao : AOp) (ab : AE) (al : AL) (x : Ret) (Γ : Sl) (M : Mem) (Q : Ret → Sl → Mem → Prop) : Prop := ab Γ M fun y Γ1 M1 => ao x y Γ1 M1 fun z Γ2 M2 => match z with
  | .dat (.bl k) => if k = true then al y Γ2 M2 Q else Q (.dat (.bl false)) Γ2 M2
  | _ => False
def aChainN (aa : AE) (al : AL) (Γ : Sl) (M : Mem) (Q : Ret → Sl → Mem → Prop) : Prop := aa Γ M fun x Γ1 M1 => al x Γ1 M1 Q
structure QL (X : Cx) (ρ : Ent) (ops : List CmpOp) (rs : List Expr) (t : TL) (al : AL) : Prop where
  run : ∀ (pos : Pos) (pins : List (Addr × Obj)) (s : Shared) (σ : L2.St) (H : Hp) (Q : VK) (x : V) (v : Value), Inv X pins σ H s → RelV x v → t x σ H Q → wpAny (model X.prog X.w) X.A (compareChain pos v ops (evalEach rs X.env)) (EP X pins σ Q) X.xe s
  tst : ∀ (pos : Pos) (pins : List (Addr × Obj)) (s : Shared) (σ : L2.St) (H : Hp) (Q : Bool → Hp → Prop) (x : V) (v : Value), Inv X pins σ H s → RelV x v → t x σ H (fun z H' => ∃ k, z = .bl k ∧ Q k H') →
    wpAny (model X.prog X.w) X.A (testChain pos v ops (evalEach rs X.env)) (fun b s' => ∃ H', Inv X pins σ H' s' ∧ Q b H') X.xe s
  rd : ∀ B σ H H0 G Γ M rx x Q R, Ok X.K ρ B σ H G Γ M → RepR X.K B σ H0 H G Γ M rx x → al rx Γ M Q → Kont X.K ρ B σ H G Γ M Q R → t x σ H R
section
variable {X : Cx} {a b c e : Expr} {ta tb tc te : TE} {aa ab ac ae : AE} {pos : Pos} {K : PySem.W.Frag} {B : Ent} {σ : L2.St} {H G H1 G1 H2 G2 H0 : Hp} {Γ Γ1 Γ2 : Sl} {M M1 M2 : Mem}
theorem ql_last {op : CmpOp} {r : R2} {ao : AOp} (c : CmpR X ρ op r ao) (hb : QE X ρ b tb ab) : QL X ρ [op] [b] (tLast r tb) (aLast ao ab) := ⟨
  fun pos pins s σ H Q x v I rx h => chain_last (thn (hb.pe.run pins s σ H _ I h) fun u s1 ⟨y, H1, I1, r1, q1⟩ => c.ho pins s1 σ H1 x y v u Q I1 rx r1 q1),
  fun pos pins s σ H Q x v I rx h => test_last (thn (hb.pe.run pins s σ H _ I h) fun u s1 ⟨y, H1, I1, r1, q1⟩ => thn (c.ho pins s1 σ H1 x y v u _ I1 rx r1 q1) fun d s2 ⟨z, H2, I2, r2, k, e, q⟩ => by
    subst e; cases r2
    exact wpAny_truthy_bool ⟨H2, I2, q⟩),
  fun B σ H H0 G Γ M rx x Q R k rr h q => hb.rd B σ H G Γ M _ _ k h fun u H1 G1 Γ1 M1 r1 k1 e1 rr1 h1 => c.rd B σ H1 _ _ G1 Γ1 M1 rx r1 x u Q R k1 (rr.es e1) rr1 h1 (q.es e1)⟩
theorem ql_link {op op' : CmpOp} {ops : List CmpOp} {b' : Expr} {rs : List Expr} {r : R2} {ao : AOp} {t : TL} {al : AL} (c : CmpR X ρ op r ao) (hb : QE X ρ b tb ab) (hl : QL X ρ (op' :: ops) (b' :: rs) t al) : QL X ρ (op :: op' :: ops) (b :: b' :: rs) (tLink r tb t) (aLink ao ab al) := ⟨
  fun pos pins s σ H Q x v I rx h => chain_link (thn (hb.pe.run pins s σ H _ I h) fun u s1 ⟨y, H1, I1, r1, q1⟩ => thn (c.ho pins s1 σ H1 x y v u _ I1 rx r1 q1) fun d s2 ⟨z, H2, I2, r2, k, e, q⟩ => by
    subst e; cases r2
    refine wpAny_truthy_bool ?_
    cases k with
    | false => exact ite_ff ⟨.bl false, H2, I2, rfl, by simpa using q⟩
    | true => exact ite_tt (hl.run pos pins s2 σ H2 Q y u I2 r1 (by simpa using q))),
  fun pos pins s σ H Q x v I rx h => test_link (thn (hb.pe.run pins s σ H _ I h) fun u s1 ⟨y, H1, I1, r1, q1⟩ => thn (c.ho pins s1 σ H1 x y v u _ I1 rx r1 q1) fun d s2 ⟨z, H2, I2, r2, k, e, q⟩ => by
    subst e; cases r2
    refine wpAny_truthy_bool ?_
    cases k with
    | false =>
      have q' : ∃ k, V.bl false = .bl k ∧ Q k H2 := by simpa using q
      obtain ⟨k', e', q'⟩ := q'
      cases e'
      exact ite_ff ⟨H2, I2, q'⟩
    | true => exact ite_tt (hl.tst pos pins s2 σ H2 Q y u I2 r1 (by simpa using q))),
  fun B σ H H0 G Γ M rx x Q R k rr h q => hb.rd B σ H G Γ M _ _ k h fun u H1 G1 Γ1 M1 r1 k1 e1 rr1 h1 => c.rd B σ H1 _ _ G1 Γ1 M1 rx r1 x u _ _ k1 (rr.es e1) rr1 h1 fun z H2 G2 Γ2 M2 r2 k2 e2 rr2 h2 => by
    split at h2
    · rename_i kb
      have e : z = .bl kb := by have := rr2; simp only [RepR, Rep] at this; exact this
      refine ⟨kb, e, ?_⟩
      cases kb with
      | true => exact hl.rd B σ H2 _ G2 Γ2 M2 r1 u Q R k2 (rr1.es e2) (by simpa using h2) (q.es (e1.trans e2))
      | false => exact q _ H2 G2 Γ2 M2 (.dat (.bl false)) k2 (e1.trans e2) (by simp only [RepR, Rep]) (by simpa using h2)
    · exact h2.elim⟩
theorem rd_chainN {ops : List CmpOp} {rs : List Expr} {t : TL} {al : AL} (ha : RdE X.K ρ ta aa) (hl : QL X ρ ops rs t al) : RdE X.K ρ (tChainN ta t) (aChainN aa al) := fun B σ H G Γ M Q R k h q =>
  ha B σ H G Γ M _ _ k h fun v H1 G1 Γ1 M1 r1 k1 e1 rr1 h1 => hl.rd B σ H1 _ G1 Γ1 M1 r1 v Q R k1 rr1 h1 (q.es e1)
theorem q_chainN {op op' : CmpOp} {ops : List CmpOp} {b' : Expr} {rs : List Expr} {t : TL} {al : AL} (ha : QE X ρ a ta aa) (hl : QL X ρ (op :: op' :: ops) (b :: b' :: rs) t al) (hm : lastMarks (op :: op' :: ops) (b :: b' :: rs) = false := by with_unfolding_all rfl) :
    QE X ρ (.Compare a (op :: op' :: ops) (b :: b' :: rs) pos) (tChainN ta t) (aChainN aa al) :=
  ⟨⟨fun pins s σ H Q I h => Compare_chain (thn (ha.pe.run pins s σ H _ I h) fun v s1 ⟨x, H1, I1, r1, q1⟩ => hl.run pos pins s1 σ H1 Q x v I1 r1 q1) hm⟩, rd_chainN ha.rd hl⟩
theorem qt_chainN {op op' : CmpOp} {ops : List CmpOp} {b' : Expr} {rs : List Expr} {t : TL} {al : AL} (ha : QE X ρ a ta aa) (hl : QL X ρ (op :: op' :: ops) (b :: b' :: rs) t al) (hm : lastMarks (op :: op' :: ops) (b :: b' :: rs) = false := by with_unfolding_all rfl) :
    QT X ρ (.Compare a (op :: op' :: ops) (b :: b' :: rs) pos) (tTest (tChainN ta t)) (aTst (aChainN aa al)) :=
  ⟨⟨fun pins s σ H Q I h => isTrue_chain (thn (ha.pe.run pins s σ H _ I h) fun v s1 ⟨x, H1, I1, r1, q1⟩ => hl.tst pos pins s1 σ H1 Q x v I1 r1 q1) hm⟩, rd_tst' (rd_chainN ha.rd hl)⟩
/-! ### a, b, .. = a list -/
def agTL (n : Nat) (u : AGs) (d : D) (Γ : Sl) (Q : Sl → Prop) : Prop := match d with
  | .lst ds => ds.length = n ∧ u ds Γ Q
  | _ => False
theorem rd_gTL {n : Nat} {u : TGs} {ag : AGs} {is : List Nat} (h2 : RdGs K ρ u ag is) : RdG K ρ (gUnl K n u) (agTL n ag) is := fun B σ H G Γ M d v Q R k r h q => by
  unfold agTL at h
  split at h
  · rename_i ds
    obtain ⟨a, xs, e, hq, rl⟩ := rep_lst.mp r
    exact ⟨a, xs, e, SqL.of (k.ex _ _ hq), by rw [rl.length]; exact h.1, h2 B σ H G Γ M ds xs Q R k rl h.2 q⟩
  · exact h.elim
theorem qg_tupL {es : List Expr} {kk n : Nat} {u : TGs} {ag : AGs} {is : List Nat} (h : QGs X ρ es u ag is) (hc : X.calm = true := by rfl) (hn : (assignEach es X.env).length = n := by rfl) (hst : (assignEach es X.env).findIdx? (·.1) = none := by rfl) (hK : X.K = K := by rfl) : QG X ρ (.Tuple es kk pos) (gUnl K n u) (agTL n ag) is := by
  subst hK; exact ⟨pg_unl hc h.pe hn hst, rd_gTL h.rd⟩
/-! ### dict(enumerate(xs)) -/
def enumK {α : Type} : Nat → List α → List (L2.Key × α)
  | _, [] => []
  | i, x :: xs => (.inl (i : Int), x) :: enumK (i + 1) xs
theorem enumK_get {α : Type} : ∀ (xs : List α) (n i : Nat) (x : α), xs[i]? = some x → (enumK n xs)[i]? = some (.inl ((n + i : Nat) : Int), x)
  | [], _, i, x, h => by simp at h
  | y :: xs, n, 0, x, h => by simp at h; subst h; rfl
  | y :: xs, n, i + 1, x, h => by
    have := enumK_get xs (n + 1) i x (by simpa using h)
    rw [enumK, List.getElem?_cons_succ, this, show n + 1 + i = n + (i + 1) by omega]
theorem enumK_len {α : Type} : ∀ (xs : List α) (n : Nat), (enumK n xs).length = xs.length
  | [], _ => rfl
  | y :: xs, n => by rw [enumK, List.length_cons, List.length_cons, enumK_len xs]
theorem enumK_vals : ∀ {xs : List V} {us : List Value} {n : Nat}, Vals xs us → KV (enumK n xs) (enumK n us)
  | [], _, n, r => by cases r; exact .nil
  | x :: xs, _, n, r => by
    cases r with
    | cons h t => exact .cons ⟨rfl, h⟩ (enumK_vals t)
theorem enumK_rep : ∀ {ds : List D} {xs : List V} {n : Nat}, RepL K G ds xs → RepKs K G (enumK n ds) (enumK n xs)
  | [], _, n, h => by rw [repL_nil.mp h]; rfl
  | d :: ds, _, n, h => by
    obtain ⟨x, r, rfl, h1, h2⟩ := repL_cons.mp h
    exact ⟨x, _, rfl, h1, enumK_rep h2⟩
def tDictEnum (K : PySem.W.Frag) (te : TE) : TE := fun σ H Q => te σ H fun x H1 => ∃ a xs, x = .ref a ∧ SqL K H1 a xs ∧ ∀ p, H1 p = none → Q (.ref p) (upd H1 p (.dK (mergeK [] (enumK 0 xs))))
theorem pe_dictEnum {p p2 cpos : Pos} (hc : X.calm = true) (he : PE X e te) (hg : Gl X "dict") (hm : X.mg "dict" = none) (hv : bootBuiltins "dict" = some (.type "dict")) (hg2 : Gl X "enumerate") (hm2 : X.mg "enumerate" = none)
    (hs : starEach [.Call (.Name "enumerate" p2) [e] [] cpos] X.env = (false, eval (.Call (.Name "enumerate" p2) [e] [] cpos) X.env) :: starEach [] X.env := by rfl) (hs2 : starEach [e] X.env = (false, eval e X.env) :: starEach [] X.env := by rfl) :
    PE X (.Call (.Name "dict" p) [.Call (.Name "enumerate" p2) [e] [] cpos] [] pos) (tDictEnum X.K te) := by
  refine ⟨fun pins s σ H Q I hq => ?_⟩
  refine wpAny_Call_Name_kw (ld_blt I hg hm hv ?_)
  refine PyProof.Rows.callWith_type1 ?_ hs rfl
  rw [hs]
  show wpAny _ _ (spliced ((false, eval (.Call (.Name "enumerate" p2) [e] [] cpos) X.env) :: backTo pos (starEach [] X.env))) _ _ s
  refine Calls.spliced_cons ?_
  refine wpAny_Call_Name_kw (ld_blt I hg2 hm2 boot_enumerate ?_)
  refine PyProof.Rows.callWith_type1 ?_ hs2 rfl
  rw [hs2]
  show wpAny _ _ (spliced ((false, eval e X.env) :: backTo cpos (starEach [] X.env))) _ _ s
  refine Calls.spliced_cons (thn (he.run pins s σ H _ I hq) fun u s1 ⟨x, H1, I1, rx, d, xs, ex, hd, q⟩ => Calls.spliced_nil ?_)
  subst ex
  obtain rfl : u = Value.ref d := rx
  obtain ⟨its, rv, p', hz⟩ := I1.list hd
  refine call_enumerate_list p'.isList fun h' he hit hsz hk => ?_
  refine Calls.spliced_nil ?_
  have hl : s1.heap.objs.size ≠ d := by
    obtain ⟨o, n, ho, _⟩ := p'
    exact Nat.ne_of_gt (Heap.lt_size ho)
  have hl2 : s1.heap.objs.size + 1 ≠ d := by
    obtain ⟨o, n, ho, _⟩ := p'
    exact Nat.ne_of_gt (Nat.lt_succ_of_lt (Heap.lt_size ho))
  refine PySem.call_dict_pairs (knd := mixKind X.prog X.w) (kvs := enumK 0 its) (PairArg.enumerate (s1.heap.objs.size + 1) s1.heap.objs.size d (Nat.succ_ne_self _) (Ne.symm hl2) (Ne.symm hl) its.toArray) (I1.ok.hd hc) ⟨⟨_, he⟩, hit, (p'.isList).at fun o x => hk _ o x⟩ ⟨by rw [enumK_len]; simp, fun i key v hr => ?_⟩ (by rw [show its.toArray.size = its.length by simp, ← rv.length]; exact hz) fun h'' tk hd' hk' => ?_
  · obtain ⟨⟨t, rfl⟩, hi⟩ := hr
    have := enumK_get its 0 i v (by simpa using hi)
    rw [Nat.zero_add] at this
    exact ⟨_, this, kV_is (k := .inl (i : Int)) ⟨t, rfl⟩⟩
  · have hm' : (h'.objs.size == sysModules) = false := beq_eq_false_iff_ne.mpr (by rw [hsz]; exact Nat.ne_of_gt (Nat.lt_of_lt_of_le I1.big (Nat.le_add_right _ 2)))
    have hlen : (mergeK [] (enumK 0 xs)).length ≤ sizeLine := by
      refine Nat.le_trans (length_mergeK _ []) ?_
      rw [List.length_nil, Nat.zero_add, enumK_len]; exact hz
    have keep : ∀ b o, s1.heap.get? b = some o → h''.get? b = some o := fun b o eb => hk' b o (fun hb => by
      have := Heap.lt_size eb
      simp at hb
      rcases hb with z | z
      · rw [z] at this; exact absurd this (Nat.not_lt.mpr (Nat.le_add_right _ 1))
      · rw [z] at this; exact Nat.lt_irrefl _ this) (hk b o eb)
    exact ⟨.ref h'.objs.size, upd H1 h'.objs.size (.dK (mergeK [] (enumK 0 xs))), I1.laid (t' := tk) keep (by rw [hsz]; omega) (show ObjOk X.prog X.w _ _ _ (.dK (mergeK [] (enumK 0 xs))) from ⟨hlen, hm', merged [] (enumK 0 its), KV.merge (enumK_vals rv) .nil, hd'⟩), rfl, q _ (I1.hok.fresh (by rw [hsz]; omega))⟩
def aDictEnum (aa : AE) (Γ : Sl) (M : Mem) (Q : Ret → Sl → Mem → Prop) : Prop := aa Γ M fun r Γ1 M1 => match sqOf r Γ1 M1 with
  | some (.lst ds) => Q (.tmp (.dct (mergeA ([], []) (enumK 0 ds)).1 (mergeA ([], []) (enumK 0 ds)).2)) Γ1 M1
  | _ => False
theorem q_dictEnum {p p2 cpos : Pos} (hm : X.mg "dict" = none) (hm2 : X.mg "enumerate" = none) (h : QE X ρ e te ae) (hc : X.calm = true := by rfl) (hg : Gl X "dict" := by rfl) (hv : bootBuiltins "dict" = some (.type "dict") := by decide +kernel) (hg2 : Gl X "enumerate" := by rfl)
    (hs : starEach [.Call (.Name "enumerate" p2) [e] [] cpos] X.env = (false, eval (.Call (.Name "enumerate" p2) [e] [] cpos) X.env) :: starEach [] X.env := by rfl) (hs2 : starEach [e] X.env = (false, eval e X.env) :: starEach [] X.env := by rfl) (hK : X.K = K := by rfl) :
    QE X ρ (.Call (.Name "dict" p) [.Call (.Name "enumerate" p2) [e] [] cpos] [] pos) (tDictEnum K te) (aDictEnum ae) := by
  subst hK
  refine ⟨pe_dictEnum hc h.pe hg hm hv hg2 hm2 hs hs2, ?_⟩
  intro B σ H G Γ M Q R k hh q
  refine h.rd B σ H G Γ M _ _ k hh fun v H1 G1 Γ1 M1 r k1 e1 rr h1 => ?_
  split at h1
  · rename_i ds hs
    obtain ⟨a, xs, rfl, ha, hx⟩ := sqOf_ok k1 rr hs
    refine ⟨a, xs, rfl, SqL.of ha, fun p hp => ?_⟩
    obtain ⟨xs', e3, h3, h4⟩ := mergeA_ok (t := ([], [])) rfl (repL_nil.mpr rfl) (enumK_rep (n := 0) hx)
    have e3' : mergeK [] (enumK 0 xs) = (mergeA ([], []) (enumK 0 ds)).1.zip xs' := e3
    rw [e3']
    obtain ⟨k2, e2, hm, hn, hb, hg⟩ := k1.tmp (o := .dK ((mergeA ([], []) (enumK 0 ds)).1.zip xs')) hp
    exact q _ _ _ Γ1 M1 (.tmp (.dct _ _)) k2 (e1.trans e2) ⟨p, rfl, e1.nn p hp, hb, ⟨hg, _, upd_same, xs', rfl, h4, h3⟩, hm, hn⟩ h1
  · exact h1.elim
end
end Gw

namespace Gw
open PySem L2
variable {ρ : Ent}
section
variable {X : Cx} {a b c e : Expr} {ta tb tc te : TE} {aa ab ac ae : AE} {pos : Pos} {K : PySem.W.Frag} {B : Ent} {σ : St} {H G H1 G1 H2 G2 H0 : Hp} {Γ Γ1 Γ2 : Sl} {M M1 M2 : Mem}
/-! ### isinstance of the kinds of data -/
inductive Knd where
  | int | bool | str | tuple | list | dict
def Knd.nm : Knd → String
  | .int => "int" | .bool => "bool" | .str => "str" | .tuple => "tuple" | .list => "list" | .dict => "dict"
def isD : Knd → D → Bool
  | .int, .int _ => true
  | .int, .bl _ => true
  | .bool, .bl _ => true
  | .str, .str _ => true
  | .tuple, .tup _ => true
  | .list, .lst _ => true
  | .list, .scr _ => true
  | .dict, .dct _ _ => true
  | _, _ => false
def tyN : D → String
  | .non => "NoneType" | .bl _ => "bool" | .int _ => "int" | .str _ => "str" | .tup _ => "tuple" | .lst _ => "list" | .scr _ => "list" | .dct _ _ => "dict" | .ref _ => "object" | .exc _ _ _ => "object"
def NoRef : D → Prop
  | .ref _ => False
  | .exc _ _ _ => False
  | _ => True
theorem kit_isD (T : Knd) (d : D) (h : NoRef d) : kitB (tyN d) T.nm = some (isD T d) := by
  cases d with
  | ref a => exact h.elim
  | exc _ _ _ => exact h.elim
  | _ => cases T <;> (simp only [tyN, Knd.nm, isD]; decide +kernel)
/-- what stands there, as a kind of data -/
def kdOf (r : Ret) (Γ : Sl) (M : Mem) : Option D := match r with
  | .dat d => match d with
    | .ref a => match M.lookup a with
      | some (.lst ds) => some (.lst ds)
      | some (.dct ks ds) => some (.dct ks ds)
      | none => none
    | .exc _ _ _ => none
    | d => some d
  | .tmp (.lst ds) => some (.lst ds)
  | .tmp (.dct ks ds) => some (.dct ks ds)
  | .var i => match Γ[i]? with
    | some (.own (.lst ds)) => some (.lst ds)
    | some (.own (.dct ks ds)) => some (.dct ks ds)
    | _ => none
theorem ty_tup {p : Addr} {xs : List V} (h : SqT K H p xs) : TyX K H (.ref p) (.type "tuple") := by
  rcases h with (h | ⟨o, h⟩) | ⟨o, its, n, h1, h2, _⟩
  · exact .base (.tup h)
  · exact .fTuple h
  · exact .kTuple h1 h2
theorem ty_lst {p : Addr} {xs : List V} (h : SqL K H p xs) : TyX K H (.ref p) (.type "list") := by
  rcases h with (h | ⟨o, h⟩) | ⟨o, its, n, h1, h2, _⟩
  · exact .base (.lst h)
  · exact .base (.frz h)
  · exact .kList h1 h2
theorem rep_ty {d : D} {v : V} (o : Ex G H) (h : Rep K G d v) (n : NoRef d) : TyX K H v (.type (tyN d)) := by
  cases d with
  | non => rw [Rep] at h; subst h; exact .base .non
  | bl b => rw [Rep] at h; subst h; exact .base (.bl b)
  | int b => rw [Rep] at h; subst h; exact .base (.int b)
  | str b => rw [Rep] at h; subst h; exact .base (.str b)
  | ref a => exact n.elim
  | exc _ _ _ => exact n.elim
  | tup ds => obtain ⟨p, xs, rfl, h1, _⟩ := rep_tup.mp h; exact ty_tup (ex_t o h1)
  | lst ds => obtain ⟨p, xs, rfl, h1, _⟩ := rep_lst.mp h; exact .base (.lst (o _ _ h1))
  | scr ds => obtain ⟨p, xs, rfl, h1, _⟩ := rep_scr.mp h; exact ty_lst (ex_l o h1)
  | dct ks ds => obtain ⟨p, u, xs, rfl, h1, _⟩ := rep_dct.mp h; exact .fDict (o _ _ h1)
theorem cel_ty {p : Addr} {c : Cell} (h : Cel K H G p c) : TyX K H (.ref p) (.type (match c with | .lst _ => "list" | .dct _ _ => "dict")) := by
  obtain ⟨_, o, ho, hc⟩ := h
  cases c with
  | lst ds => obtain ⟨vs, rfl, _⟩ := hc; exact .base (.lst ho)
  | dct ks ds => obtain ⟨vs, rfl, _⟩ := hc; exact .base (.dK ho)
theorem kdOf_ok {r : Ret} {v : V} {d : D} {H0 : Hp} (k : Ok K ρ B σ H G Γ M) (rr : RepR K B σ H0 H G Γ M r v) (h : kdOf r Γ M = some d) : TyX K H v (.type (tyN d)) ∧ NoRef d := by
  cases r with
  | dat d' =>
    cases d' with
    | ref p =>
      simp only [kdOf] at h
      have rv : v = .ref p := by have := rr; simp only [RepR, Rep] at this; exact this
      subst rv
      split at h
      · rename_i ds e; cases h; exact ⟨cel_ty (k.ms p _ (lookup_mem e)), trivial⟩
      · rename_i ks ds e; cases h; exact ⟨cel_ty (k.ms p _ (lookup_mem e)), trivial⟩
      · cases h
    | exc _ _ _ => cases h
    | _ => cases h; exact ⟨rep_ty k.ex rr trivial, trivial⟩
  | tmp c =>
    obtain ⟨p, rfl, _, _, hc, _⟩ := rr
    cases c with
    | lst ds => cases h; exact ⟨cel_ty hc, trivial⟩
    | dct ks ds => cases h; exact ⟨cel_ty hc, trivial⟩
  | var i =>
    simp only [kdOf] at h
    split at h
    · rename_i ds e
      cases h
      obtain ⟨p, s1, _, _, hc⟩ := k.own i _ e
      have : v = .ref p := by have := (show σ[i]? = some (some v) from rr); rw [s1] at this; cases this; rfl
      subst this
      exact ⟨cel_ty hc, trivial⟩
    · rename_i ks ds e
      cases h
      obtain ⟨p, s1, _, _, hc⟩ := k.own i _ e
      have : v = .ref p := by have := (show σ[i]? = some (some v) from rr); rw [s1] at this; cases this; rfl
      subst this
      exact ⟨cel_ty hc, trivial⟩
    · cases h
def aIsi (T : Knd) (r : Ret) (Γ : Sl) (M : Mem) (Q : Ret → Sl → Mem → Prop) : Prop := match kdOf r Γ M with
  | some d => Q (.dat (.bl (isD T d))) Γ M
  | none => False
def tIsi (K : PySem.W.Frag) (T : Knd) (te : TE) : TE := tCB (rIsi K) (tCons te (tCons (tC (.ty T.nm)) tNil))
theorem q_isi (T : Knd) {p p2 : Pos} {tn : Str} (hm : X.mg "isinstance" = none) (hm2 : X.mg tn = none) (ha : QE X ρ a ta aa) (hg : Gl X "isinstance" := by rfl) (hg2 : Gl X tn := by rfl) (hv : bootBuiltins tn = some (.type T.nm) := by decide +kernel) (hn : tn ≠ "__name__" := by decide) (hdb : (tn == ("__debug__" : Str)) = false := by decide)
    (na : starEach [a, .Name tn p2] X.env = (false, eval a X.env) :: starEach [.Name tn p2] X.env := by rfl) (hpl : (backTo pos (starEach [.Name tn p2] X.env)).any (·.1) = false := by rfl) (hK : X.K = K := by rfl) :
    QE X ρ (.Call (.Name "isinstance" p) [a, .Name tn p2] [] pos) (tIsi K T ta) (aUn (aIsi T) aa) := by
  subst hK
  refine ⟨pe_callB call_isi hg hm (by decide +kernel) (pa_cons ha.pe (pa_cons (pe_bltn hg2 hm2 hv rfl hn hdb) pa_nil rfl) na) (by decide) (by decide) na hpl, ?_⟩
  intro B σ H G Γ M Q R k h q
  refine ha.rd B σ H G Γ M _ _ k h fun v H1 G1 Γ1 M1 r k1 e1 rr h1 => ?_
  unfold aIsi at h1
  split at h1
  · rename_i d hd
    obtain ⟨ty, nr⟩ := kdOf_ok k1 rr hd
    refine ⟨v, .ty T.nm, .type (tyN d), .type T.nm, isD T d, rfl, .ty _, ty, kit_ty (kit_isD T d nr), q _ H1 G1 Γ1 M1 (.dat (.bl _)) k1 e1 (by simp only [RepR, Rep]) h1⟩
  · exact h1.elim
theorem room_inD {A : Around} {d : PyData} {k : Nat} (sd : SeqAt.shaped d = true) (hu : A.units + 65 < cLine) : A.units + 1 + min k d.depth < cLine := by
  have h : d.depth ≤ 64 := by unfold SeqAt.shaped at sd; simp only [Bool.and_eq_true, decide_eq_true_eq] at sd; exact sd.2
  have := Nat.min_le_right k d.depth
  omega
/-! ### membership of data in tuples and lists of data -/
def rInT (K : PySem.W.Frag) (neg : Bool) : R2 := fun x y H Q => ∃ d ds, Dp K H x d ∧ (Dp K H y (.tuple ds) ∨ Dp K H y (.list ds)) ∧ SeqAt.shaped d = true ∧ SeqAt.shaped (.list ds) = true ∧ Q (.bl (if neg then !(ds.any fun z => PyData.eqv z d) else ds.any fun z => PyData.eqv z d)) H
theorem op_inT (hu : X.A.units + 65 < cLine) : OpR X (compareOp .In) (rInT X.K false) := by
  intro pins s σ H x y v u Q I rx ry h
  obtain ⟨d, ds, hd, he, sd, se, q⟩ := h
  obtain ⟨as, r1⟩ := Dp.reads I d x v hd rx
  rcases he with he | he
  · obtain ⟨bs, r2⟩ := Dp.reads I (.tuple ds) y u he ry
    exact SeqAt.in_tuple_reads r2 r1 (SeqAt.canLay_of_shaped se) (SeqAt.canLay_of_shaped sd) (room_inD sd hu) ⟨.bl _, H, I, rfl, q⟩
  · obtain ⟨bs, r2⟩ := Dp.reads I (.list ds) y u he ry
    exact SeqAt.in_list_reads r2 r1 (SeqAt.canLay_of_shaped se) (SeqAt.canLay_of_shaped sd) (room_inD sd hu) ⟨.bl _, H, I, rfl, q⟩
theorem op_notInT (hu : X.A.units + 65 < cLine) : OpR X (compareOp .NotIn) (rInT X.K true) := by
  intro pins s σ H x y v u Q I rx ry h
  obtain ⟨d, ds, hd, he, sd, se, q⟩ := h
  obtain ⟨as, r1⟩ := Dp.reads I d x v hd rx
  rcases he with he | he
  · obtain ⟨bs, r2⟩ := Dp.reads I (.tuple ds) y u he ry
    exact SeqAt.notIn_tuple_reads r2 r1 (SeqAt.canLay_of_shaped se) (SeqAt.canLay_of_shaped sd) (room_inD sd hu) ⟨.bl _, H, I, rfl, q⟩
  · obtain ⟨bs, r2⟩ := Dp.reads I (.list ds) y u he ry
    exact SeqAt.notIn_list_reads r2 r1 (SeqAt.canLay_of_shaped se) (SeqAt.canLay_of_shaped sd) (room_inD sd hu) ⟨.bl _, H, I, rfl, q⟩
theorem any_toPyL {d : D} : ∀ ds : List D, ((toPyL ds).any fun z => PyData.eqv z (toPy d)) = inD d ds
  | [] => by rw [toPyL]; rfl
  | e :: ds => by rw [toPyL, List.any_cons, any_toPyL ds]; rfl
def aInT (f : Bool → Bool) (x : Ret) (y : Ret) (Γ : Sl) (M : Mem) (Q : Ret → Sl → Mem → Prop) : Prop := match dOf x Γ M, dOf y Γ M with
  | some d, some e => match e with
    | .tup ds => cmpOk d = true ∧ cmpOk (.lst ds) = true ∧ Q (.dat (.bl (f (inD d ds)))) Γ M
    | .lst ds => cmpOk d = true ∧ cmpOk (.lst ds) = true ∧ Q (.dat (.bl (f (inD d ds)))) Γ M
    | _ => False
  | _, _ => False
theorem rd_inT {neg : Bool} {f : Bool → Bool} (hf : f = if neg then not else id) : RdO K ρ (rInT K neg) (aInT f) := by
  intro B σ H H1 H2 G Γ M rx ry x y Q R k r1 r2 h q
  unfold aInT at h
  have fin : ∀ (d : D) (ds : List D), RepR K B σ H H G Γ M (.dat (.bl (f (inD d ds)))) (.bl (if neg then !((toPyL ds).any fun z => PyData.eqv z (toPy d)) else (toPyL ds).any fun z => PyData.eqv z (toPy d))) := by
    intro d ds
    subst hf
    rw [any_toPyL]
    cases neg <;> simp [RepR, Rep]
  split at h
  · rename_i d e hd he
    split at h
    · rename_i ds
      obtain ⟨c1, c2, h⟩ := h
      have c1' := c1
      have c2' := c2
      simp only [cmpOk, Bool.and_eq_true] at c1' c2'
      have p2 : Gw.plain (.tup ds) = true := by have := c2'.1; simpa only [Gw.plain] using this
      have e2 := (dOf_ok k r2 he).dp p2
      rw [toPy] at e2
      have s2 := c2'.2
      rw [toPy] at s2
      exact ⟨toPy d, toPyL ds, (dOf_ok k r1 hd).dp c1'.1, .inl e2, c1'.2, s2, q _ H G Γ M (.dat (.bl _)) k .refl (fin d ds) h⟩
    · rename_i ds
      obtain ⟨c1, c2, h⟩ := h
      have c1' := c1
      have c2' := c2
      simp only [cmpOk, Bool.and_eq_true] at c1' c2'
      have e2 := (dOf_ok k r2 he).dp c2'.1
      rw [toPy] at e2
      have s2 := c2'.2
      rw [toPy] at s2
      exact ⟨toPy d, toPyL ds, (dOf_ok k r1 hd).dp c1'.1, .inr e2, c1'.2, s2, q _ H G Γ M (.dat (.bl _)) k .refl (fin d ds) h⟩
    · exact h.elim
  · exact h.elim
theorem c_inT (hu : X.A.units + 100 < cLine) (hK : X.K = K := by rfl) : CmpR X ρ .In (rInT K false) (aInT id) := by subst hK; exact ⟨op_inT (by omega), rd_inT rfl⟩
theorem c_notInT (hu : X.A.units + 100 < cLine) (hK : X.K = K := by rfl) : CmpR X ρ .NotIn (rInT K true) (aInT not) := by subst hK; exact ⟨op_notInT (by omega), rd_inT rfl⟩
/-! ### xs[::-1] of a list, max of whole numbers -/
def aRevL (r : Ret) (Γ : Sl) (M : Mem) (Q : Ret → Sl → Mem → Prop) : Prop := match sqOf r Γ M with
  | some (.lst ds) => Q (.tmp (.lst ds.reverse)) Γ M
  | some (.scr ds) => Q (.tmp (.lst ds.reverse)) Γ M
  | _ => False
theorem q_revL {k : Nat} {p1 p2 p3 : Pos} (ha : QE X ρ a ta aa) (hK : X.K = K := by rfl) : QE X ρ (.Subscript a (.Slice none none (some (.UnaryOp .USub (.Constant (.int 1) k p1) p2)) p3) pos) (tRevL K ta) (aUn aRevL aa) := by
  subst hK
  refine ⟨pe_revL ha.pe, fun B σ H G Γ M Q R k h q => ha.rd B σ H G Γ M _ _ k h fun v H1 G1 Γ1 M1 r k1 e1 rr h1 => ?_⟩
  unfold aRevL at h1
  split at h1
  · rename_i ds hs
    obtain ⟨p, xs, e, hx, rl⟩ := sqOf_ok k1 rr hs
    exact ⟨p, xs, e, SqL.of hx, (q.es e1).newL k1 rl.reverse h1⟩
  · rename_i ds hs
    obtain ⟨p, xs, e, hx, rl⟩ := sqOf_ok k1 rr hs
    exact ⟨p, xs, e, hx, (q.es e1).newL k1 rl.reverse h1⟩
  · exact h1.elim
def aMaxI (lt : Int → Int → Prop) (r : Ret) (Γ : Sl) (M : Mem) (Q : Ret → Sl → Mem → Prop) : Prop := match sqOf r Γ M with
  | some (.lst ds) => match intsOf ds with
    | some ns => 0 < ns.length ∧ ∀ m, m ∈ ns → (∀ y, y ∈ ns → lt y m) → Q (.dat (.int m)) Γ M
    | none => False
  | _ => False
theorem rd_max1 : RdU K ρ (rMax K) (aMaxI fun y m => y ≤ m) := by
  intro B σ H H1 G Γ M rx x Q R k r1 h q
  unfold aMaxI at h
  split at h
  · rename_i ds hs
    split at h
    · rename_i ns hi
      obtain ⟨p, xs, e, hx, rl⟩ := sqOf_ok k r1 hs
      rw [intsOf_ok hi] at rl
      rw [repL_map_int.mp rl] at hx
      exact ⟨p, ns, by rw [e], SqL.of hx, h.1, fun m m1 m2 => q _ H G Γ M (.dat (.int m)) k .refl (by simp only [RepR, Rep]) (h.2 m m1 m2)⟩
    · exact h.elim
  · exact h.elim
theorem rd_min1 : RdU K ρ (rMin K) (aMaxI fun y m => m ≤ y) := by
  intro B σ H H1 G Γ M rx x Q R k r1 h q
  unfold aMaxI at h
  split at h
  · rename_i ds hs
    split at h
    · rename_i ns hi
      obtain ⟨p, xs, e, hx, rl⟩ := sqOf_ok k r1 hs
      rw [intsOf_ok hi] at rl
      rw [repL_map_int.mp rl] at hx
      exact ⟨p, ns, by rw [e], SqL.of hx, h.1, fun m m1 m2 => q _ H G Γ M (.dat (.int m)) k .refl (by simp only [RepR, Rep]) (h.2 m m1 m2)⟩
    · exact h.elim
  · exact h.elim
theorem q_max1 {p : Pos} (hm : X.mg "max" = none) (ha : QE X ρ a ta aa) (hc : X.calm = true := by rfl) (hg : Gl X "max" := by rfl) (na : starEach [a] X.env = (false, eval a X.env) :: starEach [] X.env := by rfl) (hK : X.K = K := by rfl) :
    QE X ρ (.Call (.Name "max" p) [a] [] pos) (tCB (rMax K) (tCons ta tNil)) (aCall1 (aMaxI fun y m => y ≤ m) aa) := by subst hK; exact q_callB1 (cr_max hc) rd_max1 hm ha hg (na := na)
theorem q_min1 {p : Pos} (hm : X.mg "min" = none) (ha : QE X ρ a ta aa) (hc : X.calm = true := by rfl) (hg : Gl X "min" := by rfl) (na : starEach [a] X.env = (false, eval a X.env) :: starEach [] X.env := by rfl) (hK : X.K = K := by rfl) :
    QE X ρ (.Call (.Name "min" p) [a] [] pos) (tCB (rMin K) (tCons ta tNil)) (aCall1 (aMaxI fun y m => m ≤ y) aa) := by subst hK; exact q_callB1 (cr_min hc) rd_min1 hm ha hg (na := na)
/-! ### a, *b = .. and *a, b = .. -/
theorem unp_starT {prog : Program} {w : World} {A : Around} {E : Value → Shared → Prop} {s : Shared} {l : Addr} {items : Array Value} {n i : Nat} {Q : List Value → Shared → Prop} (hl : PyProof.Rows.IsTup s.heap l items) (hh : A.handled = none) (hi : i < n) (hn : n ≤ items.size + 1) (hz : items.size ≤ 16384)
    (h : ∀ h' tk, (∀ b o, s.heap.get? b = some o → h'.get? b = some o) → wpAny (model prog w) A (newList ((items.toList.drop i).take (items.size + 1 - n)) >>= fun d => pure (items.toList.take i ++ [d] ++ (items.toList.drop i).drop (items.size + 1 - n))) Q E { s with heap := h', toks := tk }) : wpAny (model prog w) A (unpackItems (.ref l) n (some i)) Q E s := by
  have hlt : l ≠ s.heap.objs.size := by obtain ⟨o, ho, _⟩ := hl; exact Nat.ne_of_lt (Heap.lt_size ho)
  unfold unpackItems
  refine wpAny_bind ?_
  unfold notIterableAtAll
  refine wpAny_bind (wpAny_specialOf hl.typeIs PyProof.Rows.slot_tuple_iter.lookup ?_)
  refine wpAny_pure ?_
  simp only [Bool.false_eq_true, if_false]
  refine wpAny_bind (wpAny_holding (PyProof.Rows.iter_tuple hl ?_))
  refine wpAny_bind (wpAny_holding (PyProof.Rows.draw_tuple hlt i 0 _ _ ⟨_, Heap.get?_push_size _ rfl, rfl, rfl⟩ (hl.push _) (by omega) fun h₁ hit₁ hs₁ => ?_))
  have hl₁ : PyProof.Rows.IsTup h₁ l items := (hl.push _).extBut hs₁.extBut hlt
  rw [Nat.zero_add] at hit₁
  have hit₁' := hit₁
  obtain ⟨oi, hoi, _⟩ := hit₁'
  have hl₁' := hl₁
  obtain ⟨ol, hol, _⟩ := hl₁'
  rw [List.drop_zero]
  have hfl : (items.toList.take i).length = i := by rw [List.length_take, Array.length_toList]; omega
  rw [if_neg (show ¬ ((items.toList.take i).length < i) by rw [hfl]; omega)]
  refine wpAny_bind (wpAny_holding (PySem.W.kun_collect (s := { s with heap := h₁ }) (T := "tuple_iterator") (.inr (.inr (.inr rfl))) (Walks.tuple (A := A.in1) hh s.heap.objs.size l hlt items) (fun j u st => st.1.typeIs) (k := i) (by omega) ⟨hit₁, hl₁⟩ (Heap.lt_size hoi) (Heap.lt_size hol) (fun h₂ tk hk => ?_) (by rw [sizeLine_eq]; omega)))
  have hrl : (items.toList.drop i).length = items.size - i := by rw [List.length_drop, Array.length_toList]
  have hmid : (items.toList.drop i).length - (n - 1 - i) = items.size + 1 - n := by rw [hrl]; omega
  show wpAny _ _ (if (items.toList.drop i).length < n - 1 - i then _ else _) _ _ _
  rw [if_neg (by rw [hrl]; omega)]
  show wpAny _ _ (newList ((items.toList.drop i).take ((items.toList.drop i).length - (n - 1 - i))) >>= fun d => pure (items.toList.take i ++ [d] ++ (items.toList.drop i).drop ((items.toList.drop i).length - (n - 1 - i)))) _ _ _
  rw [hmid]
  exact h h₂ tk fun b o e => hk b o (Nat.ne_of_lt (Heap.lt_size e)) (hs₁.extBut b o (Nat.ne_of_lt (Heap.lt_size e)) (Heap.get?_push_of_some _ e))
def gStar (K : PySem.W.Frag) (n i : Nat) (t : TGs) : TG := fun v σ H Q => ∃ a xs, v = .ref a ∧ SqT K H a xs ∧ n ≤ xs.length + 1 ∧ xs.length ≤ 16384 ∧
  ∀ p, H p = none → t (xs.take i ++ [.ref p] ++ (xs.drop i).drop (xs.length + 1 - n)) σ (upd H p (.lst ((xs.drop i).take (xs.length + 1 - n)))) Q
theorem vals_take {vs : List V} {us : List Value} (n : Nat) (h : Vals vs us) : Vals (vs.take n) (us.take n) := by
  induction h generalizing n with
  | nil => simp; exact .nil
  | cons r _ ih => cases n with
    | zero => exact .nil
    | succ n => exact .cons r (ih n)
theorem vals_drop {vs : List V} {us : List Value} (n : Nat) (h : Vals vs us) : Vals (vs.drop n) (us.drop n) := by
  induction h generalizing n with
  | nil => simp; exact .nil
  | cons r t ih => cases n with
    | zero => exact .cons r t
    | succ n => exact ih n
theorem vals_app {vs ws : List V} {us xs : List Value} (h : Vals vs us) (h' : Vals ws xs) : Vals (vs ++ ws) (us ++ xs) := by
  induction h with
  | nil => exact h'
  | cons r _ ih => exact .cons r ih
theorem pg_star {es : List Expr} {k n i : Nat} {t : TGs} (hc : X.calm = true) (h : PGs X es t) (hi : i < n) (hn : (assignEach es X.env).length = n) (hst : (assignEach es X.env).findIdx? (·.1) = some i) : PG X (.Tuple es k pos) (gStar X.K n i t) := by
  refine ⟨fun pins s σ H v u Q I r hw => ?_⟩
  obtain ⟨a, xs, e1, hq, hl, hz', hw⟩ := hw
  subst e1
  cases r
  obtain ⟨its, rv, ht, hz⟩ := I.tuple hq
  have hlen : its.toArray.size = xs.length := by simp [rv.length]
  rw [PyProof.Rows.assign_Tuple]
  refine wpAny_bind (wpAny_standAt ?_)
  unfold unpack
  rw [hn, hst]
  refine wpAny_bind (wpAny_holding (unp_starT ht (I.ok.hd hc) hi (by omega) (by omega) fun h' tk hk => ?_))
  have I1 : Inv X pins σ H { s with heap := h', toks := tk } := I.kept (t' := tk) hk
  unfold newList
  refine wpAny_bind (wpAny_newObj_type (wpAny_pure ?_) (by show (List.take _ _).toArray.size ≤ sizeLine; rw [List.size_toArray, List.length_take, List.length_drop, sizeLine_eq]; simp only [List.length_drop] at *; omega))
  have hf : H h'.objs.size = none := I1.hok.fresh (Nat.le_refl _)
  have I2 := I1.laid (a := h'.objs.size) (o := .lst ((xs.drop i).take (xs.length + 1 - n))) (t' := tk) (h' := h'.push { cls := .type "list", data := .seq ((its.toArray.toList.drop i).take (its.toArray.size + 1 - n)).toArray }) (fun b u e => Heap.get?_push_of_some _ e) (Nat.le_refl _)
    ⟨by rw [List.length_take, List.length_drop, sizeLine_eq]; omega, _, 0, by rw [hlen]; simpa using vals_take _ (vals_drop i rv), Heap.get?_push_size _ rfl⟩
  refine h.run pins _ σ _ _ _ Q I2 ?_ (hw _ hf)
  rw [hlen]
  exact vals_app (vals_app (by simpa using vals_take i rv) (.cons rfl .nil)) (by simpa using vals_drop _ (vals_drop i rv))
theorem pgs_starred {es : List Expr} {t : TG} {u : TGs} {sp : Pos} (h1 : PG X e t) (h2 : PGs X es u)
    (hs : (assignEach (.Starred e sp :: es) X.env).map (·.2) = assign e X.env :: (assignEach es X.env).map (·.2) := by rfl) : PGs X (.Starred e sp :: es) (gCons t u) := by
  refine ⟨fun pins s σ H vs us Q I r h => ?_⟩
  obtain ⟨v, vr, e1, h⟩ := h
  subst e1
  cases r with
  | cons r rr =>
    rw [hs]
    refine PyProof.Rows.assignInOrder_cons (thn (h1.run pins s σ H _ _ _ I r h) fun _ s1 ⟨σ1, H1, I1, q1⟩ => ?_)
    exact h2.run pins s1 σ1 H1 _ _ Q I1 rr q1
theorem qgs_starred {es : List Expr} {t : TG} {u : TGs} {g : AG} {ag : AGs} {is js : List Nat} {sp : Pos} (h1 : QG X ρ e t g is) (h2 : QGs X ρ es u ag js)
    (hs : (assignEach (.Starred e sp :: es) X.env).map (·.2) = assign e X.env :: (assignEach es X.env).map (·.2) := by rfl) : QGs X ρ (.Starred e sp :: es) (gCons t u) (agCons g ag) (is ++ js) := ⟨pgs_starred h1.pe h2.pe hs, rd_gCons h1.rd h2.rd⟩
/-- n targets, the one at i starred -/
def aUnpS (n i : Nat) (aa : AE) (u : AGs) (A : AEnds) (Γ : Sl) (M : Mem) : Prop := aa Γ M fun r Γ1 M1 => frz r Γ1 fun d Γ2 => match d with
  | .tup ds => n ≤ ds.length + 1 ∧ ds.length ≤ 16384 ∧ u (ds.take i ++ [.lst ((ds.drop i).take (ds.length + 1 - n))] ++ (ds.drop i).drop (ds.length + 1 - n)) Γ2 fun Γ3 => A.nx Γ3 M1
  | _ => False
theorem qs_unpS (n i : Nat) {es : List Expr} {kk : Nat} {tpos : Pos} {t : TGs} {u : AGs} {is : List Nat} (h : QE X ρ a ta aa) (hg : QGs X ρ es t u is) (hc : X.calm = true := by rfl) (hi : i < n := by decide) (hn : (assignEach es X.env).length = n := by rfl) (hst : (assignEach es X.env).findIdx? (·.1) = some i := by rfl)
    (hs : swapsWithSole [.Tuple es kk tpos] a pos.line X.env = pure false := by rfl) (hw : swappedStores [.Tuple es kk tpos] a X.env = pure none := by rfl) (h1 : (assignEach [.Tuple es kk tpos] X.env).map (·.2) = [assign (.Tuple es kk tpos) X.env] := by rfl) (hK : X.K = K := by rfl) :
    QS X ρ (.Assign [.Tuple es kk tpos] a pos) (tAsg ta (gStar K n i t)) (aUnpS n i aa u) := by
  subst hK
  refine ⟨ps_asg h.pe (pg_star hc hg.pe hi hn hst) hs hw h1, fun B σ H G Γ M A E k hh s => h.rd B σ H G Γ M _ _ k hh fun v H1 G1 Γ1 M1 r k1 e1 rr h1 => ?_⟩
  obtain ⟨G2, Γ2, d, k2, e2, rp, h2⟩ := frz_ok (H0 := H) k1 e1 rr h1
  split at h2
  · rename_i ds
    obtain ⟨n1, n2, h2⟩ := h2
    obtain ⟨p, xs, rfl, hx, rl⟩ := rep_tup.mp rp
    have hl := rl.length
    rw [← hl] at h2 n1 n2
    refine ⟨p, xs, rfl, ex_t k2.ex hx, by omega, by omega, fun q hq => ?_⟩
    obtain ⟨k3, e3⟩ := k2.new (o := .lst ((xs.drop i).take (xs.length + 1 - n))) hq
    have rl3 := rl.mono e3.g
    refine hg.rd B σ _ _ Γ2 M1 _ _ _ _ k3 ?_ h2 fun σ' Γ' k4 _ _ z => s.nx σ' _ _ Γ' M1 k4 z
    exact RepL.append (RepL.append (rl3.take i) (RepL.one (rep_lst.mpr ⟨q, _, rfl, upd_same, (rl3.drop i).take _⟩))) ((rl3.drop i).drop _)
  · exact h2.elim
end
end Gw

namespace Gw
open PySem L2
variable {ρ : Ent}
/-! ### comprehensions that only look -/
theorem lcMap {g : AG} {ae : AE} {vs : List Nat} {k : List D → Sl → Mem → Prop} (f : D → D) {Γ : Sl} {M : Mem} : ∀ (ds acc : List D), acc.length + ds.length ≤ 16777216 →
    (∀ d ∈ ds, ∀ P : D → Sl → Mem → Prop, P (f d) Γ M → g d Γ fun Γ1 => ae Γ1 M fun r Γ3 M3 => frz r Γ3 fun y Γ4 => P y (wipeS Γ4 vs) M3) → k (acc ++ ds.map f) Γ M → aLcL g aYes ae vs k ds acc Γ M
  | [], acc, _, _, h => by simpa [aLcL] using h
  | d :: ds, acc, hl, hs, h => by
    unfold aLcL
    simp only [aYes, if_true]
    refine hs d List.mem_cons_self (fun y Γ' M' => acc.length < sizeLine ∧ aLcL g aYes ae vs k ds (acc ++ [y]) Γ' M') ⟨by rw [size_val]; simp at hl; omega, ?_⟩
    refine lcMap f ds (acc ++ [f d]) (by simp at hl ⊢; omega) (fun e he => hs e (List.mem_cons_of_mem _ he)) ?_
    simpa using h
theorem lcFilt {g : AG} {tt : AT} {ae : AE} {vs : List Nat} {k : List D → Sl → Mem → Prop} (p : D → Bool) (f : D → D) {Γ : Sl} {M : Mem} : ∀ (ds acc : List D), acc.length + ds.length ≤ 16777216 →
    (∀ d ∈ ds, ∀ (P : D → Sl → Mem → Prop) (N : Sl → Mem → Prop), (p d = true → P (f d) Γ M) → (p d = false → N Γ M) → g d Γ fun Γ1 => tt Γ1 M fun b Γ2 M2 => if b = true then ae Γ2 M2 fun r Γ3 M3 => frz r Γ3 fun y Γ4 => P y (wipeS Γ4 vs) M3 else N (wipeS Γ2 vs) M2) →
    k (acc ++ (ds.filter p).map f) Γ M → aLcL g tt ae vs k ds acc Γ M
  | [], acc, _, _, h => by simpa [aLcL] using h
  | d :: ds, acc, hl, hs, h => by
    unfold aLcL
    refine hs d List.mem_cons_self (fun y Γ' M' => acc.length < sizeLine ∧ aLcL g tt ae vs k ds (acc ++ [y]) Γ' M') (fun Γ' M' => aLcL g tt ae vs k ds acc Γ' M') (fun e => ⟨by rw [size_val]; simp at hl; omega, ?_⟩) (fun e => ?_)
    · refine lcFilt p f ds (acc ++ [f d]) (by simp at hl ⊢; omega) (fun e he => hs e (List.mem_cons_of_mem _ he)) ?_
      rw [List.filter_cons, if_pos e] at h
      simpa using h
    · refine lcFilt p f ds acc (by simp at hl ⊢; omega) (fun e he => hs e (List.mem_cons_of_mem _ he)) ?_
      rw [List.filter_cons, if_neg (by rw [e]; decide)] at h
      exact h
theorem blsOf_fun {f : D → Bool} (ds : List D) : blsOf (ds.map fun d => .bl (f d)) = some (ds.map f) := by
  rw [show (ds.map fun d => D.bl (f d)) = (ds.map f).map D.bl by rw [List.map_map]; rfl, blsOf_map]
/-- all, any of a comprehension of truths -/
theorem all_fun {f : D → Bool} {ds : List D} {Γ : Sl} {M : Mem} {Q : Ret → Sl → Mem → Prop} (h : Q (.dat (.bl (ds.all f))) Γ M) : aAllB (·.all id) (.tmp (.lst (ds.map fun d => .bl (f d)))) Γ M Q := by
  unfold aAllB
  simp only [sqOf, blsOf_fun, List.all_map]
  exact h
theorem any_fun {f : D → Bool} {ds : List D} {Γ : Sl} {M : Mem} {Q : Ret → Sl → Mem → Prop} (h : Q (.dat (.bl (ds.any f))) Γ M) : aAllB (·.any id) (.tmp (.lst (ds.map fun d => .bl (f d)))) Γ M Q := by
  unfold aAllB
  simp only [sqOf, blsOf_fun, List.any_map]
  exact h
/-! ### comparing whole numbers, showing data -/
theorem aEq_ii {f : Bool → Bool} {i j : Int} {Γ : Sl} {M : Mem} {Q : Ret → Sl → Mem → Prop} : aEq f (.dat (.int i)) (.dat (.int j)) Γ M Q = Q (.dat (.bl (f (decide (i = j))))) Γ M := by
  unfold aEq
  simp only [dOf, cmp_int, eqD_int, true_and]
/-- kept from the simplifier -/
structure WitR (Q : Ret → Sl → Mem → Prop) : Type where
def hold (F : (Ret → Sl → Mem → Prop) → Prop) (Q : Ret → Sl → Mem → Prop) (_ : WitR Q) : Prop := F Q
theorem aEq_w {f : Bool → Bool} {x y : Ret} {Γ : Sl} {M : Mem} {Q : Ret → Sl → Mem → Prop} : aEq f x y Γ M Q = hold (aEq f x y Γ M) Q ⟨⟩ := by simp only [hold]
theorem aInT_w {f : Bool → Bool} {x y : Ret} {Γ : Sl} {M : Mem} {Q : Ret → Sl → Mem → Prop} : aInT f x y Γ M Q = hold (aInT f x y Γ M) Q ⟨⟩ := by simp only [hold]
theorem aRepr_w {x : Ret} {Γ : Sl} {M : Mem} {Q : Ret → Sl → Mem → Prop} : aRepr x Γ M Q = hold (aRepr x Γ M) Q ⟨⟩ := by simp only [hold]
theorem aIsi_w {T : Knd} {x : Ret} {Γ : Sl} {M : Mem} {Q : Ret → Sl → Mem → Prop} : aIsi T x Γ M Q = hold (aIsi T x Γ M) Q ⟨⟩ := by simp only [hold]
theorem hold_ii {f : Bool → Bool} {i j : Int} {Γ : Sl} {M : Mem} {Q : Ret → Sl → Mem → Prop} : hold (aEq f (.dat (.int i)) (.dat (.int j)) Γ M) Q ⟨⟩ = Q (.dat (.bl (f (decide (i = j))))) Γ M := by simp only [hold, aEq_ii]
theorem hold_bb {f : Bool → Bool} {i j : Bool} {Γ : Sl} {M : Mem} {Q : Ret → Sl → Mem → Prop} : hold (aEq f (.dat (.bl i)) (.dat (.bl j)) Γ M) Q ⟨⟩ = Q (.dat (.bl (f (decide (i = j))))) Γ M := by
  show aEq f (.dat (.bl i)) (.dat (.bl j)) Γ M Q = _
  unfold aEq
  have c : ∀ b : Bool, cmpOk (.bl b) = true := fun b => cmp_of (by simp [safe]) (by simp [dep])
  simp only [dOf, c, true_and]
  cases i <;> cases j <;> rfl
theorem aEq_of {f : Bool → Bool} {d e : D} {b : Bool} {Γ : Sl} {M : Mem} {Q : Ret → Sl → Mem → Prop} (h1 : cmpOk d = true) (h2 : cmpOk e = true) (h3 : eqD d e = b) (q : Q (.dat (.bl (f b))) Γ M) : aEq f (.dat d) (.dat e) Γ M Q := by
  have nrf : ∀ x : D, cmpOk x = true → dOf (.dat x) Γ M = some x := fun x hx => by
    cases x with
    | ref a => simp [cmpOk, Gw.plain] at hx
    | _ => rfl
  unfold aEq
  rw [nrf d h1, nrf e h2]
  subst h3
  exact ⟨h1, h2, q⟩
theorem aRepr_of {d : D} {Γ : Sl} {M : Mem} {Q : Ret → Sl → Mem → Prop} (h : shOk d = true) (q : Q (.dat (.str (shD d))) Γ M) : aRepr (.dat d) Γ M Q := by
  have nrf : dOf (.dat d) Γ M = some d := by
    cases d with
    | ref a => simp [shOk, Gw.plain] at h
    | _ => rfl
  unfold aRepr
  rw [nrf]
  exact ⟨h, q⟩
theorem aIsi_of {T : Knd} {d : D} {Γ : Sl} {M : Mem} {Q : Ret → Sl → Mem → Prop} (h : NoRef d) (q : Q (.dat (.bl (isD T d))) Γ M) : aIsi T (.dat d) Γ M Q := by
  have nrf : kdOf (.dat d) Γ M = some d := by
    cases d with
    | ref a => exact h.elim
    | exc _ _ _ => exact h.elim
    | _ => rfl
  unfold aIsi
  rw [nrf]
  exact q
end Gw

namespace Gw
open PySem L2
variable {ρ : Ent}
/-! ### what each transformer says, as equations by name (the simplifier then writes its steps down) -/
def e_aAbs := @aAbs.eq_def
def e_aAllB := @aAllB.eq_def
def e_aAnd := @aAnd.eq_def
def e_aAndV := @aAndV.eq_def
def e_aAsg := @aAsg.eq_def
def e_aAsgF := @aAsgF.eq_def
def e_aAugC := @aAugC.eq_def
def e_aAugI := @aAugI.eq_def
def e_aAugL := @aAugL.eq_def
def e_aAugX := @aAugX.eq_def
def e_aBrk := @aBrk.eq_def
def e_aC := @aC.eq_def
def e_aCall := @aCall.eq_def
def e_aCall1 := @aCall1.eq_def
def e_aCall2 := @aCall2.eq_def
def e_aCallP := @aCallP.eq_def
def e_aCat := @aCat.eq_def
def e_aCatT := @aCatT.eq_def
def e_aChain := @aChain.eq_def
def e_aChainN := @aChainN.eq_def
def e_aCnt := @aCnt.eq_def
def e_aCons := @aCons.eq_def
def e_aDGet := @aDGet.eq_def
def e_aDGet2 := @aDGet2.eq_def
def e_aDIn := @aDIn.eq_def
def e_aDNew := @aDNew.eq_def
def e_aDPut := @aDPut.eq_def
def e_aDictEnum := @aDictEnum.eq_def
def e_aDictP := @aDictP.eq_def
def e_aDisp := @aDisp.eq_def
def e_aDrop := @aDrop.eq_def
def e_aEq := @aEq.eq_def
def e_aEqS := @aEqS.eq_def
def e_aFor := @aFor.eq_def
def e_aI0 := @aI0.eq_def
def e_aI3 := @aI3.eq_def
def e_aIC := @aIC.eq_def
def e_aIItems := @aIItems.eq_def
def e_aISeq := @aISeq.eq_def
def e_aITup := @aITup.eq_def
def e_aIenum := @aIenum.eq_def
def e_aIfE := @aIfE.eq_def
def e_aIfS := @aIfS.eq_def
def e_aIn := @aIn.eq_def
def e_aInT := @aInT.eq_def
def e_aInt := @aInt.eq_def
def e_aIrev := @aIrev.eq_def
def e_aIsN := @aIsN.eq_def
def e_aIsi := @aIsi.eq_def
def e_aIx := @aIx.eq_def
def e_aIzip := @aIzip.eq_def
def e_aLItems := @aLItems.eq_def
def e_aLast := @aLast.eq_def
def e_aLc := @aLc.eq_def
def e_aLen := @aLen.eq_def
def e_aLink := @aLink.eq_def
def e_aList := @aList.eq_def
def e_aLk := @aLk.eq_def
def e_aLst := @aLst.eq_def
def e_aMaxI := @aMaxI.eq_def
def e_aMeth := @aMeth.eq_def
def e_aMeth0 := @aMeth0.eq_def
def e_aNeg := @aNeg.eq_def
def e_aNext := @aNext.eq_def
def e_aNil := @aNil.eq_def
def e_aNot := @aNot.eq_def
def e_aNotV := @aNotV.eq_def
def e_aON := @aON.eq_def
def e_aOS := @aOS.eq_def
def e_aOp := @aOp.eq_def
def e_aOr := @aOr.eq_def
def e_aOrV := @aOrV.eq_def
def e_aPar := @aPar.eq_def
def e_aPar3 := @aPar3.eq_def
def e_aParO := @aParO.eq_def
def e_aRep := @aRep.eq_def
def e_aRepr := @aRepr.eq_def
def e_aRet := @aRet.eq_def
def e_aRevL := @aRevL.eq_def
def e_aRng1 := @aRng1.eq_def
def e_aRng2 := @aRng2.eq_def
def e_aSeq := @aSeq.eq_def
def e_aSetI := @aSetI.eq_def
def e_aSh := @aSh.eq_def
def e_aShV := @aShV.eq_def
def e_aSl := @aSl.eq_def
def e_aSortI := @aSortI.eq_def
def e_aTst := @aTst.eq_def
def e_aTup := @aTup.eq_def
def e_aTuple := @aTuple.eq_def
def e_aUn := @aUn.eq_def
def e_aUnp := @aUnp.eq_def
def e_aUnpS := @aUnpS.eq_def
def e_aVar := @aVar.eq_def
def e_aYes := @aYes.eq_def
def e_agCons := @agCons.eq_def
def e_agN := @agN.eq_def
def e_agNil := @agNil.eq_def
def e_agT := @agT.eq_def
def e_agTL := @agTL.eq_def
def e_amApp := @amApp.eq_def
def e_amExt := @amExt.eq_def
def e_amIns := @amIns.eq_def
def e_amPop := @amPop.eq_def
def e_amPopAt := @amPopAt.eq_def
def e_apCons := @apCons.eq_def
def e_apNil := @apNil.eq_def
def e_cget := @cget.eq_def
def e_cput := @cput.eq_def
def e_dOf := @dOf.eq_def
def e_dctOf := @dctOf.eq_def
def e_frz := @frz.eq_def
def e_kdOf := @kdOf.eq_def
def e_lget := @lget.eq_def
def e_lput := @lput.eq_def
def e_sqOf := @sqOf.eq_def
end Gw

namespace Gw
open PySem L2
variable {ρ : Ent}
section
variable {X : Cx} {a b c e : Expr} {ta tb tc te : TE} {aa ab ac ae : AE} {pos : Pos} {K : PySem.W.Frag} {B : Ent} {σ : St} {H G H1 G1 H2 G2 H0 : Hp} {Γ Γ1 Γ2 : Sl} {M M1 M2 : Mem}
/-! ### repr, where the thing may be an empty dict -/
def rReprX (K : PySem.W.Frag) : List V → Hp → VK → Prop := fun xs H Q => rReprD K xs H Q ∨ ∃ (p : Addr) (o : Obj), xs = [.ref p] ∧ H p = some (.frz o (.dK [])) ∧ Q (.str "{}") H
theorem call_reprX (gd : X.A.guards = some []) (hu : X.A.units + 100 < cLine) : CallR X (.builtin "repr") (rReprX X.K) := by
  intro pins s σ H xs us Q I rv h
  rcases h with h | ⟨p, ob, rfl, hp, q⟩
  · exact call_reprD gd hu pins s σ H xs us Q I rv h
  · rw [Vals.ref1 rv]
    obtain ⟨_, _, hsys, vs, hv, o, es, ep, h1, h2, h3, _, h4, _⟩ := (show ObjOk X.prog X.w H s.heap p (.frz ob (.dK [])) from I.hok p _ hp)
    cases hv
    have he : es.toList = [] := List.length_eq_zero_iff.mp h4.length
    have r : Reads s.heap (.ref p) (.dict []) [p] := .dict (as := []) (bs := []) h1 h2.1 h3 (by rw [he]; exact .nil) (by rw [he]; exact .nil)
    refine repr_of_reads' r (by decide) (fun _ => ?_) gd (by simp [PyData.depth, PyData.depthKv]; omega) (fun _ _ e => e) (fun h' u tk hk => ⟨.str _, H, I.kept hk, ⟨_, rfl⟩, ?_⟩) (by decide)
    · intro z
      have e := List.mem_singleton.mp z
      rw [← e] at hsys
      simp at hsys
    · exact q
def aReprX (r : Ret) (Γ : Sl) (M : Mem) (Q : Ret → Sl → Mem → Prop) : Prop := match r with
  | .dat (.dct [] []) => Q (.dat (.str "{}")) Γ M
  | r => aRepr r Γ M Q
theorem rd_reprX : RdU K ρ (rReprX K) aReprX := by
  intro B σ H H1 G Γ M rx x Q R k r1 h q
  unfold aReprX at h
  split at h
  · obtain ⟨p, o, xs, rfl, hp, _, hr⟩ := rep_dct.mp (show Rep K G (.dct [] []) x from r1)
    rw [repL_nil.mp hr] at hp
    exact .inr ⟨p, o, rfl, k.ex _ _ hp, q _ H G Γ M (.dat (.str "{}")) k .refl (by simp only [RepR, Rep]) h⟩
  · exact .inl (rd_repr B σ H H1 G Γ M _ x Q R k r1 h q)
theorem q_reprX {p : Pos} (gd : X.A.guards = some []) (hu : X.A.units + 100 < cLine) (hm : X.mg "repr" = none) (ha : QE X ρ a ta aa) (hg : Gl X "repr" := by rfl) (na : starEach [a] X.env = (false, eval a X.env) :: starEach [] X.env := by rfl) (hK : X.K = K := by rfl) :
    QE X ρ (.Call (.Name "repr" p) [a] [] pos) (tCB (rReprX K) (tCons ta tNil)) (aCall1 aReprX aa) := by subst hK; exact q_callB1 (call_reprX gd hu) rd_reprX hm ha hg (na := na)
theorem aReprX_w {x : Ret} {Γ : Sl} {M : Mem} {Q : Ret → Sl → Mem → Prop} : aReprX x Γ M Q = hold (aReprX x Γ M) Q ⟨⟩ := by simp only [hold]
/-- how a thing is shown, an empty dict too -/
def shX (d : D) : Str := match d with
  | .dct [] [] => "{}"
  | d => shD d
def shOkX (d : D) : Bool := match d with
  | .dct [] [] => true
  | d => shOk d
theorem aReprX_of {d : D} {Γ : Sl} {M : Mem} {Q : Ret → Sl → Mem → Prop} (h : shOkX d = true) (q : Q (.dat (.str (shX d))) Γ M) : aReprX (.dat d) Γ M Q := by
  by_cases e : d = .dct [] []
  · subst e; exact q
  · have e1 : shX d = shD d := by
      unfold shX; split
      · exact absurd rfl e
      · rfl
    have e2 : shOkX d = shOk d := by
      unfold shOkX; split
      · exact absurd rfl e
      · rfl
    have e3 : aReprX (.dat d) Γ M Q = aRepr (.dat d) Γ M Q := by
      unfold aReprX; split
      · rename_i z; cases z; exact absurd rfl e
      · rfl
    rw [e3]
    rw [e1] at q
    rw [e2] at h
    exact aRepr_of h q
end
end Gw

namespace Gw
open PySem L2
variable {ρ : Ent}
open PySem.W (EachIs AllAlike Sortable dataLe dataLt alike alikeAll)
section
variable {X : Cx} {a b c e : Expr} {ta tb tc te : TE} {aa ab ac ae : AE} {pos : Pos} {K : PySem.W.Frag} {B : Ent} {σ : St} {H G H1 G1 H2 G2 H0 : Hp} {Γ Γ1 Γ2 : Sl} {M M1 M2 : Mem}
/-! ### sorted of data that can be compared -/
def leD (d e : D) : Bool := !dataLt (toPy e) (toPy d)
def sortD (ds : List D) : List D := ds.mergeSort leD
def rSortD (K : PySem.W.Frag) : List V → Hp → VK → Prop := fun vs H Q => ∃ (p : Addr) (xs : List V) (ds : List D), vs = [.ref p] ∧ SqL K H p xs ∧ xs.length = ds.length ∧ (∀ q ∈ xs.zip ds, Dp K H q.1 (toPy q.2)) ∧
  AllAlike (ds.map toPy) ∧ Sortable (ds.map toPy) ∧ (∀ d ∈ ds, (toPy d).depth ≤ 64) ∧
  ∀ (ps : List (V × D)) (l : Addr), ps.Perm (xs.zip ds) → ps.map (·.2) = sortD ds → H l = none → Q (.ref l) (upd H l (.lst (ps.map (·.1))))
theorem each_zip {R : Value → V × D → Prop} : ∀ {xs : List V} {us : List Value} {ds : List D}, Vals xs us → xs.length = ds.length → (∀ q ∈ xs.zip ds, ∀ u, RelV q.1 u → R u q) → EachIs R us (xs.zip ds)
  | [], _, [], .nil, _, _ => .nil
  | x :: xs, _ :: us, d :: ds, .cons r t, hl, h => .cons (h (x, d) (by simp) _ r) (each_zip t (by simpa using hl) fun q hq u hu => h q (by rw [List.zip_cons_cons]; exact List.mem_cons_of_mem _ hq) u hu)
  | [], _, _ :: _, .nil, hl, _ => by simp at hl
  | _ :: _, _, [], _, hl, _ => by simp at hl
theorem vals_each : ∀ {ps : List (V × D)} {us : List Value}, EachIs (fun u (q : V × D) => RelV q.1 u) us ps → Vals (ps.map (·.1)) us
  | [], _, .nil => .nil
  | _ :: _, _, .cons r t => .cons r (vals_each t)
theorem call_sortD (hu : X.A.units + 100 < cLine) : CallR X (.builtin "sorted") (rSortD X.K) := by
  intro pins s σ H vs us Q I r h
  obtain ⟨p, xs, ds, rfl, hs, hl, hd, hal, hk, hdep, q⟩ := h
  obtain ⟨its, rv, hit, hz⟩ := I.list hs
  rw [Vals.ref1 r]
  have em : (xs.zip ds).map (fun q => toPy q.2) = ds.map toPy := by
    rw [show (fun q : V × D => toPy q.2) = toPy ∘ Prod.snd from rfl, ← List.map_map, List.map_snd_zip (by omega)]
  have e : EachIs (fun u (q : V × D) => RelV q.1 u) its (xs.zip ds) := each_zip rv hl fun q _ u hu => hu
  have er : EachIs (fun u (q : V × D) => ∃ as, Reads s.heap u (toPy q.2) as) its (xs.zip ds) := each_zip rv hl fun q hq u hu => Dp.reads I _ _ _ (hd q hq) hu
  refine PySem.W.sorted_data (enc := fun q : V × D => toPy q.2) hit.isList e er (by rw [em]; exact hal) (by rw [em]; exact hk) (by rw [List.length_zip]; omega) (fun b hb => ?_) fun out ho eo => ?_
  · have := hdep b.2 (List.of_mem_zip hb).2
    omega
  · obtain ⟨ep, he'⟩ := PyProof.Rows.sortedAll_at s.heap its (List.toArray out)
    have v1 := vals_each eo
    have hlen : (((xs.zip ds).mergeSort (dataLe false fun q : V × D => toPy q.2)).map (·.1)).length ≤ sizeLine := by
      rw [List.length_map, List.length_mergeSort, List.length_zip]; omega
    refine ⟨.ref _, upd H (s.heap.objs.size + 1) (.lst _), I.laid (t' := s.toks) (fun _ _ => PyProof.Rows.sortedAll_old) (Nat.le_succ _) ⟨hlen, out, ep, v1, he'⟩, rfl, q _ _ (List.mergeSort_perm _ _) ?_ (I.hok.fresh (Nat.le_succ _))⟩
    rw [List.map_mergeSort (s := leD) (fun a _ b _ => by rw [PySem.W.dataLe_eq]; rfl), List.map_snd_zip (by omega)]
    rfl
def aSortD (r : Ret) (Γ : Sl) (M : Mem) (Q : Ret → Sl → Mem → Prop) : Prop := match sqOf r Γ M with
  | some (.lst ds) => (∀ d ∈ ds, plain d = true ∧ dep d ≤ 64) ∧ AllAlike (ds.map toPy) ∧ Sortable (ds.map toPy) ∧ Q (.tmp (.lst (sortD ds))) Γ M
  | _ => False
theorem repL_zip : ∀ {ds : List D} {xs : List V}, RepL K G ds xs → ∀ q ∈ xs.zip ds, Rep K G q.2 q.1
  | [], _, h, q, hq => by rw [repL_nil.mp h] at hq; simp at hq
  | d :: ds, _, h, q, hq => by
    obtain ⟨x, r, rfl, h1, h2⟩ := repL_cons.mp h
    rw [List.zip_cons_cons, List.mem_cons] at hq
    rcases hq with rfl | hq
    · exact h1
    · exact repL_zip h2 q hq
theorem repL_pairs : ∀ {ps : List (V × D)}, (∀ q ∈ ps, Rep K G q.2 q.1) → RepL K G (ps.map (·.2)) (ps.map (·.1))
  | [], _ => repL_nil.mpr rfl
  | p :: ps, h => repL_cons.mpr ⟨_, _, rfl, h p List.mem_cons_self, repL_pairs fun q hq => h q (List.mem_cons_of_mem _ hq)⟩
theorem rd_sortD : RdU K ρ (rSortD K) aSortD := by
  intro B σ H H1 G Γ M rx x Q R k r1 h q
  unfold aSortD at h
  split at h
  · rename_i ds hs
    obtain ⟨hp, hal, hk, h⟩ := h
    obtain ⟨p, xs, e, hx, rl⟩ := sqOf_ok k r1 hs
    have rz := repL_zip rl
    refine ⟨p, xs, ds, by rw [e], SqL.of hx, rl.length, fun q hq => ((rz q hq).mono k.ex).dp (hp q.2 (List.of_mem_zip hq).2).1, hal, hk, fun d hd => by rw [dep_py]; exact (hp d hd).2, fun ps l hps he hl => ?_⟩
    have r2 : RepL K G (sortD ds) (ps.map (·.1)) := by
      rw [← he]
      exact repL_pairs fun q hq => rz q (hps.mem_iff.mp hq)
    exact q.newL k r2 h l hl
  · exact h.elim
theorem q_sortD {p : Pos} (hu : X.A.units + 100 < cLine) (hm : X.mg "sorted" = none) (ha : QE X ρ a ta aa) (hg : Gl X "sorted" := by rfl) (na : starEach [a] X.env = (false, eval a X.env) :: starEach [] X.env := by rfl) (hK : X.K = K := by rfl) :
    QE X ρ (.Call (.Name "sorted" p) [a] [] pos) (tCB (rSortD K) (tCons ta tNil)) (aCall1 aSortD aa) := by subst hK; exact q_callB1 (call_sortD hu) rd_sortD hm ha hg (na := na)
theorem aSortD_w {x : Ret} {Γ : Sl} {M : Mem} {Q : Ret → Sl → Mem → Prop} : aSortD x Γ M Q = hold (aSortD x Γ M) Q ⟨⟩ := by simp only [hold]
end
end Gw

/-! texts, tuples turned about and repeated, sets of whole numbers that are sorted at once, == () -/
namespace Gw
open PySem L2 PyProof.Rows
variable {ρ : Ent}
section
variable {X : Cx} {a b c e : Expr} {ta tb tc te : TE} {aa ab ac ae : AE} {pos : Pos} {K : PySem.W.Frag} {B : Ent} {σ : L2.St} {H G H1 G1 H2 G2 H0 : Hp} {Γ Γ1 Γ2 : Sl} {M M1 M2 : Mem}
/-! ### s + t, s[i:j] -/
theorem q_catS (ha : QE X ρ a ta aa) (hb : QE X ρ b tb ab) : QE X ρ (.BinOp a .Add b pos) (tOp (fun x y H Q => ∃ i j, x = .str i ∧ y = .str j ∧ i.length + j.length ≤ sizeLine ∧ Q (.str (i ++ j)) H) ta tb) (aOp aCatS aa ab) := q_op op_add_str (fun B σ H H1 H2 G Γ M rx ry x y Q R k r1 r2 h q => by
  unfold aCatS at h
  split at h
  · rename_i s t
    have e1 : x = .str s := by have := r1; simp only [RepR, Rep] at this; exact this
    have e2 : y = .str t := by have := r2; simp only [RepR, Rep] at this; exact this
    exact ⟨s, t, e1, e2, h.1, q _ H G Γ M (.dat (.str (s ++ t))) k .refl (by simp only [RepR, Rep]) h.2⟩
  · exact h.elim) ha hb
def aSlS (aa : AE) (al ah : AO) (Γ : Sl) (M : Mem) (Q : Ret → Sl → Mem → Prop) : Prop := aa Γ M fun r Γ1 M1 => al Γ1 M1 fun lo Γ2 M2 => ah Γ2 M2 fun hi Γ3 M3 => match r with
  | .dat (.str z) => z.length ≤ sizeLine ∧ Q (.dat (.str (cutS z lo hi))) Γ3 M3
  | _ => False
theorem q_slS {lo hi : Option Expr} {p2 : Pos} {tl th : TO} {al ah : AO} (he : QE X ρ a ta aa) (hl : QO X ρ lo tl al) (hh : QO X ρ hi th ah) :
    QE X ρ (.Subscript a (.Slice lo hi none p2) pos) (tSl rSlS ta tl th) (aSlS aa al ah) := ⟨pe_slice sl_str he.pe hl.pe hh.pe, by
  intro B σ H G Γ M Q R k h q
  refine he.rd B σ H G Γ M _ _ k h fun v H1 G1 Γ1 M1 r1 k1 e1 rr1 h1 => ?_
  refine hl.rd B σ H1 G1 Γ1 M1 _ _ k1 h1 fun l H2 G2 Γ2 M2 k2 e2 h2 => ?_
  refine hh.rd B σ H2 G2 Γ2 M2 _ _ k2 h2 fun u H3 G3 Γ3 M3 k3 e3 h3 => ?_
  split at h3
  · rename_i z
    have ev : v = .str z := by have := rr1; simp only [RepR, Rep] at this; exact this
    exact ⟨z, ev, h3.1, q _ H3 G3 Γ3 M3 (.dat (.str _)) k3 ((e1.trans e2).trans e3) (by simp only [RepR, Rep]) h3.2⟩
  · exact h3.elim⟩
/-! ### str(n) -/
def aStr (r : Ret) (Γ : Sl) (M : Mem) (Q : Ret → Sl → Mem → Prop) : Prop := match r with
  | .dat (.int i) => i.natAbs.log2 < 1920 ∧ Q (.dat (.str (Str.ofString (toString i)))) Γ M
  | _ => False
theorem q_strI {p : Pos} (hm : X.mg "str" = none) (ha : QE X ρ a ta aa) (hg : Gl X "str" := by rfl) (na : starEach [a] X.env = (false, eval a X.env) :: starEach [] X.env := by rfl) :
    QE X ρ (.Call (.Name "str" p) [a] [] pos) (tCB (fun xs H Q => ∃ i, xs = [.int i] ∧ i.natAbs.log2 < 1920 ∧ Q (.str (toString i)) H) (tCons ta tNil)) (aCall1 aStr aa) := q_callT1 call_str_int (fun B σ H H1 G Γ M rx x Q R k r1 h q => by
  unfold aStr at h
  split at h
  · rename_i i
    have e1 : x = .int i := by have := r1; simp only [RepR, Rep] at this; exact this
    exact ⟨i, by rw [e1], h.1, q _ H G Γ M (.dat (.str _)) k .refl (by simp only [RepR, Rep]) h.2⟩
  · exact h.elim) hm ha hg (na := na)
/-! ### x == (), x != () -/
def rEq0 (K : PySem.W.Frag) (f : Bool → Bool) : R2 := fun x y H Q => ∃ a b xs, x = .ref a ∧ y = .ref b ∧ SqT K H a xs ∧ SqT K H b [] ∧ Q (.bl (f (xs.length == 0))) H
theorem op_eq0 (hu : X.A.units + 64 < cLine) : OpR X (compareOp .Eq) (rEq0 X.K id) := by
  rintro pins s σ H x y v u Q I rx ry ⟨p, q, xs, rfl, rfl, hp, hq, w⟩
  cases rx; cases ry
  obtain ⟨its, r, ht, _⟩ := I.tuple hp
  obtain ⟨jts, r2, ht2, _⟩ := I.tuple hq
  cases r2
  refine SeqAt.RcAt.tuples (e := fun _ => true) (show s.heap.IsTuple p its.toArray from ht) (show s.heap.IsTuple q #[] from ht2) (by omega) (fun j _ h2 => absurd h2 (Nat.not_lt_zero j)) X.prog X.w X.xe _ ⟨.bl _, H, I, ?_, w⟩
  rw [r.length]
  simp
  rfl
theorem op_ne0 (hu : X.A.units + 64 < cLine) : OpR X (compareOp .NotEq) (rEq0 X.K not) := by
  rintro pins s σ H x y v u Q I rx ry ⟨p, q, xs, rfl, rfl, hp, hq, w⟩
  cases rx; cases ry
  obtain ⟨its, r, ht, _⟩ := I.tuple hp
  obtain ⟨jts, r2, ht2, _⟩ := I.tuple hq
  cases r2
  refine SeqAt.RcNeAt.tuples (e := fun _ => true) (show s.heap.IsTuple p its.toArray from ht) (show s.heap.IsTuple q #[] from ht2) (by omega) (fun j _ h2 => absurd h2 (Nat.not_lt_zero j)) X.prog X.w X.xe _ ⟨.bl _, H, I, ?_, w⟩
  rw [r.length]
  simp
  rfl
def aEq0 (f : Bool → Bool) (x : Ret) (y : Ret) (Γ : Sl) (M : Mem) (Q : Ret → Sl → Mem → Prop) : Prop := match x, y with
  | .dat (.tup ds), .dat (.tup []) => Q (.dat (.bl (f (ds.length == 0)))) Γ M
  | _, _ => False
theorem rd_eq0 {f : Bool → Bool} : RdO K ρ (rEq0 K f) (aEq0 f) := by
  intro B σ H H1 H2 G Γ M rx ry x y Q R k r1 r2 h q
  unfold aEq0 at h
  split at h
  · rename_i ds
    obtain ⟨p, xs, e1, h1, l1⟩ := rep_tup.mp (show Rep K G (.tup ds) x from r1)
    obtain ⟨p2, ys, e2, h2, l2⟩ := rep_tup.mp (show Rep K G (.tup []) y from r2)
    rw [repL_nil.mp l2] at h2
    exact ⟨p, p2, xs, e1, e2, ex_t k.ex h1, ex_t k.ex h2, q _ H G Γ M (.dat (.bl _)) k .refl (by simp only [RepR, Rep]; rw [l1.length]) h⟩
  · exact h.elim
theorem c_eq0 (hu : X.A.units + 64 < cLine) (hK : X.K = K := by rfl) : CmpR X ρ .Eq (rEq0 K id) (aEq0 id) := by subst hK; exact ⟨op_eq0 hu, rd_eq0⟩
theorem c_ne0 (hu : X.A.units + 64 < cLine) (hK : X.K = K := by rfl) : CmpR X ρ .NotEq (rEq0 K not) (aEq0 not) := by subst hK; exact ⟨op_ne0 hu, rd_eq0⟩
/-! ### t < u, tuples of whole numbers -/
def intsD : List D → Option (List Int)
  | [] => some []
  | .int i :: ds => (intsD ds).map (i :: ·)
  | _ :: _ => none
theorem intsD_ok : ∀ {ds : List D} {ns : List Int}, intsD ds = some ns → ds = ns.map .int
  | [], _, h => by cases h; rfl
  | .int i :: ds, _, h => by
    simp only [intsD, Option.map_eq_some_iff] at h
    obtain ⟨ns, h1, rfl⟩ := h
    rw [intsD_ok h1]; rfl
theorem intsD_map (ns : List Int) : intsD (ns.map .int) = some ns := by
  induction ns with
  | nil => rfl
  | cons n ns ih => rw [List.map_cons, intsD, ih]; rfl
def aLtT (x : Ret) (y : Ret) (Γ : Sl) (M : Mem) (Q : Ret → Sl → Mem → Prop) : Prop := match x, y with
  | .dat (.tup ds), .dat (.tup es) => match intsD ds, intsD es with
    | some ns, some ms => Q (.dat (.bl (HT.lexLt ns ms))) Γ M
    | _, _ => False
  | _, _ => False
theorem c_ltT (hu : X.A.units + 64 < cLine) (hK : X.K = K := by rfl) : CmpR X ρ .Lt (rLtT K) aLtT := by
  subst hK
  refine ⟨op_ltT (by omega), fun B σ H H1 H2 G Γ M rx ry x y Q R k r1 r2 h q => ?_⟩
  unfold aLtT at h
  split at h
  · rename_i ds es
    split at h
    · rename_i ns ms h1 h2
      obtain ⟨p, xs, e1, s1, l1⟩ := rep_tup.mp (show Rep X.K G (.tup ds) x from r1)
      obtain ⟨p2, ys, e2, s2, l2⟩ := rep_tup.mp (show Rep X.K G (.tup es) y from r2)
      rw [intsD_ok h1] at l1
      rw [intsD_ok h2] at l2
      rw [repL_map_int.mp l1] at s1
      rw [repL_map_int.mp l2] at s2
      exact ⟨p, p2, ns, ms, e1, e2, ex_t k.ex s1, ex_t k.ex s2, q _ H G Γ M (.dat (.bl _)) k .refl (by simp only [RepR, Rep]) h⟩
    · exact h.elim
  · exact h.elim
/-! ### sorted(set(t)), t a tuple of whole numbers -/
def rSetI (K : PySem.W.Frag) (w : World) : List V → Hp → VK → Prop := fun xs H Q => ∃ (l : Addr) (ns : List Int), xs = [.ref l] ∧ SqT K H l (ns.map V.int) ∧ ns.length ≤ 60 ∧ ∀ p c, H p = none → c ≤ ns.length → Q (.ref p) (upd H p (SetO w p (fun j => decide (j ∈ ns)) c))
theorem cr_setI (hc : X.calm = true) : CallR X (.type "set") (rSetI X.K X.w) := by
  rintro pins s σ H xs us Q I r ⟨l, ns, rfl, hl, few, w⟩
  rw [Vals.ref1 r]
  obtain ⟨its, rv, ht, _⟩ := I.tuple hl
  refine call_set_tupI (items := its.toArray) ns (I.ok.hd hc) ht (intsAre_of rv) (by show ns.length + 1 < scanBound; have : scanBound = 4096 := rfl; omega) fun h' tk c R hcn kk => ?_
  exact ⟨.ref _, _, I.laid (t' := tk) kk (Nat.le_refl _) (setO_new R), rfl, w _ c (I.hok.fresh (Nat.le_refl _)) hcn⟩
def aSortSet (r : Ret) (Γ : Sl) (M : Mem) (Q : Ret → Sl → Mem → Prop) : Prop := match r with
  | .dat (.tup ds) => match intsD ds with
    | some ns => ns.length ≤ 60 ∧ ∀ ms : List Int, ms.Pairwise (· < ·) → (∀ k, k ∈ ms ↔ k ∈ ns) → Q (.tmp (.lst (ms.map .int))) Γ M
    | none => False
  | _ => False
theorem q_sortSet {w : World} {p p2 pos2 : Pos} (hm : X.mg "sorted" = none) (hm2 : X.mg "set" = none) (ha : QE X ρ a ta aa) (hc : X.calm = true := by rfl) (hg : Gl X "sorted" := by rfl) (hg2 : Gl X "set" := by rfl)
    (na : starEach [a] X.env = (false, eval a X.env) :: starEach [] X.env := by rfl) (na2 : starEach [.Call (.Name "set" p2) [a] [] pos2] X.env = (false, eval (.Call (.Name "set" p2) [a] [] pos2) X.env) :: starEach [] X.env := by rfl) (hK : X.K = K := by rfl) (hW : X.w = w := by rfl) :
    QE X ρ (.Call (.Name "sorted" p) [.Call (.Name "set" p2) [a] [] pos2] [] pos) (tCB (rSortedSet w) (tCons (tCB (rSetI K w) (tCons ta tNil)) tNil)) (aCall1 aSortSet aa) := by
  subst hK; subst hW
  refine ⟨pe_callB (cr_sortedSet hc) hg hm (by decide +kernel) (pa_cons (pe_callTy (cr_setI hc) hg2 hm2 (by decide +kernel) (pa_cons ha.pe pa_nil na) (by decide) (by decide) na) pa_nil na2) (by decide) (by decide) na2, ?_⟩
  intro B σ H G Γ M Q R k h q
  refine ha.rd B σ H G Γ M _ _ k h fun v H1 G1 Γ1 M1 r k1 e1 rr h1 => ?_
  unfold aSortSet at h1
  split at h1
  · rename_i ds
    split at h1
    · rename_i ns hn
      obtain ⟨few, h1⟩ := h1
      obtain ⟨l, xs, ev, hl, rl⟩ := rep_tup.mp (show Rep X.K G1 (.tup ds) v from rr)
      rw [intsD_ok hn] at rl
      rw [repL_map_int.mp rl] at hl
      refine ⟨l, ns, by rw [ev], ex_t k1.ex hl, few, fun p0 c hp hcn => ?_⟩
      obtain ⟨k2, e2, _⟩ := k1.tmp (o := SetO X.w p0 (fun j => decide (j ∈ ns)) c) hp
      refine ⟨p0, _, c, rfl, upd_same, by omega, fun ms p1 hs hm hl' hp1 => ?_⟩
      have hm' : ∀ k, k ∈ ms ↔ k ∈ ns := fun k => by rw [hm k]; exact decide_eq_true_iff
      exact (q.es (e1.trans e2)).newL k2 (repL_map_int.mpr rfl) (h1 ms hs hm') p1 hp1
    · exact h1.elim
  · exact h1.elim
/-! ### t * n -/
def rRepL (K : PySem.W.Frag) : R2 := fun x y H Q => ∃ l k xs, x = .ref l ∧ y = .int k ∧ SqT K H l xs ∧ xs ≠ [] ∧ 2 ≤ k ∧ k ≤ 10000 ∧ xs.length ≤ 100 ∧ ∀ p, H p = none → Q (.ref p) (upd H p (.tup (List.replicate k.toNat xs).flatten))
theorem op_repL : OpR X (binaryOp .Mult) (rRepL X.K) := by
  rintro pins s σ H x y v u Q I rx ry ⟨l, k, xs, rfl, rfl, hT, hne, h1, h2, hz, q⟩
  cases rx
  obtain ⟨t, rfl⟩ := ry
  obtain ⟨its, r, ⟨⟨cls, dd, data, sl⟩, ho, hc, n, hd⟩, _⟩ := I.tuple hT
  cases (show cls = _ from hc); cases (show data = _ from hd)
  have len : its.length = xs.length := r.length.symm
  have pos : 0 < its.length := by rw [len]; exact List.length_pos_iff.mpr hne
  have emp : its.toArray.isEmpty = false := by rw [List.isEmpty_toArray]; exact List.isEmpty_eq_false_iff.mpr (List.length_pos_iff.mp pos)
  have big : (its.length : Int) * k ≤ 1000000 := by
    have a1 : (its.length : Int) * k ≤ 100 * k := Int.mul_le_mul_of_nonneg_right (by omega) (by omega)
    omega
  have fl : ∀ {α : Type} (ys : List α), ys.length = xs.length → (List.replicate k.toNat ys).flatten.length ≤ sizeLine := fun ys e => by
    rw [lm_len_rep_flat, e, sizeLine_eq]
    have a1 : k.toNat * xs.length ≤ 10000 * 100 := Nat.mul_le_mul (by omega) hz
    omega
  have mul := tuple_mulW l its.toArray n dd sl k t (by simp; omega) (by rw [emp]; simp; omega) (by rw [emp]; simp; omega) (by rw [List.size_toArray]; omega)
    (by unfold Builtin.Tuple.tupleTooMany; rw [sizeLine_eq, List.size_toArray]; simp; omega) (by rw [size_rep, List.size_toArray]; exact fl its len)
  refine wpAny_binaryOp_repeat_ref (T := "tuple") (U := "int") (by decide) ⟨_, ho, rfl⟩ (fun s' => typeIs_int s' k t) noFill_tuple_mul F.fills_int_mul F.slot_int_rmul repeat_tuple F.slot_int_index.lookup ?_
  refine call_meets F.slot_int_rmul (typeIs_int s k t) F.entry_int_rmul (F.args_int_rmul_2 _ _) (int_rmul_tuple k t l its.toArray n dd sl) ⟨ho, rfl, ⟨_, ho, rfl⟩, ?_⟩
  refine call_meets F.slot_tuple_mul ⟨_, ho, rfl⟩ F.entry_tuple_mul (F.args_tuple_mul_2 _ _) mul ⟨ho, ?_⟩
  rw [size_rep]
  exact ⟨.ref _, _, I.laid (t' := s.toks) (o := .tup (List.replicate k.toNat xs).flatten) (fun _ _ z => Heap.get?_push_of_some _ z) (Nat.le_refl _) ⟨fl xs rfl, _, r.rep k.toNat, IsTup.new _ _⟩, rfl, q _ (I.hok.fresh (Nat.le_refl _))⟩
def aRepT (x : Ret) (y : Ret) (Γ : Sl) (M : Mem) (Q : Ret → Sl → Mem → Prop) : Prop := match x, y with
  | .dat (.tup ds), .dat (.int k) => (ds ≠ [] ∧ 2 ≤ k ∧ k ≤ 10000 ∧ ds.length ≤ 100) ∧ Q (.dat (.tup (List.replicate k.toNat ds).flatten)) Γ M
  | _, _ => False
theorem q_repT (ha : QE X ρ a ta aa) (hb : QE X ρ b tb ab) (hK : X.K = K := by rfl) : QE X ρ (.BinOp a .Mult b pos) (tOp (rRepL K) ta tb) (aOp aRepT aa ab) := by
  subst hK
  refine q_op op_repL (fun B σ H H1 H2 G Γ M rx ry x y Q R k r1 r2 h q => ?_) ha hb
  unfold aRepT at h
  split at h
  · rename_i ds n
    obtain ⟨⟨c1, c2, c3, c4⟩, h⟩ := h
    obtain ⟨l, xs, e1, hl, rl⟩ := rep_tup.mp (show Rep X.K G (.tup ds) x from r1)
    have e2 : y = .int n := by have := r2; simp only [RepR, Rep] at this; exact this
    exact ⟨l, n, xs, e1, e2, ex_t k.ex hl, fun z => c1 (by rw [z] at rl; exact List.length_eq_zero_iff.mp rl.length.symm), c2, c3, by rw [rl.length]; exact c4, q.newT k (rl.rep _) h⟩
  · exact h.elim
/-! ### t[::-1] -/
theorem fm_some {α β : Type} {f : α → Option β} {g : α → β} : ∀ (l : List α), (∀ a ∈ l, f a = some (g a)) → l.filterMap f = l.map g
  | [], _ => rfl
  | x :: l, h => by rw [List.filterMap_cons, h x List.mem_cons_self, List.map_cons, fm_some l fun a ha => h a (List.mem_cons_of_mem _ ha)]
theorem pick_rev (xs : List Value) : ((List.range xs.length).filterMap fun (m : Nat) => xs.toArray[((xs.length : Int) - 1 + (m : Int) * -1).toNat]?).toArray = xs.reverse.toArray := by
  congr 1
  rw [fm_some (g := fun m => xs.reverse.getD m .none) _ fun m hm => ?_]
  · apply List.ext_getElem?
    intro j
    by_cases hj : j < xs.length
    · rw [List.getElem?_map, List.getElem?_range hj, Option.map_some, List.getD_eq_getElem?_getD, List.getElem?_eq_getElem (by rw [List.length_reverse]; exact hj)]
      rfl
    · rw [List.getElem?_eq_none (by simpa using hj), List.getElem?_eq_none (by simpa using hj)]
  · have hm' : m < xs.length := List.mem_range.mp hm
    have : ((xs.length : Int) - 1 + (m : Int) * -1).toNat = xs.length - 1 - m := by omega
    rw [this, List.getElem?_toArray, ← List.getElem?_reverse hm', List.getD_eq_getElem?_getD, List.getElem?_eq_getElem (by rw [List.length_reverse]; exact hm')]
    rfl
theorem applied_rev {A : Around} {E : Value → Shared → Prop} {s : Shared} {sl : Addr} {vs : Value} {n : Nat} {Q : Int × Int × Nat → Shared → Prop} (hs : s.heap.IsSliceOf sl .none .none vs) (ps : IsPart vs (some (-1))) (w : Q ((n : Int) - 1, -1, n) s) :
    wpAny (model X.prog X.w) A (Builtin.Slice.sliceApplied (.ref sl) (pure (n : Int))) Q E s := by
  obtain ⟨os, h1, h2, h3⟩ := hs
  unfold Builtin.Slice.sliceApplied Builtin.Slice.sliceFields
  refine wpAny_bind (wpAny_bind (wpAny_field h1 h3 (x := .none) rfl (wpAny_bind (wpAny_field h1 h3 (x := .none) rfl (wpAny_bind (wpAny_field h1 h3 (x := vs) rfl (wpAny_pure (wpAny_bind (HT.slicePart_ ps ?_)))))))))
  show wpAny _ _ (if ((-1 : Int) == 0) = true then _ else _) _ _ s
  rw [if_neg (by decide)]
  refine wpAny_bind (HT.slicePart_ .none (wpAny_bind (HT.slicePart_ .none (wpAny_bind (wpAny_pure ?_)))))
  have e : Builtin.Slice.sliceAdjust none none (-1) (n : Int) = ((n : Int) - 1, -1) := by simp [Builtin.Slice.sliceAdjust]
  have e2 : Builtin.Slice.slicePlaces ((n : Int) - 1) (-1) (-1) = n := by
    unfold Builtin.Slice.slicePlaces
    rw [if_neg (by decide)]
    have : (-(-1 : Int)) = 1 := rfl
    rw [this, Int.ediv_one]
    split <;> omega
  show wpAny _ _ (match Builtin.Slice.sliceAdjust none none (-1) (n : Int) with | (lo, hi) => pure (lo, (-1 : Int), Builtin.Slice.slicePlaces lo hi (-1))) _ _ s
  rw [e]
  show wpAny _ _ (pure ((n : Int) - 1, (-1 : Int), Builtin.Slice.slicePlaces ((n : Int) - 1) (-1) (-1))) _ _ s
  rw [e2]
  exact wpAny_pure w
theorem item_rev {A : Around} {E : Value → Shared → Prop} {s : Shared} {t sl : Addr} {its : List Value} {vs : Value} {Q : Value → Shared → Prop} (ht : IsTup s.heap t its.toArray) (hs : s.heap.IsSliceOf sl .none .none vs) (ps : IsPart vs (some (-1))) (hz : its.length ≤ sizeLine)
    (w : Q (.ref s.heap.objs.size) { s with heap := s.heap.push { cls := .type "tuple", data := .seq its.reverse.toArray } }) : wpAny (model X.prog X.w) A (getItem (.ref t) (.ref sl)) Q E s := by
  obtain ⟨os, h1, h2, h3⟩ := id hs
  have few : sizeOk (.seq its.reverse.toArray) := by show its.reverse.toArray.size ≤ sizeLine; rw [List.size_toArray, List.length_reverse]; exact hz
  unfold getItem
  try with_reducible refine wpAny_holding ?_
  first | refine wpAny_bind (wpAny_pure ?_) | skip
  refine wpAny_bind (wpAny_sequenceKey ht.typeIs (by decide) (wpAny_bind (wpAny_callSpecial?_slot (name := Str.ofString "__getitem__") ht.typeIs PyProof.Rows.slot_tuple_getitem (wpAny_call_entry PyProof.Rows.slot_tuple_getitem ht.typeIs PyProof.Rows.entry_tuple_getitem ?_ (PyProof.Rows.args_tuple_getitem _ _)))))
  show wpAny _ _ (Builtin.Tuple.tupleItemsOf (.ref t) >>= _) _ _ s
  refine wpAny_bind (tupleItemsOf_ ht (wpAny_bind (wpAny_typeOf ⟨os, h1, h2⟩ ?_)))
  rw [if_pos (by decide)]
  refine wpAny_bind (applied_rev (X := X) (n := its.toArray.size) hs ps ?_)
  have no : ¬ ((((its.toArray.size : Int) - 1) == 0 && (-1 : Int) == 1 && its.toArray.size == its.toArray.size) = true) := by simp
  show wpAny _ _ (if (((its.toArray.size : Int) - 1) == 0 && (-1 : Int) == 1 && its.toArray.size == its.toArray.size) = true then _ else _) _ _ s
  rw [if_neg no]
  have e := pick_rev its
  rw [← List.size_toArray] at e
  rw [e]
  show wpAny _ _ (Builtin.Tuple.tupleExact its.reverse.toArray >>= _) _ _ s
  refine wpAny_bind (wpAny_newObj_type ?_ few)
  first
    | exact wpAny_pure ⟨_, rfl, wpAny_pure w⟩
    | exact wpAny_bind (wpAny_pure (wpAny_pure ⟨_, rfl, wpAny_pure w⟩))
def tRevT (K : PySem.W.Frag) (te : TE) : TE := fun σ H Q => te σ H fun x H1 => ∃ a xs, x = .ref a ∧ SqT K H1 a xs ∧ ∀ p, H1 p = none → Q (.ref p) (upd H1 p (.tup xs.reverse))
theorem pe_revT {k : Nat} {p1 p2 p3 : Pos} (he : PE X e te) : PE X (.Subscript e (.Slice none none (some (.UnaryOp .USub (.Constant (.int 1) k p1) p2)) p3) pos) (tRevT X.K te) := ⟨fun pins s σ H Q I w => by
  refine Subscript_ (thn (he.run pins s σ H _ I w) ?_)
  rintro v s1 ⟨x, H1, I1, r1, p, xs, rfl, hx, q⟩
  cases r1
  have part : PO X (some (.UnaryOp .USub (.Constant (.int 1) k p1) p2)) (tPart (tUn (rU fun i => .int (-i)) (tC (.int 1)))) := po_some (pe_un un_neg pe_int)
  refine wpAny_Slice (thn (po_none.run pins s1 σ H1 (fun o H2 => o = none ∧ H2 = H1) I1 ⟨rfl, rfl⟩) ?_)
  rintro vl s2 ⟨_, _, I2, pl, rfl, rfl⟩
  refine thn (po_none.run pins s2 σ _ (fun o H3 => o = none ∧ H3 = _) I2 ⟨rfl, rfl⟩) ?_
  rintro vu s3 ⟨_, _, I3, pu, rfl, rfl⟩
  refine thn (part.run pins s3 σ _ (fun o H4 => o = some (-1) ∧ H4 = _) I3 ⟨1, rfl, -1, rfl, rfl, rfl⟩) ?_
  rintro vs s4 ⟨_, _, I4, ps, rfl, rfl⟩
  cases pl; cases pu
  have I5 := I4.kept (h' := s4.heap.push { cls := .type "slice", data := .fields #[.none, .none, vs] }) (t' := s4.toks) fun b ob z => Heap.get?_push_of_some _ z
  obtain ⟨its, r, ht, hz⟩ := I5.tuple hx
  refine tail_any (ops := [.ref p, .ref s4.heap.objs.size]) (T := "tuple") ht.typeIs PyProof.Rows.slot_tuple_getitem.lookup ?_ (by with_unfolding_all rfl)
  refine item_rev (X := X) ht (Heap.IsSliceOf.new _ .none .none vs) ps (by rw [← r.length]; exact hz) ?_
  exact ⟨.ref _, _, I5.laid (t' := s4.toks) (o := .tup xs.reverse) (fun _ _ z => Heap.get?_push_of_some _ z) (Nat.le_refl _) ⟨by rw [List.length_reverse]; exact hz, _, r.reverse, IsTup.new _ _⟩, rfl, q _ (I5.hok.fresh (Nat.le_refl _))⟩⟩
def aRevT (r : Ret) (Γ : Sl) (M : Mem) (Q : Ret → Sl → Mem → Prop) : Prop := match r with
  | .dat (.tup ds) => Q (.dat (.tup ds.reverse)) Γ M
  | _ => False
theorem q_revT {k : Nat} {p1 p2 p3 : Pos} (ha : QE X ρ a ta aa) (hK : X.K = K := by rfl) : QE X ρ (.Subscript a (.Slice none none (some (.UnaryOp .USub (.Constant (.int 1) k p1) p2)) p3) pos) (tRevT K ta) (aUn aRevT aa) := by
  subst hK
  refine ⟨pe_revT ha.pe, fun B σ H G Γ M Q R k h q => ha.rd B σ H G Γ M _ _ k h fun v H1 G1 Γ1 M1 r k1 e1 rr h1 => ?_⟩
  unfold aRevT at h1
  split at h1
  · rename_i ds
    obtain ⟨p, xs, ev, hx, rl⟩ := rep_tup.mp (show Rep X.K G1 (.tup ds) v from rr)
    exact ⟨p, xs, ev, ex_t k1.ex hx, (q.es e1).newT k1 rl.reverse h1⟩
  · exact h1.elim
end
/-! ### a def that calls itself: at fuel nought nothing is promised -/
theorem fnG_no {P : Program} {w : World} {K : PySem.W.Frag} {mg : Str → Option Value} {base : Heap} {k n : Nat} {f : Addr} {fd : FuncData} {ps : List Str} {S : ASp} (h : ∀ ds M Q, ¬ S ds M Q) : FnG P w K mg base CX0 k f fd ps (spA K n S) where
  arity := fun vs H Q E z => by
    obtain ⟨G, M, ds, _, _, _, _, _, Qa, hS, _⟩ := z
    exact absurd hS (h ds M Qa)
  go := fun A o s H ar us vs Q E r gd e b rv z => by
    obtain ⟨G, M, ds, _, _, _, _, _, Qa, hS, _⟩ := z
    exact absurd hS (h ds M Qa)
def e_aCatS := @aCatS.eq_def
def e_aSlS := @aSlS.eq_def
def e_aStr := @aStr.eq_def
def e_aEq0 := @aEq0.eq_def
def e_aLtT := @aLtT.eq_def
def e_aSortSet := @aSortSet.eq_def
def e_aRepT := @aRepT.eq_def
def e_aRevT := @aRevT.eq_def
end Gw

/-! truths in sums -/
namespace Gw
open PySem L2 PyProof.Rows
variable {ρ : Ent}
section
variable {prog : Program} {w : World} {A : Around} {E : Value → Shared → Prop} {s : Shared} {i : Int} {t : Tok} {b : Bool} {Q : Value → Shared → Prop}
def b2i (b : Bool) : Int := if b = true then 1 else 0
theorem not_sub : isSubtype (.type "int") (.type "bool") = pure false := by kernel_rfl
theorem gives_add (b : Bool) (i : Int) (t : Tok) : Gives (Builtin.«int.__add__» ⟨[.bool b, .int i t], []⟩) (.int ((if b = true then (1 : Int) else 0) + i)) :=
  .of_wp fun M A E s Q h => by obtain ⟨hp, g, d, tk, os⟩ := s; wp_walk; exact ⟨_, rfl, h⟩
theorem gives_sub (b : Bool) (i : Int) (t : Tok) : Gives (Builtin.«int.__sub__» ⟨[.bool b, .int i t], []⟩) (.int ((if b = true then (1 : Int) else 0) - i)) :=
  .of_wp fun M A E s Q h => by obtain ⟨hp, g, d, tk, os⟩ := s; wp_walk; exact ⟨_, rfl, h⟩
theorem same_sub : reflectedDiffers (.type "int") (.type "bool") "sub" = pure false := by
  unfold reflectedDiffers
  show (typeLookup (.type "bool") (dunderR "sub") >>= fun rb => typeLookup (.type "int") (dunderR "sub") >>= fun ra => pure (rb.isSome && rb != ra)) = pure false
  rw [typeLookup_type, typeLookup_type, builtinLookup_eq_fast]; kernel_rfl
theorem sub_ib (h : Q (.int (i - if b = true then (1 : Int) else 0) s.toks) { s with toks := s.toks + 1 }) : wpAny (model prog w) A (binaryOp .Sub (.int i t) (.bool b)) Q E s :=
  binaryOp_sub_gives (op := .Sub) (T := "int") (U := "bool") (by decide) (typeIs_int s i t) rfl F.fills_int_sub F.fills_bool_sub isSubtype_bool_int same_sub F.slot_int_sub F.entry_int_sub (F.args_int_sub_2 _ _) (AutoIntG7.int___sub___int_bool_0 i t b) trivial h
theorem add_bi (h : Q (.int ((if b = true then (1 : Int) else 0) + i) s.toks) { s with toks := s.toks + 1 }) : wpAny (model prog w) A (binaryOp .Add (.bool b) (.int i t)) Q E s :=
  binaryOp_left_gives (op := .Add) (T := "bool") (U := "int") (by decide) rfl (fun s' => typeIs_int s' i t) F.fills_bool_add F.fills_int_add not_sub F.slot_bool_add F.slot_int_radd F.entry_int_add (F.args_int_add_2 _ _) (gives_add b i t) trivial h
theorem sub_bi (h : Q (.int ((if b = true then (1 : Int) else 0) - i) s.toks) { s with toks := s.toks + 1 }) : wpAny (model prog w) A (binaryOp .Sub (.bool b) (.int i t)) Q E s :=
  binaryOp_left_gives (op := .Sub) (T := "bool") (U := "int") (by decide) rfl (fun s' => typeIs_int s' i t) F.fills_bool_sub F.fills_int_sub not_sub F.slot_bool_sub F.slot_int_rsub F.entry_int_sub (F.args_int_sub_2 _ _) (gives_sub b i t) trivial h
end
section
variable {X : Cx} {a b : Expr} {ta tb : TE} {aa ab : AE} {pos : Pos} {K : PySem.W.Frag}
/-- a whole number, or a truth -/
def numD : D → Option Int
  | .int i => some i
  | .bl b => some (b2i b)
  | _ => none
def isBl : D → Bool
  | .bl _ => true
  | _ => false
def rIB (f : Int → Int → Int) : R2 := fun x y H Q => (∃ i j, x = .int i ∧ y = .int j ∧ Q (.int (f i j)) H) ∨ (∃ i c, x = .int i ∧ y = .bl c ∧ Q (.int (f i (b2i c))) H) ∨ ∃ c j, x = .bl c ∧ y = .int j ∧ Q (.int (f (b2i c) j)) H
theorem op_addB : OpR X (binaryOp .Add) (rIB (· + ·)) := by
  rintro pins s σ H x y v u Q I rx ry (⟨i, j, rfl, rfl, q⟩ | ⟨i, c, rfl, rfl, q⟩ | ⟨c, j, rfl, rfl, q⟩)
  · obtain ⟨t, rfl⟩ := rx; obtain ⟨t', rfl⟩ := ry
    exact add_int ⟨.int _, H, I.tok _, ⟨_, rfl⟩, q⟩
  · obtain ⟨t, rfl⟩ := rx; cases ry
    exact add_int_bool ⟨.int _, H, I.tok _, ⟨_, rfl⟩, q⟩
  · cases rx; obtain ⟨t', rfl⟩ := ry
    exact add_bi ⟨.int _, H, I.tok _, ⟨_, rfl⟩, q⟩
theorem op_subB : OpR X (binaryOp .Sub) (rIB (· - ·)) := by
  rintro pins s σ H x y v u Q I rx ry (⟨i, j, rfl, rfl, q⟩ | ⟨i, c, rfl, rfl, q⟩ | ⟨c, j, rfl, rfl, q⟩)
  · obtain ⟨t, rfl⟩ := rx; obtain ⟨t', rfl⟩ := ry
    exact sub_int ⟨.int _, H, I.tok _, ⟨_, rfl⟩, q⟩
  · obtain ⟨t, rfl⟩ := rx; cases ry
    exact sub_ib ⟨.int _, H, I.tok _, ⟨_, rfl⟩, q⟩
  · cases rx; obtain ⟨t', rfl⟩ := ry
    exact sub_bi ⟨.int _, H, I.tok _, ⟨_, rfl⟩, q⟩
def aIB (f : Int → Int → Int) (x : Ret) (y : Ret) (Γ : Sl) (M : Mem) (Q : Ret → Sl → Mem → Prop) : Prop := match x, y with
  | .dat (.int i), .dat (.int j) => Q (.dat (.int (f i j))) Γ M
  | .dat (.int i), .dat (.bl c) => Q (.dat (.int (f i (b2i c)))) Γ M
  | .dat (.bl c), .dat (.int j) => Q (.dat (.int (f (b2i c) j))) Γ M
  | _, _ => False
theorem rd_IB {f : Int → Int → Int} : RdO K ρ (rIB f) (aIB f) := by
  intro B σ H H1 H2 G Γ M rx ry x y Q R k r1 r2 h q
  unfold aIB at h
  split at h
  · rename_i i j
    have e1 : x = .int i := by have := r1; simp only [RepR, Rep] at this; exact this
    have e2 : y = .int j := by have := r2; simp only [RepR, Rep] at this; exact this
    exact .inl ⟨i, j, e1, e2, q _ H G Γ M (.dat (.int _)) k .refl (by simp only [RepR, Rep]) h⟩
  · rename_i i j
    have e1 : x = .int i := by have := r1; simp only [RepR, Rep] at this; exact this
    have e2 : y = .bl j := by have := r2; simp only [RepR, Rep] at this; exact this
    exact .inr (.inl ⟨i, j, e1, e2, q _ H G Γ M (.dat (.int _)) k .refl (by simp only [RepR, Rep]) h⟩)
  · rename_i i j
    have e1 : x = .bl i := by have := r1; simp only [RepR, Rep] at this; exact this
    have e2 : y = .int j := by have := r2; simp only [RepR, Rep] at this; exact this
    exact .inr (.inr ⟨i, j, e1, e2, q _ H G Γ M (.dat (.int _)) k .refl (by simp only [RepR, Rep]) h⟩)
  · exact h.elim
theorem q_addB (ha : QE X ρ a ta aa) (hb : QE X ρ b tb ab) : QE X ρ (.BinOp a .Add b pos) (tOp (rIB (· + ·)) ta tb) (aOp (aIB fun i j => i + j) aa ab) := q_op op_addB rd_IB ha hb
theorem q_subB (ha : QE X ρ a ta aa) (hb : QE X ρ b tb ab) : QE X ρ (.BinOp a .Sub b pos) (tOp (rIB (· - ·)) ta tb) (aOp (aIB fun i j => i - j) aa ab) := q_op op_subB rd_IB ha hb
/-! ### str of a whole number or of a truth -/
def strN : D → Str
  | .int i => Str.ofString (toString i)
  | .bl b => if b then "True" else "False"
  | _ => ""
def rStrB : List V → Hp → VK → Prop := fun xs H Q => (∃ i, xs = [.int i] ∧ i.natAbs.log2 < 1920 ∧ Q (.str (toString i)) H) ∨ ∃ c : Bool, xs = [.bl c] ∧ Q (.str (if c then "True" else "False")) H
theorem call_strB : CallR X (.type "str") rStrB := by
  rintro pins s σ H xs us Q I r (h | ⟨c, rfl, q⟩)
  · exact call_str_int pins s σ H xs us Q I r h
  · obtain ⟨u, rfl, hu⟩ := vals1 r
    cases (show u = Value.bool c from hu)
    exact PySem.P.str_of_bool ⟨.str _, H, I.tok _, ⟨_, rfl⟩, q⟩
def aStrB (r : Ret) (Γ : Sl) (M : Mem) (Q : Ret → Sl → Mem → Prop) : Prop := match r with
  | .dat (.int i) => i.natAbs.log2 < 1920 ∧ Q (.dat (.str (strN (.int i)))) Γ M
  | .dat (.bl c) => Q (.dat (.str (strN (.bl c)))) Γ M
  | _ => False
theorem q_strB {p : Pos} (hm : X.mg "str" = none) (ha : QE X ρ a ta aa) (hg : Gl X "str" := by rfl) (na : starEach [a] X.env = (false, eval a X.env) :: starEach [] X.env := by rfl) :
    QE X ρ (.Call (.Name "str" p) [a] [] pos) (tCB rStrB (tCons ta tNil)) (aCall1 aStrB aa) := q_callT1 call_strB (fun B σ H H1 G Γ M rx x Q R k r1 h q => by
  unfold aStrB at h
  split at h
  · rename_i i
    have e1 : x = .int i := by have := r1; simp only [RepR, Rep] at this; exact this
    exact .inl ⟨i, by rw [e1], h.1, q _ H G Γ M (.dat (.str _)) k .refl (by simp only [RepR, Rep, strN]) h.2⟩
  · rename_i c
    have e1 : x = .bl c := by have := r1; simp only [RepR, Rep] at this; exact this
    exact .inr ⟨c, by rw [e1], q _ H G Γ M (.dat (.str _)) k .refl (by simp only [RepR, Rep, strN]) h⟩
  · exact h.elim) hm ha hg (na := na)
/-! ### xs == [], xs != [] -/
def rEqL0 (K : PySem.W.Frag) (f : Bool → Bool) : R2 := fun x y H Q => ∃ a b xs, x = .ref a ∧ y = .ref b ∧ SqL K H a xs ∧ SqL K H b [] ∧ Q (.bl (f (xs.length == 0))) H
theorem op_eqL0 (hu : X.A.units + 64 < cLine) : OpR X (compareOp .Eq) (rEqL0 X.K id) := by
  rintro pins s σ H x y v u Q I rx ry ⟨p, q, xs, rfl, rfl, hp, hq, w⟩
  cases rx; cases ry
  obtain ⟨its, r, ht, _⟩ := I.list hp
  obtain ⟨jts, r2, ht2, _⟩ := I.list hq
  cases r2
  by_cases z : its.toArray.size = (#[] : Array Value).size
  · refine SeqAt.RcAt.lists (e := fun _ => true) ht.isList ht2.isList z (by omega) (fun j _ h2 => absurd h2 (Nat.not_lt_zero j)) X.prog X.w X.xe _ ⟨.bl _, H, I, ?_, w⟩
    have : xs.length = 0 := by rw [r.length, ← List.size_toArray]; exact z
    rw [this]; simp at z; subst z; rfl
  · refine SeqAt.RcAt.lists_lengths ht.isList ht2.isList (bne_iff_ne.mpr z) (by omega) X.prog X.w X.xe _ ⟨.bl _, H, I, ?_, w⟩
    have : xs.length ≠ 0 := by rw [r.length, ← List.size_toArray]; exact z
    show Value.bool false = Value.bool (id (xs.length == 0))
    rw [show (xs.length == 0) = false from by simpa using this]; rfl
theorem op_neL0 (hu : X.A.units + 64 < cLine) : OpR X (compareOp .NotEq) (rEqL0 X.K not) := by
  rintro pins s σ H x y v u Q I rx ry ⟨p, q, xs, rfl, rfl, hp, hq, w⟩
  cases rx; cases ry
  obtain ⟨its, r, ht, _⟩ := I.list hp
  obtain ⟨jts, r2, ht2, _⟩ := I.list hq
  cases r2
  by_cases z : its.toArray.size = (#[] : Array Value).size
  · refine SeqAt.RcNeAt.lists (e := fun _ => true) ht.isList ht2.isList z (by omega) (fun j _ h2 => absurd h2 (Nat.not_lt_zero j)) X.prog X.w X.xe _ ⟨.bl _, H, I, ?_, w⟩
    have : xs.length = 0 := by rw [r.length, ← List.size_toArray]; exact z
    rw [this]; simp at z; subst z; rfl
  · refine SeqAt.RcNeAt.lists_lengths ht.isList ht2.isList (bne_iff_ne.mpr z) (by omega) X.prog X.w X.xe _ ⟨.bl _, H, I, ?_, w⟩
    have : xs.length ≠ 0 := by rw [r.length, ← List.size_toArray]; exact z
    show Value.bool true = Value.bool (not (xs.length == 0))
    rw [show (xs.length == 0) = false from by simpa using this]; rfl
def aEqL0 (f : Bool → Bool) (x : Ret) (y : Ret) (Γ : Sl) (M : Mem) (Q : Ret → Sl → Mem → Prop) : Prop := match sqOf x Γ M, y with
  | some (.lst ds), .tmp (.lst []) => Q (.dat (.bl (f (ds.length == 0)))) Γ M
  | _, _ => False
theorem rd_eqL0 {f : Bool → Bool} : RdO K ρ (rEqL0 K f) (aEqL0 f) := by
  intro B σ H H1 H2 G Γ M rx ry x y Q R k r1 r2 h q
  unfold aEqL0 at h
  split at h
  · rename_i ds hs
    obtain ⟨p, xs, e1, h1, l1⟩ := sqOf_ok k r1 hs
    obtain ⟨p2, ys, e2, h2, l2⟩ := sqOf_ok k r2 (show sqOf (.tmp (.lst [])) Γ M = some (.lst []) from rfl)
    rw [repL_nil.mp l2] at h2
    exact ⟨p, p2, xs, e1, e2, SqL.of h1, SqL.of h2, q _ H G Γ M (.dat (.bl _)) k .refl (by simp only [RepR, Rep]; rw [l1.length]) h⟩
  · exact h.elim
theorem c_eqL0 (hu : X.A.units + 64 < cLine) (hK : X.K = K := by rfl) : CmpR X ρ .Eq (rEqL0 K id) (aEqL0 id) := by subst hK; exact ⟨op_eqL0 hu, rd_eqL0⟩
theorem c_neL0 (hu : X.A.units + 64 < cLine) (hK : X.K = K := by rfl) : CmpR X ρ .NotEq (rEqL0 K not) (aEqL0 not) := by subst hK; exact ⟨op_neL0 hu, rd_eqL0⟩
end
/-- the text of a whole number is short -/
theorem strI_len {k : Nat} {i : Int} (hk : 1 ≤ k) (h : i.natAbs < 10 ^ k) : (Str.ofString (toString i)).length ≤ k + 1 := by
  have r : ∀ n : Nat, n < 10 ^ k → (Nat.repr n).length ≤ k := fun n hn => by
    have := digitsCore_len_pow 10 (by decide) k (n + 1) n [] hk hn
    simpa [Nat.repr, Nat.toDigits] using this
  rw [ofString_len]
  cases i with
  | ofNat m =>
    have := r m h
    show (Nat.repr m).length ≤ _
    omega
  | negSucc m =>
    have := r (m + 1) h
    show ("-" ++ Nat.repr (m + 1)).length ≤ _
    have h1 : "-".length = 1 := by decide
    rw [String.length_append]
    omega
def e_aEqL0 := @aEqL0.eq_def
def e_aIB := @aIB.eq_def
def e_aStrB := @aStrB.eq_def
end Gw

namespace Law
open PySem L2 Gw
/-! ### the drawer: one shared list of two whole numbers, ahead of all else -/
def HM (a : Addr) (g s : Int) (M : Mem) : Mem := (a, .lst [.int g, .int s]) :: M
structure HOk (g s : Int) : Prop where
  s0 : 0 ≤ s
  s1 : s < 2305843009213693951
def S__law_hand : ASp := fun ds M Q => ∃ (ns : List Int) (k : Int), ds = [.scr (ns.map .int), .int k] ∧ 0 ≤ k ∧ k ≤ 100 ∧ ∀ a g s, a ∉ dom M → HOk g s → Q (.dat (.ref a)) (HM a g s M)
def S__law_take : ASp := fun ds M Q => ∃ a g s M0 m, ds = [.ref a, .int m] ∧ M = HM a g s M0 ∧ a ∉ dom M0 ∧ HOk g s ∧ 0 < m ∧ m ≤ 10 ^ 40 ∧ ∀ d g' s', 0 ≤ d → d < m → HOk g' s' → Q (.dat (.int d)) (HM a g' s' M0)
def S__law_pick : ASp := fun ds M Q => ∃ a g s M0 xs, ds = [.ref a, .lst xs] ∧ M = HM a g s M0 ∧ a ∉ dom M0 ∧ HOk g s ∧ 0 < xs.length ∧ xs.length ≤ 1000 ∧ ∀ d g' s', d ∈ xs → HOk g' s' → Q (.dat d) (HM a g' s' M0)
theorem ar__law_hand : Ar 2 S__law_hand := fun _ _ _ ⟨_, _, e, _⟩ => by rw [e]; rfl
theorem ar__law_take : Ar 2 S__law_take := fun _ _ _ ⟨_, _, _, _, _, e, _⟩ => by rw [e]; rfl
theorem ar__law_pick : Ar 2 S__law_pick := fun _ _ _ ⟨_, _, _, _, _, e, _⟩ => by rw [e]; rfl

/-! ### things of any kind -/
mutual
def tb (m : Nat) : D → Bool
  | .int i => decide (i.natAbs ≤ 2 ^ 50 + m)
  | .str x => decide (x.length ≤ 1000 + m)
  | .tup ds => decide (ds.length ≤ 4000 + m) && tbL m ds
  | .lst ds => decide (ds.length ≤ 4000 + m) && tbL m ds
  | .dct _ _ => true
  | .non => true
  | .bl _ => true
  | .scr _ => false
  | .ref _ => false
  | .exc _ _ _ => false
def tbL (m : Nat) : List D → Bool
  | [] => true
  | d :: ds => tb m d && tbL m ds
end
mutual
def tdep : D → Nat
  | .tup ds => tdepL ds + 1
  | .int _ => 0
  | .str _ => 0
  | .lst _ => 0
  | .dct _ _ => 0
  | .non => 0
  | .bl _ => 0
  | .scr _ => 0
  | .ref _ => 0
  | .exc _ _ _ => 0
def tdepL : List D → Nat
  | [] => 0
  | d :: ds => max (tdep d) (tdepL ds)
end
def within : D → Int → Int → Bool
  | .int i, lo, hi => decide (lo ≤ i) && decide (i ≤ hi)
  | _, _, _ => false
def rising : List Int → Bool
  | a :: b :: r => decide (a < b) && rising (b :: r)
  | _ => true
def toI : D → Int
  | .int i => i
  | _ => 0
def areC (c : D) (n : Int) : Bool := match c with
  | .tup es => decide (es.length ≤ 4) && es.all (within · 0 (n - 1)) && rising (es.map toI)
  | _ => false
def nums : D → List Int
  | .tup es => es.map toI
  | _ => []
def isG (d : D) (n : Int) : Bool := match d with
  | .tup [.str w, e, c, t] => within e (if w = "turn" ∨ w = "phase" then 1 else 0) (if w = "turn" ∨ w = "phase" then 7 else 0) && areC c n &&
    (if w = "phase" then decide (nums c = []) && within t (-1) (-1) else within t 0 (n - 1) && !decide (toI t ∈ nums c) &&
      (if w = "cross" then decide ((nums c).length = 1) && decide ((nums c).headD 0 < toI t) else decide (w = "not" ∨ w = "half" ∨ w = "turn")))
  | _ => false
/-- a gate of few words, of a gate -/
def isNar (d : D) : Bool := match d with
  | .tup [.str w, _, c, _] => !decide (w = "cross") && decide ((nums c).length ≤ (if w = "not" then 1 else 0))
  | _ => false
def isC (d : D) : Bool := match d with
  | .tup [n, .tup gs] => within n 1 8 && decide (gs.length ≤ 3000) && gs.all (isG · (toI n)) && (decide (gs.length ≤ 600) || gs.all isNar)
  | _ => false
def many (n : Int) : Prop := n.natAbs ≤ 100
def S_is_within : ASp := fun ds M Q => ∃ d lo hi, ds = [d, .int lo, .int hi] ∧ NoRef d ∧ Q (.dat (.bl (within d lo hi))) M
def S_are_controls : ASp := fun ds M Q => ∃ d n, ds = [d, .int n] ∧ tb 100 d = true ∧ Q (.dat (.bl (areC d n))) M
def S_is_gate : ASp := fun ds M Q => ∃ d n, ds = [d, .int n] ∧ tb 100 d = true ∧ Q (.dat (.bl (isG d n))) M
def S_is_narrow_gate : ASp := fun ds M Q => ∃ d n, ds = [d] ∧ isG d n = true ∧ Q (.dat (.bl (isNar d))) M
def S_is_circuit : ASp := fun ds M Q => ∃ d, ds = [d] ∧ tb 100 d = true ∧ Q (.dat (.bl (isC d))) M
def S__law_whole : ASp := S_is_within
def S__law_is_gate : ASp := S_is_gate
def S__law_is_circuit : ASp := S_is_circuit
/-- a circuit that is drawn -/
def S__law_gate : ASp := fun ds M Q => ∃ a g s M0 n, ds = [.ref a, .int n] ∧ M = HM a g s M0 ∧ a ∉ dom M0 ∧ HOk g s ∧ 1 ≤ n ∧ n ≤ 8 ∧ ∀ d g' s', tb 0 d = true → tdep d ≤ 2 → HOk g' s' → Q (.dat d) (HM a g' s' M0)
def S__law_circuit : ASp := fun ds M Q => ∃ a g s M0, ds = [.ref a, .int 8, .int 10] ∧ M = HM a g s M0 ∧ a ∉ dom M0 ∧ HOk g s ∧ ∀ (n : Int) gs g' s', 1 ≤ n → n ≤ 8 → gs.length ≤ 11 → tbL 0 gs = true → tdepL gs ≤ 2 → HOk g' s' → Q (.dat (.tup [.int n, .tup gs])) (HM a g' s' M0)
def S__law_odd : ASp := fun ds M Q => ∃ a g s M0, ds = [.ref a] ∧ M = HM a g s M0 ∧ a ∉ dom M0 ∧ HOk g s ∧ ∀ d g' s', tb 0 d = true → tdep d ≤ 2 → HOk g' s' → Q (.dat d) (HM a g' s' M0)
def R__law_bent (n : Nat) : ASp := fun ds M Q => ∃ a g s M0 d m, ds = [.ref a, d] ∧ M = HM a g s M0 ∧ a ∉ dom M0 ∧ HOk g s ∧ tb m d = true ∧ m ≤ 50 ∧ tdep d < n ∧ ∀ d' g' s', tb (m + 1) d' = true → tdep d' ≤ tdep d + 2 → HOk g' s' → Q (.dat d') (HM a g' s' M0)
def S__law_bent : ASp := R__law_bent 8
def S__law_known : ASp := fun ds M Q => ds = [] ∧ ∀ cs : List D, cs.length ≤ 100 → tbL 100 cs = true → Q (.tmp (.lst cs)) M
def SLawP : List Int → Prop := fun ns => ns.length ≤ 63
def S_law : ASp := SLaw SLawP
theorem ar_is_within : Ar 3 S_is_within := fun _ _ _ ⟨_, _, _, e, _⟩ => by rw [e]; rfl
theorem ar_are_controls : Ar 2 S_are_controls := fun _ _ _ ⟨_, _, e, _⟩ => by rw [e]; rfl
theorem ar_is_gate : Ar 2 S_is_gate := fun _ _ _ ⟨_, _, e, _⟩ => by rw [e]; rfl
theorem ar_is_narrow_gate : Ar 1 S_is_narrow_gate := fun _ _ _ ⟨_, _, e, _⟩ => by rw [e]; rfl
theorem ar_is_circuit : Ar 1 S_is_circuit := fun _ _ _ ⟨_, e, _⟩ => by rw [e]; rfl
theorem ar__law_whole : Ar 3 S__law_whole := ar_is_within
theorem ar__law_is_gate : Ar 2 S__law_is_gate := ar_is_gate
theorem ar__law_is_circuit : Ar 1 S__law_is_circuit := ar_is_circuit
theorem ar__law_gate : Ar 2 S__law_gate := fun _ _ _ ⟨_, _, _, _, _, e, _⟩ => by rw [e]; rfl
theorem ar__law_circuit : Ar 3 S__law_circuit := fun _ _ _ ⟨_, _, _, _, e, _⟩ => by rw [e]; rfl
theorem ar__law_odd : Ar 1 S__law_odd := fun _ _ _ ⟨_, _, _, _, e, _⟩ => by rw [e]; rfl
theorem arR__law_bent (n : Nat) : Ar 2 (R__law_bent n) := fun _ _ _ ⟨_, _, _, _, _, _, e, _⟩ => by rw [e]; rfl
theorem ar__law_bent : Ar 2 S__law_bent := arR__law_bent 8
theorem no__law_bent : ∀ ds M Q, ¬ R__law_bent 0 ds M Q := fun _ _ _ ⟨_, _, _, _, _, _, _, _, _, _, _, _, h, _⟩ => absurd h (Nat.not_lt_zero _)
theorem ar__law_known : Ar 0 S__law_known := fun _ _ _ ⟨e, _⟩ => by rw [e]; rfl
theorem ar_law : Ar 1 S_law := Gw.ar_law SLawP
theorem sLawP_all : ∀ ns : List Int, ns.length ≤ 63 → (∀ z ∈ ns, Builtin.Int.intBits z ≤ 1048576) → SLawP ns := fun _ h _ => h

/-! ### the text, the abstract bodies (printed by gen.py) -/
def top (i : Nat) : Stmt := PySem.Challenge.pw_gatewaves_k09_circuits_of_anything.main.body.getD i (.Pass ⟨0, 0, 0, 0⟩)
abbrev s_is_within : Stmt := top 7
abbrev N_is_within : List Str := ["thing", "low", "high"]
def as_is_within : AS := (aRet (aAndV (aUn (aIsi .int) (aVar 0)) (aAndV (aNotV (aUn (aIsi .bool) (aVar 0))) (aChain (aI0 fun i j => .bl (decide (i ≤ j))) (aI0 fun i j => .bl (decide (i ≤ j))) (aVar 1) (aVar 0) (aVar 2)))))
abbrev s_are_controls : Stmt := top 8
abbrev N_are_controls : List Str := ["thing", "many", "wire", "one", "other"]
def as_are_controls_e1 : AE := (aCall S_is_within (aCons (aVar 2) (aCons (aC (.int 0)) (aCons (aOp (aI0 fun i j => .int (i - j)) (aVar 1) (aC (.int 1))) aNil))))
def as_are_controls_e2 : AE := (aOp (aI0 fun i j => .bl (decide (i < j))) (aVar 3) (aVar 4))
def as_are_controls_t1 : AS := (aRet (aCall1 (aAllB (·.all id)) (aLc (aIzip (aCons (aVar 0) (aCons (aSl (aVar 0) (aOS (aC (.int 1))) aON) aNil))) (agT 2 (agCons (agN 3) (agCons (agN 4) agNil))) aYes as_are_controls_e2 [3, 4])))
def as_are_controls_t2 : AS := (aSeq (aIfS (aNot (aTst (aCall1 (aAllB (·.all id)) (aLc (aITup (aVar 0)) (agN 2) aYes as_are_controls_e1 [2])))) (aRet (aC (.bl false))) aNext)
  as_are_controls_t1)
def as_are_controls : AS := (aSeq (aIfS (aOr (aNot (aTst (aUn (aIsi .tuple) (aVar 0)))) (aTst (aOp (aI0 fun i j => .bl (decide (j < i))) (aCall1 aLen (aVar 0)) (aC (.int 4))))) (aRet (aC (.bl false))) aNext)
  as_are_controls_t2)
abbrev s_is_gate : Stmt := top 9
abbrev N_is_gate : List Str := ["thing", "many", "word", "eighths", "controls", "wire", "least", "greatest"]
def as_is_gate_t1 : AS := (aRet (aOp (aIn id) (aVar 2) (aTup (aCons (aC (.str "not")) (aCons (aC (.str "half")) (aCons (aC (.str "turn")) aNil))))))
def as_is_gate_t2 : AS := (aSeq (aIfS (aTst (aOp (aEqS id) (aVar 2) (aC (.str "cross")))) (aRet (aAndV (aOp (aEq id) (aCall1 aLen (aVar 4)) (aC (.int 1))) (aOp (aI0 fun i j => .bl (decide (i < j))) (aOp aIx (aVar 4) (aC (.int 0))) (aVar 5)))) aNext)
  as_is_gate_t1)
def as_is_gate_t3 : AS := (aSeq (aIfS (aOr (aNot (aTst (aCall S_is_within (aCons (aVar 5) (aCons (aC (.int 0)) (aCons (aOp (aI0 fun i j => .int (i - j)) (aVar 1) (aC (.int 1))) aNil)))))) (aTst (aOp (aIn id) (aVar 5) (aVar 4)))) (aRet (aC (.bl false))) aNext)
  as_is_gate_t2)
def as_is_gate_t4 : AS := (aSeq (aIfS (aTst (aOp (aEqS id) (aVar 2) (aC (.str "phase")))) (aRet (aAndV (aOp (aEq0 id) (aVar 4) (aTup aNil)) (aCall S_is_within (aCons (aVar 5) (aCons (aC (.int (-1))) (aCons (aC (.int (-1))) aNil)))))) aNext)
  as_is_gate_t3)
def as_is_gate_t5 : AS := (aSeq (aIfS (aNot (aTst (aCall S_are_controls (aCons (aVar 4) (aCons (aVar 1) aNil))))) (aRet (aC (.bl false))) aNext)
  as_is_gate_t4)
def as_is_gate_t6 : AS := (aSeq (aUnp (aVar 0) (agT 4 (agCons (agN 2) (agCons (agN 3) (agCons (agN 4) (agCons (agN 5) agNil))))))
  (aSeq (aUnp (aIfE (aTst (aOp (aIn id) (aVar 2) (aTup (aCons (aC (.str "turn")) (aCons (aC (.str "phase")) aNil))))) (aTup (aCons (aC (.int 1)) (aCons (aOp (aI0 fun i j => .int (i - j)) (aC (.int 8)) (aC (.int 1))) aNil))) (aTup (aCons (aC (.int 0)) (aCons (aC (.int 0)) aNil)))) (agT 2 (agCons (agN 6) (agCons (agN 7) agNil))))
  (aSeq (aIfS (aNot (aTst (aCall S_is_within (aCons (aVar 3) (aCons (aVar 6) (aCons (aVar 7) aNil)))))) (aRet (aC (.bl false))) aNext)
  as_is_gate_t5)))
def as_is_gate : AS := (aSeq (aIfS (aOr (aNot (aTst (aUn (aIsi .tuple) (aVar 0)))) (aOr (aTst (aOp (aEq not) (aCall1 aLen (aVar 0)) (aC (.int 4)))) (aNot (aTst (aUn (aIsi .str) (aOp aIx (aVar 0) (aC (.int 0)))))))) (aRet (aC (.bl false))) aNext)
  as_is_gate_t6)
abbrev s_is_narrow_gate : Stmt := top 10
abbrev N_is_narrow_gate : List Str := ["gate", "word", "eighths", "controls", "wire"]
def as_is_narrow_gate : AS := (aSeq (aUnp (aVar 0) (agT 4 (agCons (agN 1) (agCons (agN 2) (agCons (agN 3) (agCons (agN 4) agNil))))))
  (aRet (aAndV (aOp (aEqS not) (aVar 1) (aC (.str "cross"))) (aOp (aI0 fun i j => .bl (decide (i ≤ j))) (aCall1 aLen (aVar 3)) (aCall1 aInt (aOp (aEqS id) (aVar 1) (aC (.str "not"))))))))
abbrev s_is_circuit : Stmt := top 11
abbrev N_is_circuit : List Str := ["thing", "many", "gates", "gate"]
def as_is_circuit_e1 : AE := (aCall S_is_gate (aCons (aVar 3) (aCons (aVar 1) aNil)))
def as_is_circuit_e2 : AE := (aCall S_is_narrow_gate (aCons (aVar 3) aNil))
def as_is_circuit_t1 : AS := (aRet (aOrV (aOp (aI0 fun i j => .bl (decide (i ≤ j))) (aCall1 aLen (aVar 2)) (aC (.int 600))) (aCall1 (aAllB (·.all id)) (aLc (aITup (aVar 2)) (agN 3) aYes as_is_circuit_e2 [3]))))
def as_is_circuit_t2 : AS := (aSeq (aIfS (aNot (aTst (aCall1 (aAllB (·.all id)) (aLc (aITup (aVar 2)) (agN 3) aYes as_is_circuit_e1 [3])))) (aRet (aC (.bl false))) aNext)
  as_is_circuit_t1)
def as_is_circuit_t3 : AS := (aSeq (aUnp (aVar 0) (agT 2 (agCons (agN 1) (agCons (agN 2) agNil))))
  (aSeq (aIfS (aOr (aNot (aTst (aCall S_is_within (aCons (aVar 1) (aCons (aC (.int 1)) (aCons (aC (.int 8)) aNil)))))) (aOr (aNot (aTst (aUn (aIsi .tuple) (aVar 2)))) (aTst (aOp (aI0 fun i j => .bl (decide (j < i))) (aCall1 aLen (aVar 2)) (aC (.int 3000)))))) (aRet (aC (.bl false))) aNext)
  as_is_circuit_t2))
def as_is_circuit : AS := (aSeq (aIfS (aOr (aNot (aTst (aUn (aIsi .tuple) (aVar 0)))) (aTst (aOp (aEq not) (aCall1 aLen (aVar 0)) (aC (.int 2))))) (aRet (aC (.bl false))) aNext)
  as_is_circuit_t3)
abbrev s__law_hand : Stmt := top 13
abbrev N__law_hand : List Str := ["_law_script", "_law_k", "_law_cell", "_law_great"]
def as__law_hand_t1 : AS := (aSeq (aAsgF (aOp (aIC CM fun i j => .int (i * j)) (aOp (aIC (fun _ j => j ≠ 0) fun i j => .int (i.fmod j)) (aCall1 aAbs (aVar 2)) (aOp (aIC CPowW fun i j => .int (i ^ j.toNat)) (aOp (aIC CPowW fun i j => .int (i ^ j.toNat)) (aC (.int 10)) (aC (.int 60))) (aC (.int 5)))) (aCall1 aInt (aOp (aI0 fun i j => .bl (decide (j ≤ i))) (aCall1 aAbs (aVar 2)) (aOp (aIC CPowW fun i j => .int (i ^ j.toNat)) (aC (.int 10)) (aC (.int 18)))))) 3)
  (aRet (aSh (aLst (aCons (aVar 3) (aCons (aOp (aIC (fun _ j => j ≠ 0) fun i j => .int (i.fmod j)) (aOp (aIC CM fun i j => .int (i * j)) (aOp (aI0 fun i j => .int (i + j)) (aOp (aI0 fun i j => .int (i + j)) (aOp (aIC (fun _ j => j ≠ 0) fun i j => .int (i.fmod j)) (aVar 2) (aC (.int 2305843009213693951))) (aOp (aIC CM fun i j => .int (i * j)) (aOp (aIC CM fun i j => .int (i * j)) (aC (.int 7919)) (aVar 1)) (aVar 1))) (aC (.int 11))) (aC (.int 48271))) (aC (.int 2305843009213693951))) aNil))))))
def as__law_hand : AS := (aSeq (aAsgF (aOp (aI0 fun i j => .int (i + j)) (aOp (aIC CM fun i j => .int (i * j)) (aC (.int 3)) (aVar 1)) (aCall1 aLen (aVar 0))) 2)
  (aSeq (aIfS (aTst (aOp (aI0 fun i j => .bl (decide (i < j))) (aVar 1) (aCall1 aLen (aVar 0)))) (aAsgF (aOp aIx (aVar 0) (aVar 1)) 2) aNext)
  as__law_hand_t1))
abbrev s__law_take : Stmt := top 14
abbrev N__law_take : List Str := ["_law_hand_here", "_law_many", "_law_digit"]
def as__law_take_t1 : AS := (aSeq (aSetI (aOp (aIC (fun _ j => j ≠ 0) fun i j => .int (i.fmod j)) (aOp (aI0 fun i j => .int (i + j)) (aOp (aIC CM fun i j => .int (i * j)) (aOp aIx (aVar 0) (aC (.int 1))) (aC (.int 1181783497276652981))) (aC (.int 12345678910987))) (aC (.int 2305843009213693951))) (aVar 0) (aC (.int 1)))
  (aRet (aOp (aIC (fun _ j => j ≠ 0) fun i j => .int (i.fmod j)) (aOp (aIC CDivW fun i j => .int (i / j)) (aOp (aIC (fun _ j => j ≠ 0) fun i j => .int (i.fmod j)) (aOp (aIC CM fun i j => .int (i * j)) (aOp (aIC CDivW fun i j => .int (i / j)) (aOp aIx (aVar 0) (aC (.int 1))) (aC (.int 65537))) (aOp (aI0 fun i j => .int (i + j)) (aOp (aIC (fun _ j => j ≠ 0) fun i j => .int (i.fmod j)) (aOp aIx (aVar 0) (aC (.int 1))) (aC (.int 65537))) (aC (.int 3)))) (aC (.int 2305843009213693921))) (aC (.int 97))) (aVar 1))))
def as__law_take : AS := (aSeq (aIfS (aTst (aOp (aI0 fun i j => .bl (decide (j < i))) (aOp aIx (aVar 0) (aC (.int 0))) (aC (.int 0)))) (aSeq (aAsgF (aOp (aIC (fun _ j => j ≠ 0) fun i j => .int (i.fmod j)) (aOp aIx (aVar 0) (aC (.int 0))) (aVar 1)) 2)
  (aSeq (aSetI (aOp (aIC CDivW fun i j => .int (i / j)) (aOp aIx (aVar 0) (aC (.int 0))) (aVar 1)) (aVar 0) (aC (.int 0)))
  (aRet (aVar 2)))) aNext)
  as__law_take_t1)
abbrev s__law_pick : Stmt := top 15
abbrev N__law_pick : List Str := ["_law_hand_here", "_law_some"]
def as__law_pick : AS := (aRet (aOp aIx (aVar 1) (aCall S__law_take (aCons (aVar 0) (aCons (aCall1 aLen (aVar 1)) aNil)))))
abbrev s__law_gate : Stmt := top 16
abbrev N__law_gate : List Str := ["_law_hand_here", "_law_many", "_law_word", "_law_wire", "_law_eighths", "_law_others", "_law_both", "_law_controls", "_law_turn", "_law_free", "_law_one"]
def as__law_gate_e1 : AE := (aVar 10)
def as__law_gate_c1 : AT := (aTst (aOp (aEq not) (aVar 10) (aVar 3)))
def as__law_gate_t1 : AS := (aSeq (aAsgF (aCall1 aSortI (aLst (aCons (aVar 3) (aCons (aCall S__law_pick (aCons (aVar 0) (aCons (aVar 5) aNil))) aNil)))) 6)
  (aRet (aTup (aCons (aVar 2) (aCons (aC (.int 0)) (aCons (aTup (aCons (aOp aIx (aVar 6) (aC (.int 0))) aNil)) (aCons (aOp aIx (aVar 6) (aC (.int 1))) aNil)))))))
def as__law_gate_e2 : AE := (aVar 10)
def as__law_gate_c2 : AT := (aTst (aOp (aIn not) (aVar 10) (aVar 7)))
def as__law_gate_b1 : AS := (aSeq (aAsgF (aLc (aISeq (aVar 5)) (agN 10) as__law_gate_c2 as__law_gate_e2 [10]) 9)
  (aIfS (aTst (aOp (aEqL0 not) (aVar 9) (aLst aNil))) (aDrop (aMeth amApp (aVar 7) (aCons (aCall S__law_pick (aCons (aVar 0) (aCons (aVar 9) aNil))) aNil))) aNext))
def as__law_gate_t2 : AS := (aRet (aTup (aCons (aVar 2) (aCons (aIfE (aTst (aOp (aEqS id) (aVar 2) (aC (.str "turn")))) (aVar 4) (aC (.int 0))) (aCons (aCall1 aTuple (aCall1 aSortI (aVar 7))) (aCons (aVar 3) aNil))))))
def as__law_gate_t3 : AS := (aSeq (aAsg (aLst aNil) 7)
  (aSeq (aFor (aRng1 (aCons (aCall2 (aI0 fun i j => .int (if j < i then j else i)) (aC (.int 4)) (aCall S__law_pick (aCons (aVar 0) (aCons (aLst (aCons (aC (.int 0)) (aCons (aC (.int 0)) (aCons (aC (.int 1)) (aCons (aC (.int 1)) (aCons (aC (.int 2)) (aCons (aC (.int 3)) (aCons (aC (.int 4)) aNil)))))))) aNil)))) aNil)) (agN 8) as__law_gate_b1)
  as__law_gate_t2))
def as__law_gate_t4 : AS := (aSeq (aIfS (aTst (aOp (aEqS id) (aVar 2) (aC (.str "cross")))) (aSeq (aIfS (aTst (aOp (aEqL0 id) (aVar 5) (aLst aNil))) (aRet (aTup (aCons (aC (.str "not")) (aCons (aC (.int 0)) (aCons (aTup aNil) (aCons (aVar 3) aNil)))))) aNext)
  as__law_gate_t1) aNext)
  as__law_gate_t3)
def as__law_gate : AS := (aSeq (aAsgF (aCall S__law_pick (aCons (aVar 0) (aCons (aLst (aCons (aC (.str "not")) (aCons (aC (.str "half")) (aCons (aC (.str "turn")) (aCons (aC (.str "half")) (aCons (aC (.str "not")) (aCons (aC (.str "turn")) (aCons (aC (.str "phase")) (aCons (aC (.str "cross")) aNil))))))))) aNil))) 2)
  (aSeq (aUnp (aTup (aCons (aCall S__law_take (aCons (aVar 0) (aCons (aVar 1) aNil))) (aCons (aOp (aI0 fun i j => .int (i + j)) (aC (.int 1)) (aCall S__law_take (aCons (aVar 0) (aCons (aC (.int 7)) aNil)))) aNil))) (agT 2 (agCons (agN 3) (agCons (agN 4) agNil))))
  (aSeq (aAsgF (aLc (aRng1 (aCons (aVar 1) aNil)) (agN 10) as__law_gate_c1 as__law_gate_e1 [10]) 5)
  (aSeq (aIfS (aTst (aOp (aEqS id) (aVar 2) (aC (.str "phase")))) (aRet (aTup (aCons (aVar 2) (aCons (aVar 4) (aCons (aTup aNil) (aCons (aUn aNeg (aC (.int 1))) aNil)))))) aNext)
  as__law_gate_t4))))
abbrev s__law_circuit : Stmt := top 17
abbrev N__law_circuit : List Str := ["_law_hand_here", "_law_most", "_law_size", "_law_many", "_law_turn"]
def as__law_circuit_e1 : AE := (aCall S__law_gate (aCons (aVar 0) (aCons (aVar 3) aNil)))
def as__law_circuit : AS := (aSeq (aAsgF (aOp (aI0 fun i j => .int (i + j)) (aC (.int 1)) (aCall S__law_take (aCons (aVar 0) (aCons (aVar 1) aNil)))) 3)
  (aRet (aTup (aCons (aVar 3) (aCons (aCall1 aTuple (aLc (aRng1 (aCons (aCall S__law_take (aCons (aVar 0) (aCons (aOp (aI0 fun i j => .int (i + j)) (aVar 2) (aC (.int 1))) aNil))) aNil)) (agN 4) aYes as__law_circuit_e1 [4])) aNil)))))
abbrev s__law_odd : Stmt := top 18
abbrev N__law_odd : List Str := ["_law_hand_here", "_law_some"]
def as__law_odd : AS := (aSeq (aAsg (aLst (aCons (aC .non) (aCons (aC (.bl true)) (aCons (aC (.bl false)) (aCons (aC (.int 0)) (aCons (aC (.int 1)) (aCons (aUn aNeg (aC (.int 1))) (aCons (aC (.int 2)) (aCons (aC (.int 8)) (aCons (aOp (aIC CPowW fun i j => .int (i ^ j.toNat)) (aC (.int 10)) (aC (.int 12))) (aCons (aC (.str "")) (aCons (aC (.str "not")) (aCons (aC (.str "phase")) (aCons (aC (.str "a")) (aCons (aTup aNil) (aCons (aLst aNil) (aCons (aLk aDNew) (aCons (aTup (aCons (aC (.int 0)) aNil)) (aCons (aTup (aCons (aTup aNil) aNil)) aNil))))))))))))))))))) 1)
  (aSeq (aDrop (aMeth amApp (aVar 1) (aCons (aTup (aCons (aC (.int 0)) (aCons (aC (.int 0)) (aCons (aC (.int 0)) (aCons (aC (.int 0)) (aCons (aC (.int 0)) aNil)))))) aNil)))
  (aRet (aCall S__law_pick (aCons (aVar 0) (aCons (aOp aCat (aVar 1) (aLst (aCons (aTup (aCons (aC (.int 1)) (aCons (aC (.int 0)) (aCons (aC (.int 0)) (aCons (aC (.int 0)) (aCons (aC (.int 0)) aNil)))))) (aCons (aTup (aCons (aC (.int 0)) (aCons (aC (.int 0)) (aCons (aC (.int 0)) (aCons (aC (.int 0)) (aCons (aC (.int 1)) aNil)))))) (aCons (aTup (aCons (aC (.int 1)) (aCons (aC (.int 0)) (aCons (aC (.int 1)) (aCons (aC (.int 0)) (aCons (aC (.int 1)) aNil)))))) (aCons (aLst (aCons (aC (.str "x")) aNil)) (aCons (aTup (aCons (aTup (aCons (aC (.int 0)) aNil)) (aCons (aTup (aCons (aC (.int 1)) (aCons (aC (.int 0)) (aCons (aC (.int 0)) (aCons (aC (.int 0)) (aCons (aC (.int 0)) aNil)))))) aNil))) aNil))))))) aNil))))))
abbrev s__law_bent : Stmt := top 19
abbrev N__law_bent : List Str := ["_law_hand_here", "_law_piece", "_law_spot", "_law_odd_here", "_law_some"]
def as__law_bent_t1 (n : Nat) : AS := (aRet (aCall S__law_pick (aCons (aVar 0) (aCons (aLst (aCons (aVar 3) (aCons (aOp (aIB fun i j => i + j) (aVar 1) (aC (.int 1))) (aCons (aOp (aIB fun i j => i - j) (aVar 1) (aC (.int 1))) (aCons (aOp (aEq id) (aVar 1) (aC (.int 1))) (aCons (aCall1 aStrB (aVar 1)) (aCons (aOp (aIB fun i j => i - j) (aC (.int 0)) (aVar 1)) (aCons (aTup (aCons (aVar 1) aNil)) aNil)))))))) aNil))))
def as__law_bent_t2 (n : Nat) : AS := (aSeq (aIfS (aNot (aTst (aUn (aIsi .int) (aVar 1)))) (aRet (aVar 3)) aNext)
  (as__law_bent_t1 n))
def as__law_bent_t3 (n : Nat) : AS := (aSeq (aIfS (aTst (aUn (aIsi .str) (aVar 1))) (aRet (aCall S__law_pick (aCons (aVar 0) (aCons (aLst (aCons (aVar 3) (aCons (aC (.str "turn")) (aCons (aC (.str "half")) (aCons (aC (.str "cross")) (aCons (aOp aCatS (aVar 1) (aC (.str "x"))) (aCons (aSlS (aVar 1) aON (aOS (aUn aNeg (aC (.int 1))))) (aCons (aTup (aCons (aVar 1) aNil)) aNil)))))))) aNil)))) aNext)
  (as__law_bent_t2 n))
def as__law_bent_t4 (n : Nat) : AS := (aSeq (aAsgF (aCall S__law_odd (aCons (aVar 0) aNil)) 3)
  (aSeq (aIfS (aTst (aUn (aIsi .tuple) (aVar 1))) (aSeq (aAsgF (aCall S__law_take (aCons (aVar 0) (aCons (aOp (aI0 fun i j => .int (i + j)) (aCall1 aLen (aVar 1)) (aC (.int 1))) aNil))) 2)
  (aSeq (aAsgF (aLst (aCons (aOp aCatT (aSl (aVar 1) aON (aOS (aVar 2))) (aSl (aVar 1) (aOS (aOp (aI0 fun i j => .int (i + j)) (aVar 2) (aC (.int 1)))) aON)) (aCons (aOp aCatT (aOp aCatT (aSl (aVar 1) aON (aOS (aVar 2))) (aSl (aVar 1) (aOS (aVar 2)) (aOS (aOp (aI0 fun i j => .int (i + j)) (aVar 2) (aC (.int 1)))))) (aSl (aVar 1) (aOS (aVar 2)) aON)) (aCons (aCall1 aList (aVar 1)) (aCons (aVar 3) aNil))))) 4)
  (aRet (aCall S__law_pick (aCons (aVar 0) (aCons (aOp aCat (aVar 4) (aLst (aCons (aOp aCatT (aOp aCatT (aSl (aVar 1) aON (aOS (aVar 2))) (aTup (aCons (aVar 3) aNil))) (aSl (aVar 1) (aOS (aVar 2)) aON)) (aCons (aUn aRevT (aVar 1)) (aCons (aTup (aCons (aVar 1) aNil)) (aCons (aOp aCatT (aVar 1) (aTup (aCons (aVar 3) aNil))) aNil)))))) aNil)))))) aNext)
  (as__law_bent_t3 n)))
def as__law_bent (n : Nat) : AS := (aSeq (aIfS (aAnd (aTst (aUn (aIsi .tuple) (aVar 1))) (aAnd (aTst (aOp (aEq0 not) (aVar 1) (aTup aNil))) (aTst (aOp (aI0 fun i j => .bl (decide (j < i))) (aCall S__law_take (aCons (aVar 0) (aCons (aC (.int 6)) aNil))) (aC (.int 0)))))) (aSeq (aAsgF (aCall S__law_take (aCons (aVar 0) (aCons (aCall1 aLen (aVar 1)) aNil))) 2)
  (aRet (aOp aCatT (aOp aCatT (aSl (aVar 1) aON (aOS (aVar 2))) (aTup (aCons (aCall (R__law_bent n) (aCons (aVar 0) (aCons (aOp aIx (aVar 1) (aVar 2)) aNil))) aNil))) (aSl (aVar 1) (aOS (aOp (aI0 fun i j => .int (i + j)) (aVar 2) (aC (.int 1)))) aON)))) aNext)
  (as__law_bent_t4 n))
abbrev s__law_whole : Stmt := top 20
abbrev N__law_whole : List Str := ["_law_piece", "_law_low", "_law_high"]
def as__law_whole : AS := (aRet (aAndV (aUn (aIsi .int) (aVar 0)) (aAndV (aNotV (aUn (aIsi .bool) (aVar 0))) (aChain (aI0 fun i j => .bl (decide (i ≤ j))) (aI0 fun i j => .bl (decide (i ≤ j))) (aVar 1) (aVar 0) (aVar 2)))))
abbrev s__law_is_gate : Stmt := top 21
abbrev N__law_is_gate : List Str := ["_law_piece", "_law_many", "_law_word", "_law_eighths", "_law_controls", "_law_wire", "_law_one"]
def as__law_is_gate_e1 : AE := (aCall S__law_whole (aCons (aVar 6) (aCons (aC (.int 0)) (aCons (aOp (aI0 fun i j => .int (i - j)) (aVar 1) (aC (.int 1))) aNil))))
def as__law_is_gate_t1 : AS := (aRet (aAndV (aOp (aIn id) (aVar 2) (aTup (aCons (aC (.str "not")) (aCons (aC (.str "half")) aNil)))) (aCall S__law_whole (aCons (aVar 3) (aCons (aC (.int 0)) (aCons (aC (.int 0)) aNil))))))
def as__law_is_gate_t2 : AS := (aSeq (aIfS (aTst (aOp (aEqS id) (aVar 2) (aC (.str "cross")))) (aRet (aAndV (aCall S__law_whole (aCons (aVar 3) (aCons (aC (.int 0)) (aCons (aC (.int 0)) aNil)))) (aAndV (aOp (aEq id) (aCall1 aLen (aVar 4)) (aC (.int 1))) (aOp (aI0 fun i j => .bl (decide (i < j))) (aOp aIx (aVar 4) (aC (.int 0))) (aVar 5))))) aNext)
  as__law_is_gate_t1)
def as__law_is_gate_t3 : AS := (aSeq (aIfS (aTst (aOp (aEqS id) (aVar 2) (aC (.str "turn")))) (aRet (aCall S__law_whole (aCons (aVar 3) (aCons (aC (.int 1)) (aCons (aC (.int 7)) aNil))))) aNext)
  as__law_is_gate_t2)
def as__law_is_gate_t4 : AS := (aSeq (aIfS (aOr (aNot (aTst (aCall S__law_whole (aCons (aVar 5) (aCons (aC (.int 0)) (aCons (aOp (aI0 fun i j => .int (i - j)) (aVar 1) (aC (.int 1))) aNil)))))) (aTst (aOp (aIn id) (aVar 5) (aVar 4)))) (aRet (aC (.bl false))) aNext)
  as__law_is_gate_t3)
def as__law_is_gate_t5 : AS := (aSeq (aIfS (aTst (aOp (aEqS id) (aVar 2) (aC (.str "phase")))) (aRet (aAndV (aCall S__law_whole (aCons (aVar 3) (aCons (aC (.int 1)) (aCons (aC (.int 7)) aNil)))) (aAndV (aOp (aEq0 id) (aVar 4) (aTup aNil)) (aCall S__law_whole (aCons (aVar 5) (aCons (aUn aNeg (aC (.int 1))) (aCons (aUn aNeg (aC (.int 1))) aNil))))))) aNext)
  as__law_is_gate_t4)
def as__law_is_gate_t6 : AS := (aSeq (aIfS (aOr (aNot (aTst (aCall1 (aAllB (·.all id)) (aLc (aITup (aVar 4)) (agN 6) aYes as__law_is_gate_e1 [6])))) (aTst (aOp (aEq not) (aCall1 aList (aVar 4)) (aCall1 aSortSet (aVar 4))))) (aRet (aC (.bl false))) aNext)
  as__law_is_gate_t5)
def as__law_is_gate_t7 : AS := (aSeq (aUnp (aVar 0) (agT 4 (agCons (agN 2) (agCons (agN 3) (agCons (agN 4) (agCons (agN 5) agNil))))))
  (aSeq (aIfS (aOr (aNot (aTst (aUn (aIsi .tuple) (aVar 4)))) (aTst (aOp (aI0 fun i j => .bl (decide (j < i))) (aCall1 aLen (aVar 4)) (aC (.int 4))))) (aRet (aC (.bl false))) aNext)
  as__law_is_gate_t6))
def as__law_is_gate : AS := (aSeq (aIfS (aOr (aNot (aTst (aUn (aIsi .tuple) (aVar 0)))) (aOr (aTst (aOp (aEq not) (aCall1 aLen (aVar 0)) (aC (.int 4)))) (aNot (aTst (aUn (aIsi .str) (aOp aIx (aVar 0) (aC (.int 0)))))))) (aRet (aC (.bl false))) aNext)
  as__law_is_gate_t7)
abbrev s__law_is_circuit : Stmt := top 22
abbrev N__law_is_circuit : List Str := ["_law_piece", "_law_many", "_law_gates", "_law_wide", "_law_gate_here"]
def as__law_is_circuit_e1 : AE := (aCall S__law_is_gate (aCons (aVar 4) (aCons (aVar 1) aNil)))
def as__law_is_circuit_e2 : AE := (aVar 4)
def as__law_is_circuit_c1 : AT := (aOr (aTst (aOp (aEqS id) (aOp aIx (aVar 4) (aC (.int 0))) (aC (.str "cross")))) (aTst (aOp (aI0 fun i j => .bl (decide (j < i))) (aCall1 aLen (aOp aIx (aVar 4) (aC (.int 2)))) (aCall1 aInt (aOp (aEqS id) (aOp aIx (aVar 4) (aC (.int 0))) (aC (.str "not")))))))
def as__law_is_circuit_t1 : AS := (aSeq (aAsgF (aLc (aITup (aVar 2)) (agN 4) as__law_is_circuit_c1 as__law_is_circuit_e2 [4]) 3)
  (aRet (aOp (aI0 fun i j => .bl (decide (i ≤ j))) (aCall1 aLen (aVar 2)) (aIfE (aTst (aOp (aEqL0 not) (aVar 3) (aLst aNil))) (aC (.int 600)) (aC (.int 3000))))))
def as__law_is_circuit_t2 : AS := (aSeq (aUnp (aVar 0) (agT 2 (agCons (agN 1) (agCons (agN 2) agNil))))
  (aSeq (aIfS (aOr (aNot (aTst (aUn (aIsi .tuple) (aVar 2)))) (aNot (aTst (aCall1 (aAllB (·.all id)) (aLc (aITup (aVar 2)) (agN 4) aYes as__law_is_circuit_e1 [4]))))) (aRet (aC (.bl false))) aNext)
  as__law_is_circuit_t1))
def as__law_is_circuit : AS := (aSeq (aIfS (aOr (aNot (aTst (aUn (aIsi .tuple) (aVar 0)))) (aOr (aTst (aOp (aEq not) (aCall1 aLen (aVar 0)) (aC (.int 2)))) (aNot (aTst (aCall S__law_whole (aCons (aOp aIx (aVar 0) (aC (.int 0))) (aCons (aC (.int 1)) (aCons (aC (.int 8)) aNil)))))))) (aRet (aC (.bl false))) aNext)
  as__law_is_circuit_t2)
abbrev s__law_known : Stmt := top 23
abbrev N__law_known : List Str := ["_law_some", "_law_gate_here"]
def as__law_known_e1 : AE := (aTup (aCons (aC (.int 6)) (aCons (aTup (aCons (aVar 1) aNil)) aNil)))
def as__law_known : AS := (aSeq (aAsgF (aLst (aCons (aTup (aCons (aC (.str "not")) (aCons (aC (.int 0)) (aCons (aTup (aCons (aC (.int 0)) (aCons (aC (.int 1)) (aCons (aC (.int 2)) (aCons (aC (.int 3)) (aCons (aC (.int 4)) aNil)))))) (aCons (aC (.int 5)) aNil))))) (aCons (aTup (aCons (aC (.str "not")) (aCons (aC (.int 0)) (aCons (aTup (aCons (aC (.int 1)) (aCons (aC (.int 2)) (aCons (aC (.int 3)) (aCons (aC (.int 4)) aNil))))) (aCons (aC (.int 5)) aNil))))) (aCons (aTup (aCons (aC (.str "not")) (aCons (aC (.int 0)) (aCons (aTup (aCons (aC (.int 1)) (aCons (aC (.int 0)) aNil))) (aCons (aC (.int 5)) aNil))))) (aCons (aTup (aCons (aC (.str "not")) (aCons (aC (.int 0)) (aCons (aTup (aCons (aC (.int 1)) (aCons (aC (.int 1)) aNil))) (aCons (aC (.int 5)) aNil))))) aNil))))) 0)
  (aSeq (aAsgF (aOp aCat (aVar 0) (aLst (aCons (aTup (aCons (aC (.str "turn")) (aCons (aC (.int 0)) (aCons (aTup aNil) (aCons (aC (.int 0)) aNil))))) (aCons (aTup (aCons (aC (.str "turn")) (aCons (aC (.int 8)) (aCons (aTup aNil) (aCons (aC (.int 0)) aNil))))) (aCons (aTup (aCons (aC (.str "turn")) (aCons (aC (.int 7)) (aCons (aTup (aCons (aC (.int 5)) aNil)) (aCons (aC (.int 0)) aNil))))) (aCons (aTup (aCons (aC (.str "turn")) (aCons (aC (.bl true)) (aCons (aTup aNil) (aCons (aC (.int 0)) aNil))))) aNil)))))) 0)
  (aSeq (aAsgF (aOp aCat (aVar 0) (aLst (aCons (aTup (aCons (aC (.str "phase")) (aCons (aC (.int 1)) (aCons (aTup aNil) (aCons (aC (.int 0)) aNil))))) (aCons (aTup (aCons (aC (.str "phase")) (aCons (aC (.int 1)) (aCons (aTup aNil) (aCons (aUn aNeg (aC (.int 1))) aNil))))) (aCons (aTup (aCons (aC (.str "phase")) (aCons (aC (.int 0)) (aCons (aTup aNil) (aCons (aUn aNeg (aC (.int 1))) aNil))))) (aCons (aTup (aCons (aC (.str "phase")) (aCons (aC (.int 1)) (aCons (aTup (aCons (aC (.int 0)) aNil)) (aCons (aUn aNeg (aC (.int 1))) aNil))))) aNil)))))) 0)
  (aSeq (aAsgF (aOp aCat (aVar 0) (aLst (aCons (aTup (aCons (aC (.str "cross")) (aCons (aC (.int 0)) (aCons (aTup (aCons (aC (.int 0)) aNil)) (aCons (aC (.int 1)) aNil))))) (aCons (aTup (aCons (aC (.str "cross")) (aCons (aC (.int 0)) (aCons (aTup (aCons (aC (.int 1)) aNil)) (aCons (aC (.int 0)) aNil))))) (aCons (aTup (aCons (aC (.str "cross")) (aCons (aC (.int 0)) (aCons (aTup aNil) (aCons (aC (.int 1)) aNil))))) (aCons (aTup (aCons (aC (.str "cross")) (aCons (aC (.int 0)) (aCons (aTup (aCons (aC (.int 0)) (aCons (aC (.int 1)) aNil))) (aCons (aC (.int 2)) aNil))))) aNil)))))) 0)
  (aSeq (aAsgF (aOp aCat (aVar 0) (aLst (aCons (aTup (aCons (aC (.str "half")) (aCons (aC (.int 0)) (aCons (aTup (aCons (aC (.int 0)) aNil)) (aCons (aC (.int 6)) aNil))))) (aCons (aTup (aCons (aC (.str "half")) (aCons (aC (.int 0)) (aCons (aTup (aCons (aC (.int 6)) aNil)) (aCons (aC (.int 0)) aNil))))) (aCons (aTup (aCons (aC (.str "half")) (aCons (aC (.int 0)) (aCons (aTup (aCons (aC (.int 0)) aNil)) (aCons (aC (.int 0)) aNil))))) (aCons (aTup (aCons (aC (.str "not")) (aCons (aC (.int 0)) (aCons (aTup aNil) (aCons (aUn aNeg (aC (.int 1))) aNil))))) aNil)))))) 0)
  (aSeq (aAsgF (aOp aCat (aVar 0) (aLst (aCons (aTup (aCons (aC (.str "not")) (aCons (aC (.int 0)) (aCons (aTup aNil) (aCons (aC (.bl true)) aNil))))) (aCons (aTup (aCons (aC (.str "half")) (aCons (aC (.int 1)) (aCons (aTup aNil) (aCons (aC (.int 0)) aNil))))) aNil)))) 0)
  (aRet (aLc (aISeq (aVar 0)) (agN 1) aYes as__law_known_e1 [1]))))))))
abbrev s_law : Stmt := top 24
abbrev N_law : List Str := ["_law_script", "_law_plain", "_law_wide", "_law_great", "_law_piece", "_law_k", "_law_hand_here", "_law_circuit_here", "_law_things", "_law_turn", "_law_bent_here", "_law_due"]
def as_law_b1 : AS := (aIfS (aTst (aOp (aEqS not) (aCall1 aRepr (aCall S_is_circuit (aCons (aVar 4) aNil))) (aCall1 aRepr (aCall S__law_is_circuit (aCons (aVar 4) aNil))))) (aRet (aC (.bl false))) aNext)
def as_law_b2 : AS := (aSeq (aAsgF (aCall S__law_bent (aCons (aVar 6) (aCons (aVar 7) aNil))) 10)
  (aDrop (aMeth amApp (aVar 8) (aCons (aIfE (aAnd (aTst (aOp (aEq id) (aCall S__law_take (aCons (aVar 6) (aCons (aC (.int 3)) aNil))) (aC (.int 0)))) (aTst (aUn (aIsi .tuple) (aVar 10)))) (aCall S__law_bent (aCons (aVar 6) (aCons (aVar 10) aNil))) (aVar 10)) aNil))))
def as_law_b3 : AS := (aSeq (aAsgF (aCall1 aRepr (aCall S__law_is_circuit (aCons (aVar 4) aNil))) 11)
  (aIfS (aOr (aTst (aOp (aEqS not) (aCall1 aRepr (aCall S_is_circuit (aCons (aVar 4) aNil))) (aVar 11))) (aTst (aOp (aEqS not) (aCall1 aRepr (aCallP S_is_circuit 0 1 [0] aNil (aCons (aVar 4) aNil))) (aVar 11)))) (aRet (aC (.bl false))) aNext))
def as_law_t1 : AS := (aFor (aISeq (aVar 8)) (agN 4) as_law_b3)
def as_law_b4 : AS := (aSeq (aAsgF (aCall S__law_hand (aCons (aVar 0) (aCons (aVar 5) aNil))) 6)
  (aSeq (aAsgF (aCall S__law_circuit (aCons (aVar 6) (aCons (aC (.int 8)) (aCons (aC (.int 10)) aNil)))) 7)
  (aSeq (aAsg (aLst (aCons (aVar 7) (aCons (aOp aIx (aVar 7) (aC (.int 1))) (aCons (aCall1 aList (aVar 7)) (aCons (aCall S__law_odd (aCons (aVar 6) aNil)) (aCons (aOp aCatT (aTup (aCons (aOp (aI0 fun i j => .int (i - j)) (aOp aIx (aVar 7) (aC (.int 0))) (aC (.int 1))) aNil)) (aSl (aVar 7) (aOS (aC (.int 1))) aON)) aNil)))))) 8)
  (aSeq (aFor (aRng1 (aCons (aC (.int 12)) aNil)) (agN 9) as_law_b2)
  as_law_t1))))
def as_law_t2 : AS := (aRet (aC (.bl true)))
def as_law_t3 : AS := (aSeq (aFor (aRng1 (aCons (aCall2 (aI0 fun i j => .int (if j > i then j else i)) (aC (.int 1)) (aCall2 (aI0 fun i j => .int (if j < i then j else i)) (aCall1 aLen (aVar 0)) (aC (.int 4)))) aNil)) (agN 5) as_law_b4)
  as_law_t2)
def as_law : AS := (aSeq (aUnp (aTup (aCons (aTup (aCons (aC (.str "not")) (aCons (aC (.int 0)) (aCons (aTup aNil) (aCons (aC (.int 0)) aNil))))) (aCons (aTup (aCons (aC (.str "cross")) (aCons (aC (.int 0)) (aCons (aTup (aCons (aC (.int 0)) aNil)) (aCons (aC (.int 1)) aNil))))) aNil))) (agT 2 (agCons (agN 1) (agCons (agN 2) agNil))))
  (aSeq (aAsgF (aLst (aCons (aTup (aCons (aC (.int 2)) (aCons (aOp aRepT (aTup (aCons (aVar 1) aNil)) (aC (.int 3000))) aNil))) (aCons (aTup (aCons (aC (.int 2)) (aCons (aOp aRepT (aTup (aCons (aVar 1) aNil)) (aC (.int 3001))) aNil))) (aCons (aTup (aCons (aC (.int 2)) (aCons (aOp aRepT (aTup (aCons (aVar 2) aNil)) (aC (.int 600))) aNil))) (aCons (aTup (aCons (aC (.int 2)) (aCons (aOp aRepT (aTup (aCons (aVar 2) aNil)) (aC (.int 601))) aNil))) aNil))))) 3)
  (aSeq (aAsgF (aOp aCat (aVar 3) (aLst (aCons (aTup (aCons (aC (.int 2)) (aCons (aOp aCatT (aOp aRepT (aTup (aCons (aVar 1) aNil)) (aC (.int 600))) (aTup (aCons (aVar 2) aNil))) aNil))) (aCons (aTup (aCons (aC (.int 2)) (aCons (aOp aCatT (aOp aRepT (aTup (aCons (aVar 1) aNil)) (aC (.int 599))) (aTup (aCons (aVar 2) aNil))) aNil))) (aCons (aTup (aCons (aC (.int 9)) (aCons (aTup aNil) aNil))) (aCons (aTup (aCons (aC (.int 0)) (aCons (aTup aNil) aNil))) (aCons (aTup (aCons (aC (.int 8)) (aCons (aTup aNil) aNil))) (aCons (aTup (aCons (aC (.int 1)) (aCons (aTup aNil) aNil))) aNil)))))))) 3)
  (aSeq (aFor (aISeq (aOp aCat (aCall S__law_known aNil) (aVar 3))) (agN 4) as_law_b1)
  as_law_t3))))
local macro_rules | `(tactic| walk_at "gw") => `(tactic| simp (config := { dsimp := false }) only [↓e_aCatS, ↓e_aSlS, ↓e_aStr, ↓e_aEq0, ↓e_aLtT, ↓e_aSortSet, ↓e_aRepT, ↓e_aRevT, ↓e_aIB, ↓e_aStrB, ↓e_aEqL0, ↓e_aSeq, ↓e_aIsi, ↓e_kdOf, ↓isD, ↓e_aInT, ↓e_aRevL, ↓e_aMaxI, ↓e_aUnpS, ↓e_aLk, ↓e_aDNew, ↓e_aDisp, ↓e_apNil, ↓e_apCons, ↓e_aDGet, ↓e_aDGet2, ↓e_aDIn, ↓e_aDPut, ↓keyD, ↓e_dctOf, ↓e_cget, ↓e_cput, ↓e_aIItems, ↓e_aLItems, ↓e_aDictP, ↓e_aDictEnum, ↓e_aLast, ↓e_aLink, ↓e_aChainN, ↓e_agTL, ↓e_aUnp, ↓e_aVar, ↓e_aC, ↓e_aOp, ↓e_aI0, ↓e_aIC, ↓e_aEq, ↓e_aEqS, ↓e_aIn, ↓e_aIsN, ↓e_aIx, ↓e_aCat, ↓e_aRep, ↓e_aCatT, ↓e_aSl, ↓e_aON, ↓e_aOS, ↓e_aCall1, ↓e_aCall2, ↓e_aLen, ↓e_aAllB, ↓e_aTuple, ↓e_aList, ↓e_aAbs, ↓e_aInt, ↓e_aSortI, ↓e_aI3, ↓e_aCons, ↓e_aNil, ↓e_aTup, ↓e_aLst, ↓e_aTst, ↓e_aAnd, ↓e_aOr, ↓e_aNot, ↓e_aAndV, ↓e_aOrV, ↓e_aNotV, ↓e_aIfE, ↓e_aUn, ↓e_aNeg, ↓e_aChain, ↓e_aNext, ↓e_aBrk, ↓e_aCnt, ↓e_aDrop, ↓e_aRet, ↓e_aIfS, ↓e_aAsg, ↓e_aAsgF, ↓e_agN, ↓e_agNil, ↓e_agCons, ↓e_agT, ↓e_aPar, ↓e_aParO, ↓e_aSetI, ↓e_aAugI, ↓e_aAugL, ↓e_aMeth, ↓e_aMeth0, ↓e_amApp, ↓e_amExt, ↓e_amPop, ↓e_amPopAt, ↓e_amIns, ↓e_lget, ↓e_lput, ↓e_frz, ↓e_sqOf, ↓sqD, ↓Sq.ds, ↓e_dOf, ↓e_aCall, ↓e_aCallP, ↓e_aPar3, ↓e_aAugC, ↓e_aAugX, ↓e_aIzip, ↓e_aIrev, ↓e_aIenum, ↓permL, ↓e_aISeq, ↓e_aITup, ↓e_aRng1, ↓e_aRng2, ↓e_aFor, ↓e_aLc, ↓e_aYes, ↓e_aSh, ↓e_aShV, ↓e_aRepr, ↓wipeS, ↓ends_d, ↓ends_t, ↓ends_n, ↓id, size_val, Nat.zero_le, List.set_cons_zero, List.set_cons_succ, List.getElem?_cons_zero, List.getElem?_cons_succ, List.length_cons, List.length_nil, Option.isSome_some, not_true_eq_false, not_false_eq_true, true_and, and_true, ite_true, ite_false, Bool.false_eq_true, if_true, if_false, Bool.not_true, Bool.not_false, lk_self, lk_ne, at0, at1, at2, at3, at4, ix0, ix1, ix2, sx0, List.map_cons, List.map_nil, List.filterMap_cons, List.filterMap_nil, List.cons_append, List.nil_append, cmp_int, cmp_nil_l, cmp_nil_t, eqD_int, eqD_l00, eqD_l10, eqD_t00, eqD_t10])
local macro_rules | `(tactic| walk_at "gs") => `(tactic| simp (config := { dsimp := false }) only [↓e_aCatS, ↓e_aSlS, ↓e_aStr, ↓e_aEq0, ↓e_aLtT, ↓e_aSortSet, ↓e_aRepT, ↓e_aRevT, ↓e_aIB, ↓e_aStrB, ↓e_aEqL0, ↓e_aSeq, ↓e_aIsi, ↓e_kdOf, ↓isD, ↓e_aInT, ↓e_aRevL, ↓e_aMaxI, ↓e_aUnpS, ↓e_aLk, ↓e_aDNew, ↓e_aDisp, ↓e_apNil, ↓e_apCons, ↓e_aDGet, ↓e_aDGet2, ↓e_aDIn, ↓e_aDPut, ↓keyD, ↓e_dctOf, ↓e_cget, ↓e_cput, ↓e_aIItems, ↓e_aLItems, ↓e_aDictP, ↓e_aDictEnum, ↓e_aLast, ↓e_aLink, ↓e_aChainN, ↓e_agTL, ↓e_aUnp, ↓e_aVar, ↓e_aC, ↓e_aOp, ↓e_aI0, ↓e_aIC, ↓e_aEq, ↓e_aEqS, ↓e_aIn, ↓e_aIsN, ↓e_aIx, ↓e_aCat, ↓e_aRep, ↓e_aCatT, ↓e_aSl, ↓e_aON, ↓e_aOS, ↓e_aCall1, ↓e_aCall2, ↓e_aLen, ↓e_aAllB, ↓e_aTuple, ↓e_aList, ↓e_aAbs, ↓e_aInt, ↓e_aSortI, ↓e_aI3, ↓e_aCons, ↓e_aNil, ↓e_aTup, ↓e_aLst, ↓e_aTst, ↓e_aAnd, ↓e_aOr, ↓e_aNot, ↓e_aAndV, ↓e_aOrV, ↓e_aNotV, ↓e_aIfE, ↓e_aUn, ↓e_aNeg, ↓e_aChain, ↓e_aNext, ↓e_aBrk, ↓e_aCnt, ↓e_aDrop, ↓e_aRet, ↓e_aIfS, ↓e_aAsg, ↓e_aAsgF, ↓e_agN, ↓e_agNil, ↓e_agCons, ↓e_agT, ↓e_aPar, ↓e_aParO, ↓e_aSetI, ↓e_aAugI, ↓e_aAugL, ↓e_aMeth, ↓e_aMeth0, ↓e_amApp, ↓e_amExt, ↓e_amPop, ↓e_amPopAt, ↓e_amIns, ↓e_lget, ↓e_lput, ↓e_frz, ↓e_sqOf, ↓sqD, ↓Sq.ds, ↓e_dOf, ↓e_aCall, ↓e_aCallP, ↓e_aPar3, ↓e_aAugC, ↓e_aAugX, ↓e_aIzip, ↓e_aIrev, ↓e_aIenum, ↓permL, ↓e_aISeq, ↓e_aITup, ↓e_aRng1, ↓e_aRng2, ↓e_aFor, ↓e_aLc, ↓e_aYes, ↓e_aSh, ↓e_aShV, ↓e_aRepr, ↓wipeS, ↓ends_d, ↓ends_t, ↓ends_n, ↓id, size_val, Nat.zero_le, List.set_cons_zero, List.set_cons_succ, List.getElem?_cons_zero, List.getElem?_cons_succ, List.length_cons, List.length_nil, Option.isSome_some, not_true_eq_false, not_false_eq_true, true_and, and_true, ite_true, ite_false, Bool.false_eq_true, if_true, if_false, Bool.not_true, Bool.not_false, lk_self, lk_ne, at0, at1, at2, at3, at4, ix0, ix1, ix2, sx0, List.map_cons, List.map_nil, List.filterMap_cons, List.filterMap_nil, List.cons_append, List.nil_append, cmp_int, cmp_nil_l, cmp_nil_t, eqD_int, eqD_l00, eqD_l10, eqD_t00, eqD_t10, Nat.zero_add, Nat.reduceAdd, Nat.reduceSub, Nat.reduceLeDiff, Nat.reduceLT, List.take_succ_cons, List.take_zero, List.drop_succ_cons, List.drop_zero])
local macro_rules | `(tactic| walk_at "gq") => `(tactic| simp (config := { dsimp := false }) only [↓e_aCatS, ↓e_aSlS, ↓e_aStr, ↓e_aEq0, ↓e_aLtT, ↓e_aSortSet, ↓e_aRepT, ↓e_aRevT, ↓e_aIB, ↓e_aStrB, ↓e_aEqL0, ↓e_aSeq, ↓e_aRevL, ↓e_aMaxI, ↓e_aUnpS, ↓e_aLk, ↓e_aDNew, ↓e_aDisp, ↓e_apNil, ↓e_apCons, ↓e_aDGet, ↓e_aDGet2, ↓e_aDIn, ↓e_aDPut, ↓keyD, ↓e_dctOf, ↓e_cget, ↓e_cput, ↓e_aIItems, ↓e_aLItems, ↓e_aDictP, ↓e_aDictEnum, ↓e_aLast, ↓e_aLink, ↓e_aChainN, ↓e_agTL, ↓e_aUnp, ↓e_aVar, ↓e_aC, ↓e_aOp, ↓e_aI0, ↓e_aIC, ↓e_aEqS, ↓e_aIn, ↓e_aIsN, ↓e_aIx, ↓e_aCat, ↓e_aRep, ↓e_aCatT, ↓e_aSl, ↓e_aON, ↓e_aOS, ↓e_aCall1, ↓e_aCall2, ↓e_aLen, ↓e_aAllB, ↓e_aTuple, ↓e_aList, ↓e_aAbs, ↓e_aInt, ↓e_aSortI, ↓e_aI3, ↓e_aCons, ↓e_aNil, ↓e_aTup, ↓e_aLst, ↓e_aTst, ↓e_aAnd, ↓e_aOr, ↓e_aNot, ↓e_aAndV, ↓e_aOrV, ↓e_aNotV, ↓e_aIfE, ↓e_aUn, ↓e_aNeg, ↓e_aChain, ↓e_aNext, ↓e_aBrk, ↓e_aCnt, ↓e_aDrop, ↓e_aRet, ↓e_aIfS, ↓e_aAsg, ↓e_aAsgF, ↓e_agN, ↓e_agNil, ↓e_agCons, ↓e_agT, ↓e_aPar, ↓e_aParO, ↓e_aSetI, ↓e_aAugI, ↓e_aAugL, ↓e_aMeth, ↓e_aMeth0, ↓e_amApp, ↓e_amExt, ↓e_amPop, ↓e_amPopAt, ↓e_amIns, ↓e_lget, ↓e_lput, ↓e_frz, ↓e_sqOf, ↓sqD, ↓Sq.ds, ↓e_aCall, ↓e_aCallP, ↓e_aPar3, ↓e_aAugC, ↓e_aAugX, ↓e_aIzip, ↓e_aIrev, ↓e_aIenum, ↓permL, ↓e_aISeq, ↓e_aITup, ↓e_aRng1, ↓e_aRng2, ↓e_aFor, ↓e_aLc, ↓e_aYes, ↓e_aSh, ↓e_aShV, ↓wipeS, ↓ends_d, ↓ends_t, ↓ends_n, ↓id, size_val, Nat.zero_le, List.set_cons_zero, List.set_cons_succ, List.getElem?_cons_zero, List.getElem?_cons_succ, List.length_cons, List.length_nil, Option.isSome_some, not_true_eq_false, not_false_eq_true, true_and, and_true, ite_true, ite_false, Bool.false_eq_true, if_true, if_false, Bool.not_true, Bool.not_false, lk_self, lk_ne, at0, at1, at2, at3, at4, ix0, ix1, ix2, sx0, List.map_cons, List.map_nil, List.filterMap_cons, List.filterMap_nil, List.cons_append, List.nil_append, ↓aEq_w, ↓aInT_w, ↓aRepr_w, ↓aReprX_w, ↓aSortD_w, ↓aIsi_w, ↓hold_ii, ↓hold_bb, decide_true, decide_false, Nat.zero_add, Nat.reduceAdd, Nat.reduceSub, Nat.reduceLeDiff, Nat.reduceLT, List.take_succ_cons, List.take_zero, List.drop_succ_cons, List.drop_zero])
local macro_rules | `(tactic| walk_at "gwx") => `(tactic| simp (config := { dsimp := false }) only [*, ↓e_aCatS, ↓e_aSlS, ↓e_aStr, ↓e_aEq0, ↓e_aLtT, ↓e_aSortSet, ↓e_aRepT, ↓e_aRevT, ↓e_aIB, ↓e_aStrB, ↓e_aEqL0, ↓e_aSeq, ↓e_aIsi, ↓e_kdOf, ↓isD, ↓e_aInT, ↓e_aRevL, ↓e_aMaxI, ↓e_aUnpS, ↓e_aLk, ↓e_aDNew, ↓e_aDisp, ↓e_apNil, ↓e_apCons, ↓e_aDGet, ↓e_aDGet2, ↓e_aDIn, ↓e_aDPut, ↓keyD, ↓e_dctOf, ↓e_cget, ↓e_cput, ↓e_aIItems, ↓e_aLItems, ↓e_aDictP, ↓e_aDictEnum, ↓e_aLast, ↓e_aLink, ↓e_aChainN, ↓e_agTL, ↓e_aUnp, ↓e_aVar, ↓e_aC, ↓e_aOp, ↓e_aI0, ↓e_aIC, ↓e_aEq, ↓e_aEqS, ↓e_aIn, ↓e_aIsN, ↓e_aIx, ↓e_aCat, ↓e_aRep, ↓e_aCatT, ↓e_aSl, ↓e_aON, ↓e_aOS, ↓e_aCall1, ↓e_aCall2, ↓e_aLen, ↓e_aAllB, ↓e_aTuple, ↓e_aList, ↓e_aAbs, ↓e_aInt, ↓e_aSortI, ↓e_aI3, ↓e_aCons, ↓e_aNil, ↓e_aTup, ↓e_aLst, ↓e_aTst, ↓e_aAnd, ↓e_aOr, ↓e_aNot, ↓e_aAndV, ↓e_aOrV, ↓e_aNotV, ↓e_aIfE, ↓e_aUn, ↓e_aNeg, ↓e_aChain, ↓e_aNext, ↓e_aBrk, ↓e_aCnt, ↓e_aDrop, ↓e_aRet, ↓e_aIfS, ↓e_aAsg, ↓e_aAsgF, ↓e_agN, ↓e_agNil, ↓e_agCons, ↓e_agT, ↓e_aPar, ↓e_aParO, ↓e_aSetI, ↓e_aAugI, ↓e_aAugL, ↓e_aMeth, ↓e_aMeth0, ↓e_amApp, ↓e_amExt, ↓e_amPop, ↓e_amPopAt, ↓e_amIns, ↓e_lget, ↓e_lput, ↓e_frz, ↓e_sqOf, ↓sqD, ↓Sq.ds, ↓e_dOf, ↓e_aCall, ↓e_aCallP, ↓e_aPar3, ↓e_aAugC, ↓e_aAugX, ↓e_aIzip, ↓e_aIrev, ↓e_aIenum, ↓permL, ↓e_aISeq, ↓e_aITup, ↓e_aRng1, ↓e_aRng2, ↓e_aFor, ↓e_aLc, ↓e_aYes, ↓e_aSh, ↓e_aShV, ↓e_aRepr, ↓wipeS, ↓ends_d, ↓ends_t, ↓ends_n, ↓id, size_val, Nat.zero_le, List.set_cons_zero, List.set_cons_succ, List.getElem?_cons_zero, List.getElem?_cons_succ, List.length_cons, List.length_nil, Option.isSome_some, not_true_eq_false, not_false_eq_true, true_and, and_true, ite_true, ite_false, Bool.false_eq_true, if_true, if_false, Bool.not_true, Bool.not_false, lk_self, lk_ne, at0, at1, at2, at3, at4, ix0, ix1, ix2, sx0, List.map_cons, List.map_nil, List.filterMap_cons, List.filterMap_nil, List.cons_append, List.nil_append, cmp_int, cmp_nil_l, cmp_nil_t, eqD_int, eqD_l00, eqD_l10, eqD_t00, eqD_t10])
local macro_rules | `(tactic| walk_at "gsx") => `(tactic| simp (config := { dsimp := false }) only [*, ↓e_aCatS, ↓e_aSlS, ↓e_aStr, ↓e_aEq0, ↓e_aLtT, ↓e_aSortSet, ↓e_aRepT, ↓e_aRevT, ↓e_aIB, ↓e_aStrB, ↓e_aEqL0, ↓e_aSeq, ↓e_aIsi, ↓e_kdOf, ↓isD, ↓e_aInT, ↓e_aRevL, ↓e_aMaxI, ↓e_aUnpS, ↓e_aLk, ↓e_aDNew, ↓e_aDisp, ↓e_apNil, ↓e_apCons, ↓e_aDGet, ↓e_aDGet2, ↓e_aDIn, ↓e_aDPut, ↓keyD, ↓e_dctOf, ↓e_cget, ↓e_cput, ↓e_aIItems, ↓e_aLItems, ↓e_aDictP, ↓e_aDictEnum, ↓e_aLast, ↓e_aLink, ↓e_aChainN, ↓e_agTL, ↓e_aUnp, ↓e_aVar, ↓e_aC, ↓e_aOp, ↓e_aI0, ↓e_aIC, ↓e_aEq, ↓e_aEqS, ↓e_aIn, ↓e_aIsN, ↓e_aIx, ↓e_aCat, ↓e_aRep, ↓e_aCatT, ↓e_aSl, ↓e_aON, ↓e_aOS, ↓e_aCall1, ↓e_aCall2, ↓e_aLen, ↓e_aAllB, ↓e_aTuple, ↓e_aList, ↓e_aAbs, ↓e_aInt, ↓e_aSortI, ↓e_aI3, ↓e_aCons, ↓e_aNil, ↓e_aTup, ↓e_aLst, ↓e_aTst, ↓e_aAnd, ↓e_aOr, ↓e_aNot, ↓e_aAndV, ↓e_aOrV, ↓e_aNotV, ↓e_aIfE, ↓e_aUn, ↓e_aNeg, ↓e_aChain, ↓e_aNext, ↓e_aBrk, ↓e_aCnt, ↓e_aDrop, ↓e_aRet, ↓e_aIfS, ↓e_aAsg, ↓e_aAsgF, ↓e_agN, ↓e_agNil, ↓e_agCons, ↓e_agT, ↓e_aPar, ↓e_aParO, ↓e_aSetI, ↓e_aAugI, ↓e_aAugL, ↓e_aMeth, ↓e_aMeth0, ↓e_amApp, ↓e_amExt, ↓e_amPop, ↓e_amPopAt, ↓e_amIns, ↓e_lget, ↓e_lput, ↓e_frz, ↓e_sqOf, ↓sqD, ↓Sq.ds, ↓e_dOf, ↓e_aCall, ↓e_aCallP, ↓e_aPar3, ↓e_aAugC, ↓e_aAugX, ↓e_aIzip, ↓e_aIrev, ↓e_aIenum, ↓permL, ↓e_aISeq, ↓e_aITup, ↓e_aRng1, ↓e_aRng2, ↓e_aFor, ↓e_aLc, ↓e_aYes, ↓e_aSh, ↓e_aShV, ↓e_aRepr, ↓wipeS, ↓ends_d, ↓ends_t, ↓ends_n, ↓id, size_val, Nat.zero_le, List.set_cons_zero, List.set_cons_succ, List.getElem?_cons_zero, List.getElem?_cons_succ, List.length_cons, List.length_nil, Option.isSome_some, not_true_eq_false, not_false_eq_true, true_and, and_true, ite_true, ite_false, Bool.false_eq_true, if_true, if_false, Bool.not_true, Bool.not_false, lk_self, lk_ne, at0, at1, at2, at3, at4, ix0, ix1, ix2, sx0, List.map_cons, List.map_nil, List.filterMap_cons, List.filterMap_nil, List.cons_append, List.nil_append, cmp_int, cmp_nil_l, cmp_nil_t, eqD_int, eqD_l00, eqD_l10, eqD_t00, eqD_t10, Nat.zero_add, Nat.reduceAdd, Nat.reduceSub, Nat.reduceLeDiff, Nat.reduceLT, List.take_succ_cons, List.take_zero, List.drop_succ_cons, List.drop_zero])
local macro_rules | `(tactic| walk_at "sz") => `(tactic| simp only [Nat.zero_add, Nat.reduceAdd, Nat.reduceLT, Nat.reduceLeDiff, List.length_append, List.length_cons, List.length_nil, true_and, and_true])
/-! ### the drawer: hand, take, pick -/
theorem pw10 : (10 : Int) ^ Int.toNat 40 = 10 ^ 40 := rfl
theorem div_w {i j : Int} (h0 : 0 < j) (h1 : j < 2 ^ 900) : CDivW i j := ⟨h0, by
  have : j.natAbs < 2 ^ 900 := by omega
  have h2 : j.natAbs.log2 < 900 := (Nat.log2_lt (by omega)).mpr this
  omega⟩
theorem mul_w {i j : Int} (h0 : i.natAbs < 2 ^ 2000) (h1 : j.natAbs < 2 ^ 2000) : CM i j := .inr (by
  unfold CMulW
  have l : ∀ n : Nat, n < 2 ^ 2000 → n.log2 < 2000 := fun n h => by
    by_cases e : n = 0
    · subst e; decide
    · exact (Nat.log2_lt e).mpr h
  have := l _ h0
  have := l _ h1
  omega)
theorem rd__law_take : ∀ ds M Q, S__law_take ds M Q → as__law_take (endsOf Q) (slots N__law_take.length ds) M := by
  rintro ds M Q ⟨a, g, s, M0, m, rfl, rfl, ha, hs, m0, m1, h⟩
  show as__law_take (endsOf Q) [.dat _, .dat _, .non] _
  have hm : m ≠ 0 := by omega
  have dv : ∀ i, CDivW i m := fun i => div_w m0 (by omega)
  have put : ∀ c c' : Cell, mput ((a, c) :: M0) a c' = (a, c') :: M0 := fun c c' => mput_self ha
  unfold as__law_take
  unfold HM at h ⊢
  by_cases hg : 0 < g
  · walk_at "gwx"
    simp only [decide_true, if_true]
    refine ⟨hm, ?_⟩
    exact h _ _ _ (fmod_lo m0) (fmod_hi m0) ⟨hs.s0, hs.s1⟩
  · walk_at "gwx"
    simp only [decide_false, Bool.false_eq_true, if_false]
    unfold as__law_take_t1
    walk_at "gwx"
    have q0 := fmod_lo (a := s * 1181783497276652981 + 12345678910987) (b := 2305843009213693951) (by decide)
    have q1 := fmod_hi (a := s * 1181783497276652981 + 12345678910987) (b := 2305843009213693951) (by decide)
    have r0 := fmod_lo (a := (s * 1181783497276652981 + 12345678910987).fmod 2305843009213693951) (b := 65537) (by decide)
    have r1 := fmod_hi (a := (s * 1181783497276652981 + 12345678910987).fmod 2305843009213693951) (b := 65537) (by decide)
    refine ⟨mul_r (by decide) (by decide), by decide, div_ok (by decide) (by decide), by decide, mul_r (by omega) (by omega), by decide, div_ok (by decide) (by decide), hm, ?_⟩
    exact h _ _ _ (fmod_lo m0) (fmod_hi m0) ⟨q0, q1⟩
theorem rd__law_pick : ∀ ds M Q, S__law_pick ds M Q → as__law_pick (endsOf Q) (slots N__law_pick.length ds) M := by
  rintro ds M Q ⟨a, g, s, M0, xs, rfl, rfl, ha, hs, x0, x1, h⟩
  show as__law_pick (endsOf Q) [.dat _, .dat _] _
  unfold as__law_pick
  walk_at "gw"
  refine ⟨a, g, s, M0, _, rfl, rfl, ha, hs, by omega, by omega, ?_⟩
  intro d g' s' d0 d1 hs'
  obtain ⟨x, e1, e2⟩ := atI_in (xs := xs) d0 d1
  walk_at "gwx"
  exact h x g' s' (List.mem_of_getElem? e2) hs'
theorem rd__law_hand : ∀ ds M Q, S__law_hand ds M Q → as__law_hand (endsOf Q) (slots N__law_hand.length ds) M := by
  rintro ds M Q ⟨ns, k, rfl, k0, k1, h⟩
  show as__law_hand (endsOf Q) [.dat _, .dat _, .non, .non] _
  have rest : ∀ c : Int, as__law_hand_t1 (endsOf Q) [.dat (.scr (ns.map .int)), .dat (.int k), .dat (.int c), .non] M := by
    intro c
    unfold as__law_hand_t1
    walk_at "gw"
    refine ⟨by unfold CPowW; decide, by unfold CPowW; decide, by decide, by unfold CPowW; decide, mul_r (by (repeat' split) <;> omega) (by (repeat' split) <;> omega), by decide, mul_l (by decide) (by decide), mul_r (by omega) (by omega), mul_r (by decide) (by decide), by decide, by decide, fun p hp => ?_⟩
    exact h _ _ _ hp ⟨fmod_lo (by decide), fmod_hi (by decide)⟩
  unfold as__law_hand
  walk_at "gw"
  refine ⟨mul_l (by decide) (by decide), ?_⟩
  by_cases hk : k < ((ns.map D.int).length : Int)
  · obtain ⟨d, e1, e2⟩ := atI_in (xs := ns.map D.int) k0 hk
    rw [List.getElem?_map, Option.map_eq_some_iff] at e2
    obtain ⟨c, _, rfl⟩ := e2
    simp only [hk, decide_true, if_true, e1]
    exact rest c
  · simp only [hk, decide_false, Bool.false_eq_true, if_false]
    exact rest _


/-! ### facts about things -/
theorem tb_nr {m : Nat} {d : D} (h : tb m d = true) : NoRef d := by
  cases d with
  | ref a => simp [tb] at h
  | exc _ _ _ => simp [tb] at h
  | _ => trivial
theorem tbL_iff {m : Nat} : ∀ {ds : List D}, tbL m ds = true ↔ ∀ d ∈ ds, tb m d = true
  | [] => by simp [tbL]
  | d :: ds => by rw [tbL, Bool.and_eq_true, tbL_iff]; simp
theorem tb_tup {m : Nat} {ds : List D} : tb m (.tup ds) = true ↔ ds.length ≤ 4000 + m ∧ ∀ d ∈ ds, tb m d = true := by rw [tb, Bool.and_eq_true, decide_eq_true_iff, tbL_iff]
theorem tb_lst {m : Nat} {ds : List D} : tb m (.lst ds) = true ↔ ds.length ≤ 4000 + m ∧ ∀ d ∈ ds, tb m d = true := by rw [tb, Bool.and_eq_true, decide_eq_true_iff, tbL_iff]
mutual
theorem tb_up {m n : Nat} (hmn : m ≤ n) : ∀ (d : D), tb m d = true → tb n d = true
  | .int i, h => by simp only [tb, decide_eq_true_eq] at *; omega
  | .str x, h => by simp only [tb, decide_eq_true_eq] at *; omega
  | .tup ds, h => by simp only [tb, Bool.and_eq_true, decide_eq_true_eq] at *; exact ⟨by omega, tbL_up hmn ds h.2⟩
  | .lst ds, h => by simp only [tb, Bool.and_eq_true, decide_eq_true_eq] at *; exact ⟨by omega, tbL_up hmn ds h.2⟩
  | .dct _ _, _ => rfl
  | .non, _ => rfl
  | .bl _, _ => rfl
  | .scr _, h => by simp [tb] at h
  | .ref _, h => by simp [tb] at h
  | .exc _ _ _, h => by simp [tb] at h
theorem tbL_up {m n : Nat} (hmn : m ≤ n) : ∀ (ds : List D), tbL m ds = true → tbL n ds = true
  | [], _ => rfl
  | d :: ds, h => by
    simp only [tbL, Bool.and_eq_true] at *
    exact ⟨tb_up hmn d h.1, tbL_up hmn ds h.2⟩
end
theorem tdepL_le {k : Nat} : ∀ {ds : List D}, (∀ d ∈ ds, tdep d ≤ k) → tdepL ds ≤ k
  | [], _ => Nat.zero_le _
  | d :: ds, h => by
    rw [tdepL]
    have a := h d List.mem_cons_self
    have b := tdepL_le fun e he => h e (List.mem_cons_of_mem _ he)
    omega
theorem tdepL_mem : ∀ {ds : List D} {d : D}, d ∈ ds → tdep d ≤ tdepL ds
  | e :: ds, d, h => by
    rw [tdepL]
    rcases List.mem_cons.mp h with rfl | h
    · omega
    · have := tdepL_mem h; omega
theorem within_int {d : D} {lo hi : Int} (h : within d lo hi = true) : ∃ i, d = .int i ∧ lo ≤ i ∧ i ≤ hi := by
  cases d with
  | int i => simp only [within, Bool.and_eq_true, decide_eq_true_eq] at h; exact ⟨i, rfl, h⟩
  | _ => simp [within] at h
theorem all_ints {es : List D} {lo hi : Int} (h : es.all (within · lo hi) = true) : es = (es.map toI).map .int := by
  rw [List.map_map]
  conv => lhs; rw [← List.map_id es]
  apply List.map_congr_left
  intro d hd
  obtain ⟨i, rfl, _⟩ := within_int (List.all_eq_true.mp h d hd)
  rfl
theorem toI_map (ns : List Int) : (ns.map D.int).map toI = ns := by
  rw [List.map_map]
  conv => rhs; rw [← List.map_id ns]
  rfl
theorem areC_ints {c : D} {n : Int} (h : areC c n = true) : ∃ ns : List Int, c = .tup (ns.map .int) ∧ nums c = ns ∧ ns.length ≤ 4 := by
  cases c with
  | tup es =>
    simp only [areC, Bool.and_eq_true, decide_eq_true_eq] at h
    exact ⟨es.map toI, by rw [← all_ints h.1.2], rfl, by rw [List.length_map]; exact h.1.1⟩
  | _ => simp [areC] at h
/-! ### the program's own tests -/
theorem rd_is_within : ∀ ds M Q, S_is_within ds M Q → as_is_within (endsOf Q) (slots N_is_within.length ds) M := by
  rintro ds M Q ⟨d, lo, hi, rfl, nr, h⟩
  show as_is_within (endsOf Q) [.dat _, .dat _, .dat _] _
  unfold as_is_within
  cases d with
  | ref a => exact nr.elim
  | exc _ _ _ => exact nr.elim
  | int i =>
    simp only [within] at h
    walk_at "gw"
    by_cases c : lo ≤ i
    · simp only [c, decide_true, if_true]; simpa [c] using h
    · simp only [c, decide_false, Bool.false_eq_true, if_false]; simpa [c] using h
  | _ => walk_at "gw"; exact h
theorem rd__law_whole : ∀ ds M Q, S__law_whole ds M Q → as__law_whole (endsOf Q) (slots N__law_whole.length ds) M := rd_is_within
theorem zip_rising : ∀ ns : List Int, (zipD (ns.map D.int) ((ns.map D.int).drop 1)).all (fun d => match d with | .tup [.int a, .int b] => decide (a < b) | _ => false) = rising ns
  | [] => rfl
  | [_] => rfl
  | a :: b :: r => by
    have := zip_rising (b :: r)
    simp only [List.map_cons, List.drop_succ_cons, List.drop_zero, zipD, List.zipWith_cons_cons, List.all_cons] at this ⊢
    rw [rising, ← this]
theorem cut1 (ds : List D) : cutD ds (some 1) none = ds.drop 1 := by
  unfold cutD
  simp only [HT.sIx]
  cases ds with
  | nil => rfl
  | cons d r => simp
theorem rd_are_controls : ∀ ds M Q, S_are_controls ds M Q → as_are_controls (endsOf Q) (slots N_are_controls.length ds) M := by
  rintro ds M Q ⟨d, n, rfl, ht, h⟩
  show as_are_controls (endsOf Q) [.dat _, .dat _, .non, .non, .non] _
  unfold as_are_controls
  cases d with
  | ref a => simp [tb] at ht
  | exc _ _ _ => simp [tb] at ht
  | tup es =>
    obtain ⟨hl, he⟩ := tb_tup.mp ht
    walk_at "gw"
    by_cases h4 : (4 : Int) < es.length
    · simp only [h4, decide_true, if_true]
      have e : areC (.tup es) n = false := by simp only [areC]; rw [decide_eq_false (by omega)]; rfl
      rw [e] at h; exact h
    · simp only [h4, decide_false, Bool.false_eq_true, if_false]
      unfold as_are_controls_t2
      walk_at "gw"
      refine lcMap (fun d => .bl (within d 0 (n - 1))) es [] (by simp; omega) (fun d hd P hP => ?_) ?_
      · unfold as_are_controls_e1
        walk_at "gw"
        refine ⟨d, 0, n - 1, rfl, tb_nr (he d hd), ?_⟩
        walk_at "gw"
        exact hP
      · refine all_fun ?_
        cases hw : es.all (within · 0 (n - 1)) with
        | false =>
          have e : areC (.tup es) n = false := by simp only [areC, hw, Bool.and_false, Bool.false_and]
          rw [e] at h
          walk_at "gw"; exact h
        | true =>
          have e : areC (.tup es) n = rising (es.map toI) := by simp only [areC, hw, Bool.and_true]; rw [decide_eq_true (by omega)]; rfl
          rw [e] at h
          generalize hns : es.map toI = ns at h
          have e2 : es = ns.map .int := by rw [← hns]; exact all_ints hw
          subst e2
          unfold as_are_controls_t1
          walk_at "gw"
          rw [cut1]
          refine lcMap (fun d => .bl (match d with | .tup [.int a, .int b] => decide (a < b) | _ => false)) _ [] (by simp only [List.length_map] at h4; simp [zipD]; omega) (fun d hd P hP => ?_) ?_
          · obtain ⟨j, hj⟩ := List.mem_iff_getElem?.mp hd
            obtain ⟨x, y, h1, h2, rfl⟩ := zipD_get hj
            rw [List.getElem?_map, Option.map_eq_some_iff] at h1
            rw [List.getElem?_drop, List.getElem?_map, Option.map_eq_some_iff] at h2
            obtain ⟨x, _, rfl⟩ := h1
            obtain ⟨y, _, rfl⟩ := h2
            unfold as_are_controls_e2
            walk_at "gw"
            exact hP
          · refine all_fun ?_
            rw [zip_rising]
            exact h
  | _ => walk_at "gw"; exact h
theorem isG_tup {d : D} {n : Int} (h : isG d n = true) : ∃ w e c t, d = .tup [.str w, e, c, t] ∧ areC c n = true := by
  unfold isG at h
  split at h
  · rename_i w e c t
    simp only [Bool.and_eq_true] at h
    exact ⟨w, e, c, t, rfl, h.1.2⟩
  · cases h
theorem isG_len {es : List D} {n : Int} (h : es.length ≠ 4) : isG (.tup es) n = false := by
  match es, h with
  | [], _ => rfl
  | [_], _ => simp [isG]
  | [_, _], _ => simp [isG]
  | [_, _, _], _ => simp [isG]
  | [_, _, _, _], h => exact absurd rfl h
  | _ :: _ :: _ :: _ :: _ :: _, _ => simp [isG]
theorem isG_str {d0 d1 d2 d3 : D} {n : Int} (h : isD .str d0 = false) : isG (.tup [d0, d1, d2, d3]) n = false := by
  cases d0 with
  | str w => simp [isD] at h
  | _ => simp [isG]
theorem flat_ints (ns : List Int) : (ns.map D.int).all flatD = true := by simp [flatD]
theorem in_ints (i : Int) (ns : List Int) : inD (.int i) (ns.map .int) = decide (i ∈ ns) := by
  rw [Bool.eq_iff_iff, decide_eq_true_iff]
  simp [inD, eqD_int]
theorem eqD_str (a b : Str) : eqD (.str a) (.str b) = decide (a = b) := by
  simp [eqD, toPy, PyData.eqv, Bool.beq_eq_decide_eq]
theorem in_s2 (w a b : Str) : inD (.str w) [.str a, .str b] = decide (w = a ∨ w = b) := by
  rw [Bool.eq_iff_iff, decide_eq_true_iff, eq_comm (a := w), eq_comm (a := w)]
  simp only [inD, List.any_cons, List.any_nil, Bool.or_false, Bool.or_eq_true, eqD_str, decide_eq_true_iff]
theorem in_s3 (w a b c : Str) : inD (.str w) [.str a, .str b, .str c] = decide (w = a ∨ w = b ∨ w = c) := by
  rw [Bool.eq_iff_iff, decide_eq_true_iff, eq_comm (a := w), eq_comm (a := w), eq_comm (a := w)]
  simp only [inD, List.any_cons, List.any_nil, Bool.or_false, Bool.or_eq_true, eqD_str, decide_eq_true_iff]
theorem fl_s (w : Str) : flatD (.str w) = true := rfl
theorem fl_s2 (a b : Str) : [D.str a, D.str b].all flatD = true := rfl
theorem fl_s3 (a b c : Str) : [D.str a, D.str b, D.str c].all flatD = true := rfl
/-- what follows the eighths -/
def isG2 (w : Str) (c t : D) (n : Int) : Bool := areC c n &&
    (if w = "phase" then decide (nums c = []) && within t (-1) (-1) else within t 0 (n - 1) && !decide (toI t ∈ nums c) &&
      (if w = "cross" then decide ((nums c).length = 1) && decide ((nums c).headD 0 < toI t) else decide (w = "not" ∨ w = "half" ∨ w = "turn")))
theorem isG_eq (w : Str) (e c t : D) (n : Int) : isG (.tup [.str w, e, c, t]) n = (within e (if w = "turn" ∨ w = "phase" then 1 else 0) (if w = "turn" ∨ w = "phase" then 7 else 0) && isG2 w c t n) := by
  unfold isG isG2
  dsimp only
  rw [Bool.and_assoc]
theorem bl_rw {Q : Ret → Mem → Prop} {M : Mem} {a b : Bool} (h : Q (.dat (.bl a)) M) (e : a = b) : Q (.dat (.bl b)) M := e ▸ h
theorem len0_ints (ns : List Int) : ((ns.map D.int).length == 0) = decide (ns = []) := by cases ns <;> simp
theorem g_t5 {Q : Ret → Mem → Prop} {M : Mem} {n : Int} {w : Str} {e c t : D} {s0 s6 s7 : Slot} (tc : tb 100 c = true) (nt : NoRef t) (h : Q (.dat (.bl (isG2 w c t n))) M) :
    as_is_gate_t5 (endsOf Q) [s0, .dat (.int n), .dat (.str w), .dat e, .dat c, .dat t, s6, s7] M := by
  unfold as_is_gate_t5
  walk_at "gw"
  refine ⟨c, n, rfl, tc, ?_⟩
  walk_at "gw"
  cases hc : areC c n with
  | false =>
    simp only [isG2, hc, Bool.false_and] at h
    simpa only [Bool.not_false, if_true] using h
  | true =>
    simp only [isG2, hc, Bool.true_and] at h
    simp only [Bool.not_true, Bool.false_eq_true, if_false]
    obtain ⟨ns, rfl, e1, l4⟩ := areC_ints hc
    rw [e1] at h
    unfold as_is_gate_t4
    walk_at "gw"
    by_cases hw : w = "phase"
    · simp only [hw, decide_true, if_true] at h ⊢
      rw [len0_ints]
      by_cases hn : ns = []
      · simp only [hn, decide_true, if_true, Bool.true_and] at h ⊢
        refine ⟨t, -1, -1, rfl, nt, ?_⟩
        walk_at "gw"
        exact h
      · simp only [hn, decide_false, Bool.false_eq_true, if_false, Bool.false_and] at h ⊢
        exact h
    · simp only [hw, decide_false, Bool.false_eq_true, if_false] at h ⊢
      unfold as_is_gate_t3
      walk_at "gw"
      refine ⟨t, 0, n - 1, rfl, nt, ?_⟩
      walk_at "gw"
      cases hi : within t 0 (n - 1) with
      | false =>
        simp only [hi, Bool.false_and] at h
        simpa only [Bool.not_false, if_true] using h
      | true =>
        simp only [hi, Bool.true_and] at h
        obtain ⟨i, rfl, i0, i1⟩ := within_int hi
        simp only [toI] at h
        simp only [Bool.not_true, Bool.false_eq_true, if_false]
        refine ⟨rfl, flat_ints ns, ?_⟩
        rw [in_ints]
        by_cases hm : i ∈ ns
        · simp only [hm, decide_true, Bool.not_true, Bool.false_and] at h
          simp only [hm, decide_true, if_true]
          exact h
        · simp only [hm, decide_false, Bool.not_false, Bool.true_and] at h
          simp only [hm, decide_false, Bool.false_eq_true, if_false]
          unfold as_is_gate_t2
          walk_at "gw"
          by_cases hx : w = "cross"
          · simp only [hx, decide_true, if_true] at h ⊢
            cases ns with
            | nil => simpa using h
            | cons a r => cases r with
              | nil => walk_at "gw"; simpa using h
              | cons b r =>
                have e1 : decide ((b :: a :: r).length = 1) = false := by simp
                have e2 : decide (((List.map D.int (a :: b :: r)).length : Int) = 1) = false := by simp; omega
                simp only [List.length_cons] at e1
                simp only [e2, List.length_cons, e1, Bool.false_and, Bool.false_eq_true, if_false] at h ⊢
                exact h
          · simp only [hx, decide_false, Bool.false_eq_true, if_false] at h ⊢
            unfold as_is_gate_t1
            walk_at "gw"
            refine ⟨by decide, rfl, rfl, ?_⟩
            rw [in_s3]
            exact h
theorem rd_is_gate : ∀ ds M Q, S_is_gate ds M Q → as_is_gate (endsOf Q) (slots N_is_gate.length ds) M := by
  rintro ds M Q ⟨d, n, rfl, ht, h⟩
  show as_is_gate (endsOf Q) [.dat _, .dat _, .non, .non, .non, .non, .non, .non] _
  unfold as_is_gate
  cases d with
  | ref a => simp [tb] at ht
  | exc _ _ _ => simp [tb] at ht
  | tup es =>
    obtain ⟨hl, he⟩ := tb_tup.mp ht
    walk_at "gw"
    by_cases h4 : es.length = 4
    · have h4' : (es.length : Int) = 4 := by omega
      simp only [h4', decide_true, Bool.not_true, Bool.false_eq_true, if_false]
      match es, h4 with
      | [d0, e, c, t], _ =>
      have n0 := tb_nr (he d0 (by simp))
      have ne := tb_nr (he e (by simp))
      have nt := tb_nr (he t (by simp))
      have tc := he c (by simp)
      cases d0 with
      | ref a => exact n0.elim
      | exc _ _ _ => exact n0.elim
      | str w =>
        rw [isG_eq] at h
        walk_at "gw"
        unfold as_is_gate_t6
        walk_at "gw"
        refine ⟨by decide, rfl, rfl, ?_⟩
        rw [in_s2]
        by_cases hw : w = "turn" ∨ w = "phase"
        · simp only [hw, decide_true, if_true] at h ⊢
          refine ⟨by decide, e, 1, 7, rfl, ne, ?_⟩
          walk_at "gw"
          cases hi : within e 1 7 with
          | false => simpa only [hi, Bool.not_false, if_true, Bool.false_and] using h
          | true =>
            simp only [hi, Bool.not_true, Bool.false_eq_true, if_false, Bool.true_and] at h ⊢
            exact g_t5 tc nt h
        · simp only [hw, decide_false, Bool.false_eq_true, if_false] at h ⊢
          refine ⟨by decide, e, 0, 0, rfl, ne, ?_⟩
          walk_at "gw"
          cases hi : within e 0 0 with
          | false => simpa only [hi, Bool.not_false, if_true, Bool.false_and] using h
          | true =>
            simp only [hi, Bool.not_true, Bool.false_eq_true, if_false, Bool.true_and] at h ⊢
            exact g_t5 tc nt h
      | _ => walk_at "gw"; exact h
    · have h4' : ¬ (es.length : Int) = 4 := by omega
      simp only [h4', decide_false, Bool.not_false, if_true]
      rw [isG_len h4] at h; exact h
  | _ => walk_at "gw"; exact h
theorem rd_is_narrow_gate : ∀ ds M Q, S_is_narrow_gate ds M Q → as_is_narrow_gate (endsOf Q) (slots N_is_narrow_gate.length ds) M := by
  rintro ds M Q ⟨d, n, rfl, hg, h⟩
  show as_is_narrow_gate (endsOf Q) [.dat _, .non, .non, .non, .non] _
  obtain ⟨w, e, c, t, rfl, hc⟩ := isG_tup hg
  obtain ⟨ns, rfl, e1, l4⟩ := areC_ints hc
  simp only [isNar, e1] at h
  unfold as_is_narrow_gate
  walk_at "gw"
  by_cases hx : w = "cross"
  · simp only [hx, decide_true, Bool.not_true, Bool.false_eq_true, if_false, Bool.false_and] at h ⊢
    exact h
  · simp only [hx, decide_false, Bool.not_false, if_true, Bool.true_and] at h ⊢
    by_cases hn : w = "not"
    · simp only [hn, decide_true, if_true] at h ⊢
      have z : ((ns.length : Int) ≤ 1) ↔ ns.length ≤ 1 := by omega
      simpa [z] using h
    · simp only [hn, decide_false, if_false] at h ⊢
      simpa using h
theorem isC_len {es : List D} (h : es.length ≠ 2) : isC (.tup es) = false := by
  match es, h with
  | [], _ => rfl
  | [_], _ => simp [isC]
  | [_, _], h => exact absurd rfl h
  | _ :: _ :: _ :: _, _ => simp [isC]
theorem isC_ntup {n g : D} (h : isD .tuple g = false) : isC (.tup [n, g]) = false := by
  cases g with
  | tup _ => simp [isD] at h
  | _ => simp [isC]
theorem rd_is_circuit : ∀ ds M Q, S_is_circuit ds M Q → as_is_circuit (endsOf Q) (slots N_is_circuit.length ds) M := by
  rintro ds M Q ⟨d, rfl, ht, h⟩
  show as_is_circuit (endsOf Q) [.dat _, .non, .non, .non] _
  unfold as_is_circuit
  cases d with
  | ref a => simp [tb] at ht
  | exc _ _ _ => simp [tb] at ht
  | tup es =>
    obtain ⟨hl, he⟩ := tb_tup.mp ht
    walk_at "gw"
    by_cases h2 : es.length = 2
    · have h2' : (es.length : Int) = 2 := by omega
      simp only [h2', decide_true, Bool.not_true, Bool.false_eq_true, if_false]
      match es, h2 with
      | [n, g], _ =>
      have nn := tb_nr (he n (by simp))
      have ng := tb_nr (he g (by simp))
      have tg := he g (by simp)
      unfold as_is_circuit_t3
      walk_at "gw"
      refine ⟨n, 1, 8, rfl, nn, ?_⟩
      cases hi : within n 1 8 with
      | false =>
        have e : isC (.tup [n, g]) = false := by cases g <;> simp [isC, hi]
        rw [e] at h
        walk_at "gw"
        exact h
      | true =>
        obtain ⟨i, rfl, i0, i1⟩ := within_int hi
        cases g with
        | ref a => exact ng.elim
        | exc _ _ _ => exact ng.elim
        | tup gs =>
          obtain ⟨gl, hg⟩ := tb_tup.mp tg
          simp only [isC, hi, Bool.true_and, toI] at h
          walk_at "gw"
          by_cases h3 : (3000 : Int) < gs.length
          · simp only [h3, decide_true, if_true]
            rw [decide_eq_false (by omega : ¬ gs.length ≤ 3000)] at h
            simpa using h
          · simp only [h3, decide_false, Bool.false_eq_true, if_false]
            rw [decide_eq_true (by omega : gs.length ≤ 3000), Bool.true_and] at h
            unfold as_is_circuit_t2
            walk_at "gw"
            refine lcMap (fun d => .bl (isG d i)) gs [] (by simp; omega) (fun d hd P hP => ?_) ?_
            · unfold as_is_circuit_e1
              walk_at "gw"
              refine ⟨d, i, rfl, hg d hd, ?_⟩
              walk_at "gw"
              exact hP
            · refine all_fun ?_
              cases hw : gs.all (isG · i) with
              | false =>
                rw [hw, Bool.false_and] at h
                walk_at "gw"; exact h
              | true =>
                rw [hw, Bool.true_and] at h
                unfold as_is_circuit_t1
                walk_at "gw"
                by_cases h6 : (gs.length : Int) ≤ 600
                · simp only [h6, decide_true, if_true]
                  rw [decide_eq_true (by omega : gs.length ≤ 600), Bool.true_or] at h
                  exact h
                · simp only [h6, decide_false, Bool.false_eq_true, if_false]
                  rw [decide_eq_false (by omega : ¬ gs.length ≤ 600), Bool.false_or] at h
                  refine lcMap (fun d => .bl (isNar d)) gs [] (by simp; omega) (fun d hd P hP => ?_) ?_
                  · unfold as_is_circuit_e2
                    walk_at "gw"
                    refine ⟨d, i, rfl, List.all_eq_true.mp hw d hd, ?_⟩
                    walk_at "gw"
                    exact hP
                  · refine all_fun ?_
                    exact h
        | _ => walk_at "gw"; exact h
    · have h2' : ¬ (es.length : Int) = 2 := by omega
      simp only [h2', decide_false, Bool.not_false, if_true]
      rw [isC_len h2] at h; exact h
  | _ => walk_at "gw"; exact h
/-! ### the law's tests -/
theorem rising_iff : ∀ ns : List Int, rising ns = true ↔ ns.Pairwise (· < ·)
  | [] => by simp [rising]
  | [_] => by simp [rising]
  | a :: b :: r => by
    rw [rising, Bool.and_eq_true, decide_eq_true_iff, rising_iff (b :: r), List.pairwise_cons (a := a)]
    constructor
    · rintro ⟨h, p⟩
      refine ⟨fun x hx => ?_, p⟩
      rcases List.mem_cons.mp hx with rfl | hx
      · exact h
      · exact Int.lt_trans h ((List.pairwise_cons.mp p).1 x hx)
    · rintro ⟨h, p⟩
      exact ⟨h b List.mem_cons_self, p⟩
theorem inc_eq : ∀ {as bs : List Int}, as.Pairwise (· < ·) → bs.Pairwise (· < ·) → (∀ k, k ∈ as ↔ k ∈ bs) → as = bs
  | [], [], _, _, _ => rfl
  | [], b :: bs, _, _, h => absurd ((h b).mpr List.mem_cons_self) (by simp)
  | a :: as, [], _, _, h => absurd ((h a).mp List.mem_cons_self) (by simp)
  | a :: as, b :: bs, pa, pb, h => by
    rw [List.pairwise_cons] at pa pb
    have e : a = b := by
      rcases List.mem_cons.mp ((h a).mp List.mem_cons_self) with e | m
      · exact e
      · rcases List.mem_cons.mp ((h b).mpr List.mem_cons_self) with e | m'
        · exact e.symm
        · have := pb.1 a m; have := pa.1 b m'; omega
    subst e
    congr 1
    refine inc_eq pa.2 pb.2 fun k => ?_
    constructor
    · intro hk
      rcases List.mem_cons.mp ((h k).mp (List.mem_cons_of_mem _ hk)) with e | m
      · have := pa.1 k hk; omega
      · exact m
    · intro hk
      rcases List.mem_cons.mp ((h k).mpr (List.mem_cons_of_mem _ hk)) with e | m
      · have := pb.1 k hk; omega
      · exact m
theorem sorted_is {ns ms : List Int} (p : ms.Pairwise (· < ·)) (h : ∀ k, k ∈ ms ↔ k ∈ ns) : decide (ns = ms) = rising ns := by
  rw [Bool.eq_iff_iff, decide_eq_true_iff, rising_iff]
  constructor
  · intro e; rw [e]; exact p
  · intro q; exact inc_eq q p fun k => (h k).symm
theorem lg_t5 {Q : Ret → Mem → Prop} {M : Mem} {n : Int} {w : Str} {e t : D} {ns : List Int} {s0 s6 : Slot} (ne : NoRef e) (nt : NoRef t)
    (h : Q (.dat (.bl (within e (if w = "turn" ∨ w = "phase" then 1 else 0) (if w = "turn" ∨ w = "phase" then 7 else 0) && (if w = "phase" then decide (ns = []) && within t (-1) (-1) else within t 0 (n - 1) && !decide (toI t ∈ ns) &&
      (if w = "cross" then decide (ns.length = 1) && decide (ns.headD 0 < toI t) else decide (w = "not" ∨ w = "half" ∨ w = "turn")))))) M) :
    as__law_is_gate_t5 (endsOf Q) [s0, .dat (.int n), .dat (.str w), .dat e, .dat (.tup (ns.map .int)), .dat t, s6] M := by
  unfold as__law_is_gate_t5
  walk_at "gw"
  by_cases hw : w = "phase"
  · subst hw
    rw [if_pos (.inr rfl), if_pos (.inr rfl), if_pos rfl] at h
    simp only [decide_true, if_true]
    refine ⟨e, 1, 7, rfl, ne, ?_⟩
    walk_at "gw"
    cases hi : within e 1 7 with
    | false => rw [hi, Bool.false_and] at h; simpa using h
    | true =>
      rw [hi, Bool.true_and] at h
      simp only [if_true]
      rw [len0_ints]
      by_cases hn : ns = []
      · simp only [hn, decide_true, if_true, Bool.true_and] at h ⊢
        refine ⟨t, -1, -1, rfl, nt, ?_⟩
        walk_at "gw"
        exact h
      · simp only [hn, decide_false, Bool.false_eq_true, if_false, Bool.false_and] at h ⊢
        exact h
  · rw [if_neg hw] at h
    simp only [hw, decide_false, Bool.false_eq_true, if_false, or_false] at h ⊢
    unfold as__law_is_gate_t4
    walk_at "gw"
    refine ⟨t, 0, n - 1, rfl, nt, ?_⟩
    walk_at "gw"
    cases hi : within t 0 (n - 1) with
    | false =>
      rw [hi, Bool.false_and, Bool.false_and, Bool.and_false] at h
      simpa using h
    | true =>
      rw [hi, Bool.true_and] at h
      obtain ⟨i, rfl, i0, i1⟩ := within_int hi
      simp only [toI] at h
      simp only [Bool.not_true, Bool.false_eq_true, if_false]
      refine ⟨rfl, flat_ints ns, ?_⟩
      rw [in_ints]
      by_cases hm : i ∈ ns
      · simp only [hm, decide_true, Bool.not_true, Bool.false_and, Bool.and_false] at h
        simp only [hm, decide_true, if_true]
        exact h
      · simp only [hm, decide_false, Bool.not_false, Bool.true_and] at h
        simp only [hm, decide_false, Bool.false_eq_true, if_false]
        unfold as__law_is_gate_t3
        walk_at "gw"
        by_cases ht : w = "turn"
        · subst ht
          simp only [decide_true, if_true]
          refine ⟨e, 1, 7, rfl, ne, ?_⟩
          walk_at "gw"
          refine bl_rw h ?_
          rw [if_pos rfl, if_pos rfl, if_neg (by decide), decide_eq_true (by simp), Bool.and_true]
        · simp only [ht, decide_false, Bool.false_eq_true, if_false, or_false] at h ⊢
          unfold as__law_is_gate_t2
          walk_at "gw"
          by_cases hx : w = "cross"
          · simp only [hx, decide_true, if_true] at h ⊢
            refine ⟨e, 0, 0, rfl, ne, ?_⟩
            walk_at "gw"
            cases he : within e 0 0 with
            | false => rw [he, Bool.false_and] at h; simpa using h
            | true =>
              rw [he, Bool.true_and] at h
              simp only [if_true]
              cases ns with
              | nil => simpa using h
              | cons a r => cases r with
                | nil => walk_at "gw"; simpa using h
                | cons b r =>
                  have e1 : decide ((b :: a :: r).length = 1) = false := by simp
                  have e2 : decide (((List.map D.int (a :: b :: r)).length : Int) = 1) = false := by simp; omega
                  simp only [List.length_cons] at e1
                  simp only [e2, List.length_cons, e1, Bool.false_and, Bool.false_eq_true, if_false] at h ⊢
                  exact h
          · simp only [hx, decide_false, Bool.false_eq_true, if_false] at h ⊢
            unfold as__law_is_gate_t1
            walk_at "gw"
            refine ⟨by decide, rfl, rfl, ?_⟩
            rw [in_s2]
            by_cases hn : w = "not" ∨ w = "half"
            · simp only [hn, decide_true, if_true] at h ⊢
              refine ⟨e, 0, 0, rfl, ne, ?_⟩
              walk_at "gw"
              simpa using h
            · simp only [hn, decide_false, Bool.false_eq_true, if_false] at h ⊢
              simpa using h
theorem rd__law_is_gate : ∀ ds M Q, S__law_is_gate ds M Q → as__law_is_gate (endsOf Q) (slots N__law_is_gate.length ds) M := by
  rintro ds M Q ⟨d, n, rfl, ht, h⟩
  show as__law_is_gate (endsOf Q) [.dat _, .dat _, .non, .non, .non, .non, .non] _
  unfold as__law_is_gate
  cases d with
  | ref a => simp [tb] at ht
  | exc _ _ _ => simp [tb] at ht
  | tup es =>
    obtain ⟨hl, he⟩ := tb_tup.mp ht
    walk_at "gw"
    by_cases h4 : es.length = 4
    · have h4' : (es.length : Int) = 4 := by omega
      simp only [h4', decide_true, Bool.not_true, Bool.false_eq_true, if_false]
      match es, h4 with
      | [d0, e, c, t], _ =>
      have n0 := tb_nr (he d0 (by simp))
      have ne := tb_nr (he e (by simp))
      have nt := tb_nr (he t (by simp))
      have tc := he c (by simp)
      have nc := tb_nr tc
      cases d0 with
      | ref a => exact n0.elim
      | exc _ _ _ => exact n0.elim
      | str w =>
        walk_at "gw"
        unfold as__law_is_gate_t7
        cases c with
        | ref a => exact nc.elim
        | exc _ _ _ => exact nc.elim
        | tup cs =>
          obtain ⟨cl, hcs⟩ := tb_tup.mp tc
          walk_at "gw"
          rw [isG_eq] at h
          unfold isG2 areC at h
          by_cases h5 : (4 : Int) < cs.length
          · simp only [h5, decide_true, if_true]
            simp only [decide_eq_false (by omega : ¬ cs.length ≤ 4), Bool.false_and, Bool.and_false] at h
            exact h
          · simp only [h5, decide_false, Bool.false_eq_true, if_false]
            simp only [decide_eq_true (by omega : cs.length ≤ 4), Bool.true_and] at h
            unfold as__law_is_gate_t6
            walk_at "gw"
            refine lcMap (fun d => .bl (within d 0 (n - 1))) cs [] (by simp; omega) (fun d hd P hP => ?_) ?_
            · unfold as__law_is_gate_e1
              walk_at "gw"
              refine ⟨d, 0, n - 1, rfl, tb_nr (hcs d hd), ?_⟩
              walk_at "gw"
              exact hP
            · refine all_fun ?_
              cases hw : cs.all (within · 0 (n - 1)) with
              | false =>
                simp only [hw, Bool.false_and, Bool.and_false] at h
                walk_at "gw"; exact h
              | true =>
                simp only [hw, Bool.true_and, nums] at h
                obtain ⟨ns, rfl⟩ : ∃ ns : List Int, cs = ns.map .int := ⟨_, all_ints hw⟩
                simp only [toI_map] at h
                walk_at "gw"
                rw [intsD_map]
                refine ⟨by simp at h5; omega, fun ms hs hm => ?_⟩
                refine ⟨cmp_ints_l _, cmp_ints_l _, ?_⟩
                rw [eqD_ints_l, sorted_is hs hm]
                cases hr : rising ns with
                | false => simp only [hr, Bool.false_and, Bool.and_false] at h; simpa using h
                | true =>
                  simp only [hr, Bool.true_and] at h
                  simp only [Bool.not_true, Bool.false_eq_true, if_false]
                  exact lg_t5 ne nt h
        | _ => walk_at "gw"; simpa [isG, areC] using h
      | _ => walk_at "gw"; exact h
    · have h4' : ¬ (es.length : Int) = 4 := by omega
      simp only [h4', decide_false, Bool.not_false, if_true]
      rw [isG_len h4] at h; exact h
  | _ => walk_at "gw"; exact h
theorem isG_wide {d : D} {n : Int} (h : isG d n = true) : ∃ (w : Str) (e : D) (ns : List Int) (t : D), d = .tup [.str w, e, .tup (ns.map .int), t] ∧ isNar d = (!decide (w = "cross") && decide (ns.length ≤ (if w = "not" then 1 else 0))) := by
  obtain ⟨w, e, c, t, rfl, hc⟩ := isG_tup h
  obtain ⟨ns, rfl, e1, _⟩ := areC_ints hc
  exact ⟨w, e, ns, t, rfl, by simp only [isNar, e1]⟩
theorem filt_nil {α : Type} {p : α → Bool} {xs : List α} : ((xs.filter fun x => !p x).length == 0) = xs.all p := by
  rw [Bool.eq_iff_iff]
  simp
theorem rd__law_is_circuit : ∀ ds M Q, S__law_is_circuit ds M Q → as__law_is_circuit (endsOf Q) (slots N__law_is_circuit.length ds) M := by
  rintro ds M Q ⟨d, rfl, ht, h⟩
  show as__law_is_circuit (endsOf Q) [.dat _, .non, .non, .non, .non] _
  unfold as__law_is_circuit
  cases d with
  | ref a => simp [tb] at ht
  | exc _ _ _ => simp [tb] at ht
  | tup es =>
    obtain ⟨hl, he⟩ := tb_tup.mp ht
    walk_at "gw"
    by_cases h2 : es.length = 2
    · have h2' : (es.length : Int) = 2 := by omega
      simp only [h2', decide_true, Bool.not_true, Bool.false_eq_true, if_false]
      match es, h2 with
      | [n, g], _ =>
      have nn := tb_nr (he n (by simp))
      have ng := tb_nr (he g (by simp))
      have tg := he g (by simp)
      walk_at "gw"
      refine ⟨n, 1, 8, rfl, nn, ?_⟩
      cases hi : within n 1 8 with
      | false =>
        have e : isC (.tup [n, g]) = false := by cases g <;> simp [isC, hi]
        rw [e] at h
        walk_at "gw"
        exact h
      | true =>
        obtain ⟨i, rfl, i0, i1⟩ := within_int hi
        walk_at "gw"
        unfold as__law_is_circuit_t2
        cases g with
        | ref a => exact ng.elim
        | exc _ _ _ => exact ng.elim
        | tup gs =>
          obtain ⟨gl, hg⟩ := tb_tup.mp tg
          simp only [isC, hi, Bool.true_and, toI] at h
          walk_at "gw"
          refine lcMap (fun d => .bl (isG d i)) gs [] (by simp; omega) (fun d hd P hP => ?_) ?_
          · unfold as__law_is_circuit_e1
            walk_at "gw"
            refine ⟨d, i, rfl, hg d hd, ?_⟩
            walk_at "gw"
            exact hP
          · refine all_fun ?_
            cases hw : gs.all (isG · i) with
            | false =>
              rw [hw, Bool.and_false, Bool.false_and] at h
              walk_at "gw"; exact h
            | true =>
              rw [hw, Bool.and_true] at h
              unfold as__law_is_circuit_t1
              walk_at "gw"
              refine lcFilt (fun d => !isNar d) id gs [] (by simp; omega) (fun d hd P N hP hN => ?_) ?_
              · obtain ⟨w, e, ns, t, rfl, hn⟩ := isG_wide (List.all_eq_true.mp hw d hd)
                rw [hn] at hP hN
                unfold as__law_is_circuit_c1 as__law_is_circuit_e2
                walk_at "gw"
                by_cases hx : w = "cross"
                · subst hx
                  simp only [decide_true, if_true]
                  exact hP (by simp)
                · simp only [hx, decide_false, Bool.false_eq_true, if_false, Bool.not_false, Bool.true_and] at hP hN ⊢
                  by_cases hno : w = "not"
                  · simp only [hno, decide_true, if_true] at hP hN ⊢
                    by_cases hl : ns.length ≤ 1
                    · have : ¬ (1 : Int) < ((ns.map D.int).length : Int) := by simp; omega
                      simp only [this, decide_false, Bool.false_eq_true, if_false]
                      exact hN (by simp [hl])
                    · have : (1 : Int) < ((ns.map D.int).length : Int) := by simp; omega
                      simp only [this, decide_true, if_true]
                      exact hP (by simp [hl])
                  · simp only [hno, decide_false, Bool.false_eq_true, if_false] at hP hN ⊢
                    by_cases hl : ns.length ≤ 0
                    · have : ¬ (0 : Int) < ((ns.map D.int).length : Int) := by rw [List.length_map]; omega
                      simp only [this, decide_false, Bool.false_eq_true, if_false]
                      exact hN (by simp [hl])
                    · have : (0 : Int) < ((ns.map D.int).length : Int) := by rw [List.length_map]; omega
                      simp only [this, decide_true, if_true]
                      exact hP (by simp [hl])
              · walk_at "gw"
                rw [List.map_id, filt_nil]
                cases hn : gs.all isNar with
                | true =>
                  simp only [Bool.not_true, Bool.false_eq_true, if_false]
                  refine bl_rw h ?_
                  rw [hn, Bool.or_true, Bool.and_true]; exact decide_eq_decide.mpr (by show _ ↔ (gs.length : Int) ≤ 3000; omega)
                | false =>
                  simp only [Bool.not_false, if_true]
                  refine bl_rw h ?_
                  rw [hn, Bool.or_false, ← Bool.decide_and]; exact decide_eq_decide.mpr (by show _ ↔ (gs.length : Int) ≤ 600; omega)
        | _ => walk_at "gw"; exact h
    · have h2' : ¬ (es.length : Int) = 2 := by omega
      simp only [h2', decide_false, Bool.not_false, if_true]
      rw [isC_len h2] at h; exact h
  | _ => walk_at "gw"; exact h
/-! ### the drawer -/
theorem tb_int {m : Nat} {i : Int} (h0 : -1000 ≤ i) (h1 : i ≤ 1000) : tb m (.int i) = true := by
  simp only [tb, decide_eq_true_eq]; omega
theorem tb_ints {m : Nat} {ns : List Int} (hl : ns.length ≤ 1000) (hn : ∀ z ∈ ns, -1000 ≤ z ∧ z ≤ 1000) : tb m (.tup (ns.map .int)) = true := by
  refine tb_tup.mpr ⟨by rw [List.length_map]; omega, fun d hd => ?_⟩
  obtain ⟨z, hz, rfl⟩ := List.mem_map.mp hd
  exact tb_int (hn z hz).1 (hn z hz).2
theorem tdepL_ints (ns : List Int) : tdepL (ns.map .int) = 0 := Nat.le_zero.mp (tdepL_le fun d hd => by
  obtain ⟨z, hz, rfl⟩ := List.mem_map.mp hd
  exact Nat.le_refl 0)
theorem gate_ok {w : Str} {e t : Int} {ns : List Int} (hw : w.length ≤ 10) (e0 : 0 ≤ e) (e1 : e ≤ 8) (hl : ns.length ≤ 10) (hn : ∀ z ∈ ns, 0 ≤ z ∧ z ≤ 8) (t0 : -1 ≤ t) (t1 : t ≤ 8) :
    tb 0 (.tup [.str w, .int e, .tup (ns.map .int), .int t]) = true ∧ tdep (.tup [.str w, .int e, .tup (ns.map .int), .int t]) ≤ 2 := by
  refine ⟨tb_tup.mpr ⟨by simp, fun d hd => ?_⟩, ?_⟩
  · simp only [List.mem_cons, List.not_mem_nil, or_false] at hd
    rcases hd with rfl | rfl | rfl | rfl
    · simp only [tb, decide_eq_true_eq]; omega
    · exact tb_int (by omega) (by omega)
    · exact tb_ints (by omega) fun z hz => ⟨by have := (hn z hz).1; omega, by have := (hn z hz).2; omega⟩
    · exact tb_int (by omega) (by omega)
  · simp [tdep, tdepL, tdepL_ints]
theorem len_not : ("not" : Str).length ≤ 10 := by decide
theorem rd__law_gate : ∀ ds M Q, S__law_gate ds M Q → as__law_gate (endsOf Q) (slots N__law_gate.length ds) M := by
  rintro ds M Q ⟨a, g, s, M0, n, rfl, rfl, ha, hs, n0, n1, h⟩
  show as__law_gate (endsOf Q) [.dat _, .dat _, .non, .non, .non, .non, .non, .non, .non, .non, .non] _
  have fin : ∀ (w : Str) (e : Int) (ns : List Int) (t : Int) g' s', w.length ≤ 10 → 0 ≤ e → e ≤ 8 → ns.length ≤ 10 → (∀ z ∈ ns, 0 ≤ z ∧ z ≤ 8) → -1 ≤ t → t ≤ 8 → HOk g' s' → Q (.dat (.tup [.str w, .int e, .tup (ns.map .int), .int t])) (HM a g' s' M0) :=
    fun w e ns t g' s' hw e0 e1 hl hn t0 t1 ho => h _ g' s' (gate_ok hw e0 e1 hl hn t0 t1).1 (gate_ok hw e0 e1 hl hn t0 t1).2 ho
  unfold as__law_gate
  walk_at "gw"
  refine ⟨by decide, a, g, s, M0, _, rfl, rfl, ha, hs, by decide, by decide, ?_⟩
  intro d g1 s1 hd o1
  obtain ⟨w, rfl, hw⟩ : ∃ w : Str, d = .str w ∧ w.length ≤ 10 := by
    simp only [List.mem_cons, List.not_mem_nil, or_false] at hd
    rcases hd with rfl | rfl | rfl | rfl | rfl | rfl | rfl | rfl <;> exact ⟨_, rfl, by decide⟩
  clear hd
  walk_at "gw"
  refine ⟨a, g1, s1, M0, n, rfl, rfl, ha, o1, by omega, by omega, ?_⟩
  intro t g2 s2 t0 t1 o2
  walk_at "gw"
  refine ⟨a, g2, s2, M0, 7, rfl, rfl, ha, o2, by decide, by decide, ?_⟩
  intro e g3 s3 e0 e1 o3
  walk_at "gw"
  refine ⟨by decide, ⟨by omega, by omega⟩, ?_⟩
  refine lcR (fun i k acc Γ M' => ∃ os : List Int, acc = os.map .int ∧ os.length + k ≤ 8 ∧ 0 ≤ i ∧ i + k ≤ 8 ∧ (∀ z ∈ os, 0 ≤ z ∧ z ≤ 8) ∧ M' = HM a g3 s3 M0 ∧ Γ = [.dat (.ref a), .dat (.int n), .dat (.str w), .dat (.int t), .dat (.int (1 + e)), .non, .non, .non, .non, .non, .non]) ?_ ?_ _ _ ⟨[], rfl, by simp; omega, by decide, by omega, by simp, rfl, rfl⟩
  · rintro i acc Γ M' ⟨os, rfl, ol, -, -, ho, rfl, rfl⟩
    walk_at "gw"
    by_cases hp : w = "phase"
    · simp only [hp, decide_true, if_true]
      exact ⟨by decide, fin _ _ [] _ _ _ (by decide) (by omega) (by omega) (by simp) (by simp) (by decide) (by decide) o3⟩
    · simp only [hp, decide_false, Bool.false_eq_true, if_false]
      unfold as__law_gate_t4
      walk_at "gw"
      by_cases hx : w = "cross"
      · simp only [hx, decide_true, if_true]
        rw [len0_ints]
        by_cases hn : os = []
        · simp only [hn, decide_true, if_true]
          exact ⟨by decide, fin _ _ [] _ _ _ (by decide) (by decide) (by decide) (by simp) (by simp) (by omega) (by omega) o3⟩
        · simp only [hn, decide_false, Bool.false_eq_true, if_false]
          unfold as__law_gate_t1
          walk_at "gw"
          have lp : 0 < os.length := List.length_pos_iff.mpr hn
          refine ⟨a, g3, s3, M0, _, rfl, rfl, ha, o3, by rw [List.length_map]; omega, by rw [List.length_map]; omega, ?_⟩
          intro d g4 s4 hd o4
          obtain ⟨z, hz, rfl⟩ := List.mem_map.mp hd
          obtain ⟨x, y, exy⟩ : ∃ x y, isort [t, z] = [x, y] := by
            have hl := (isort_perm [t, z]).length_eq
            match isort [t, z], hl with
            | [x, y], _ => exact ⟨x, y, rfl⟩
          have mx : x ∈ [t, z] := (isort_perm [t, z]).mem_iff.mp (by rw [exy]; simp)
          have my : y ∈ [t, z] := (isort_perm [t, z]).mem_iff.mp (by rw [exy]; simp)
          have bz := ho z hz
          have bx : 0 ≤ x ∧ x ≤ 8 := by simp at mx; rcases mx with rfl | rfl <;> omega
          have bY : 0 ≤ y ∧ y ≤ 8 := by simp at my; rcases my with rfl | rfl <;> omega
          walk_at "gw"
          simp only [intsOf, Option.map_some, exy]
          walk_at "gw"
          refine ⟨by decide, by decide, by decide, fin _ _ [x] _ _ _ (by decide) (by decide) (by decide) (by simp) (by simpa using bx) (by omega) (by omega) o4⟩
      · simp only [hx, decide_false, Bool.false_eq_true, if_false]
        unfold as__law_gate_t3
        walk_at "gw"
        refine ⟨by decide, a, g3, s3, M0, _, rfl, rfl, ha, o3, by decide, by decide, ?_⟩
        intro d g4 s4 hd o4
        obtain ⟨z, rfl, z0, z1⟩ : ∃ z : Int, d = .int z ∧ 0 ≤ z ∧ z ≤ 4 := by
          simp only [List.mem_cons, List.not_mem_nil, or_false] at hd
          rcases hd with rfl | rfl | rfl | rfl | rfl | rfl | rfl <;> exact ⟨_, rfl, by decide, by decide⟩
        clear hd
        walk_at "gw"
        have hz : 0 ≤ (if z < 4 then z else 4) ∧ (if z < 4 then z else 4) ≤ 4 := by split <;> omega
        refine ⟨⟨by omega, by omega⟩, ?_⟩
        refine forR (fun i k Γ M' => ∃ (cs : List Int) (g' s' : Int) (s8 s9 : Slot), cs.length + k ≤ 4 ∧ (∀ z ∈ cs, 0 ≤ z ∧ z ≤ 8) ∧ HOk g' s' ∧ M' = HM a g' s' M0 ∧ Γ = [.dat (.ref a), .dat (.int n), .dat (.str w), .dat (.int t), .dat (.int (1 + e)), .dat (.lst (os.map .int)), .non, .own (.lst (cs.map .int)), s8, s9, .non]) ?_ ?_ _
          ⟨[], g4, s4, _, _, by simp; omega, by simp, o4, rfl, rfl⟩
        · rintro i Γ M' ⟨cs, g', s', s8, s9, cl, hc, o', rfl, rfl⟩
          unfold as__law_gate_t2
          walk_at "gw"
          rw [intsOf_map]
          have hm : ∀ z ∈ isort cs, 0 ≤ z ∧ z ≤ 8 := fun z hz => hc z ((isort_perm cs).mem_iff.mp hz)
          have hL : (isort cs).length ≤ 10 := by rw [(isort_perm cs).length_eq]; omega
          by_cases ht : w = "turn"
          · simp only [ht, decide_true, if_true]
            exact ⟨by decide, fin _ _ (isort cs) _ _ _ (by decide) (by omega) (by omega) hL hm (by omega) (by omega) o'⟩
          · simp only [ht, decide_false, Bool.false_eq_true, if_false]
            exact ⟨by decide, fin _ _ (isort cs) _ _ _ hw (by omega) (by omega) hL hm (by omega) (by omega) o'⟩
        · rintro i k Γ M' K ⟨cs, g', s', s8, s9, cl, hc, o', rfl, rfl⟩ hK
          unfold as__law_gate_b1
          walk_at "gw"
          refine lcFilt (fun d => !inD d (cs.map .int)) id (os.map .int) [] (by simp; omega) (fun d hd P N hP hN => ?_) ?_
          · obtain ⟨z, hz, rfl⟩ := List.mem_map.mp hd
            unfold as__law_gate_c2 as__law_gate_e2
            walk_at "gw"
            refine ⟨rfl, flat_ints cs, ?_⟩
            cases hi : inD (.int z) (cs.map .int) with
            | true => simp only [Bool.not_true, Bool.false_eq_true, if_false]; exact hN (by rw [hi]; rfl)
            | false => simp only [Bool.not_false, if_true]; exact hP (by rw [hi]; rfl)
          · walk_at "gw"
            rw [List.map_id]
            cases hf : (os.map D.int).filter (fun d => !inD d (cs.map .int)) with
            | nil =>
              simp only [List.length_nil, beq_self_eq_true, Bool.not_true, Bool.false_eq_true, if_false]
              exact hK _ _ ⟨cs, g', s', _, _, by omega, hc, o', rfl, rfl⟩
            | cons x r =>
              have hlen : (x :: r).length ≤ os.length := by rw [← hf, ← List.length_map (f := D.int) (as := os)]; exact List.length_filter_le _ _
              simp only [List.length_cons, Nat.add_one_ne_zero, beq_iff_eq, beq_false_of_ne, ne_eq, not_false_eq_true, Bool.not_false, if_true]
              refine ⟨a, g', s', M0, _, rfl, rfl, ha, o', by simp, by omega, ?_⟩
              intro d g5 s5 hd o5
              rw [← hf] at hd
              obtain ⟨z, hz, rfl⟩ := List.mem_map.mp (List.mem_filter.mp hd).1
              have hcs : (cs.map D.int).length < 16777216 := by rw [List.length_map]; omega
              walk_at "gw"
              refine ⟨hcs, ?_⟩
              exact hK _ _ ⟨cs ++ [z], g5, s5, _, _, by simp; omega, fun y hy => by
                rcases List.mem_append.mp hy with hy | hy
                · exact hc y hy
                · rw [List.mem_singleton] at hy; rw [hy]; exact ho z hz, o5, rfl, by rw [List.map_append]; rfl⟩
  · rintro i k acc Γ M' K ⟨os, rfl, ol, i0, i1, ho, rfl, rfl⟩ hK
    unfold as__law_gate_c1 as__law_gate_e1
    walk_at "gw"
    have hs : (os.map D.int).length < 16777216 := by rw [List.length_map]; omega
    have k1 := hK (os.map .int ++ [.int i]) _ _ ⟨os ++ [i], by simp, by simp; omega, by omega, by omega, fun z hz => by
      rcases List.mem_append.mp hz with hz | hz
      · exact ho z hz
      · rw [List.mem_singleton] at hz; omega, rfl, rfl⟩
    have k2 := hK (os.map .int) _ _ ⟨os, rfl, by omega, by omega, by omega, ho, rfl, rfl⟩
    simp only [hs, k1, k2, true_and, ite_self]
theorem rd__law_circuit : ∀ ds M Q, S__law_circuit ds M Q → as__law_circuit (endsOf Q) (slots N__law_circuit.length ds) M := by
  rintro ds M Q ⟨a, g, s, M0, rfl, rfl, ha, hs, h⟩
  show as__law_circuit (endsOf Q) [.dat _, .dat _, .dat _, .non, .non] _
  unfold as__law_circuit
  walk_at "gw"
  refine ⟨a, g, s, M0, 8, rfl, rfl, ha, hs, by decide, by decide, ?_⟩
  intro n g1 s1 n0 n1 o1
  walk_at "gw"
  refine ⟨a, g1, s1, M0, 11, rfl, rfl, ha, o1, by decide, by decide, ?_⟩
  intro t g2 s2 t0 t1 o2
  walk_at "gw"
  refine ⟨⟨by omega, by omega⟩, ?_⟩
  refine lcR (fun i k acc Γ M' => ∃ g' s', acc.length + k ≤ 11 ∧ tbL 0 acc = true ∧ tdepL acc ≤ 2 ∧ HOk g' s' ∧ M' = HM a g' s' M0 ∧ Γ = [.dat (.ref a), .dat (.int 8), .dat (.int 10), .dat (.int (1 + n)), .non]) ?_ ?_ _ _ ⟨g2, s2, by simp; omega, rfl, by decide, o2, rfl, rfl⟩
  · rintro i acc Γ M' ⟨g', s', al, ab, ad, o', rfl, rfl⟩
    walk_at "gw"
    exact ⟨by decide, h _ _ _ _ (by omega) (by omega) (by omega) ab ad o'⟩
  · rintro i k acc Γ M' K ⟨g', s', al, ab, ad, o', rfl, rfl⟩ hK
    unfold as__law_circuit_e1
    walk_at "gw"
    refine ⟨a, g', s', M0, _, rfl, rfl, ha, o', by omega, by omega, ?_⟩
    intro d g5 s5 db dd o5
    walk_at "gw"
    refine ⟨by omega, hK _ _ _ ⟨g5, s5, by simp; omega, tbL_iff.mpr fun e he => ?_, tdepL_le fun e he => ?_, o5, rfl, rfl⟩⟩
    · rcases List.mem_append.mp he with he | he
      · exact tbL_iff.mp ab e he
      · rw [List.mem_singleton.mp he]; exact db
    · rcases List.mem_append.mp he with he | he
      · exact Nat.le_trans (tdepL_mem he) ad
      · rw [List.mem_singleton.mp he]; exact dd
theorem rd__law_odd : ∀ ds M Q, S__law_odd ds M Q → as__law_odd (endsOf Q) (slots N__law_odd.length ds) M := by
  rintro ds M Q ⟨a, g, s, M0, rfl, rfl, ha, hs, h⟩
  show as__law_odd (endsOf Q) [.dat _, .non] _
  unfold as__law_odd
  walk_at "gs"
  refine ⟨by unfold CPowW; decide, a, g, s, M0, _, rfl, rfl, ha, hs, by decide, by decide, ?_⟩
  intro d g1 s1 hd o1
  have hp : (tb 0 d && decide (tdep d ≤ 2)) = true := by
    refine (List.all_eq_true (p := fun d => tb 0 d && decide (tdep d ≤ 2))).mp ?_ d hd
    simp [tb, tbL, tdep, tdepL]
    decide
  rw [Bool.and_eq_true, decide_eq_true_iff] at hp
  exact h d g1 s1 hp.1 hp.2 o1
theorem rd__law_known : ∀ ds M Q, S__law_known ds M Q → as__law_known (endsOf Q) (slots N__law_known.length ds) M := by
  rintro ds M Q ⟨rfl, h⟩
  show as__law_known (endsOf Q) [.non, .non] _
  unfold as__law_known
  walk_at "gs"
  refine lcMap (fun d => .tup [.int 6, .tup [d]]) _ [] (by decide) (fun d hd P hP => ?_) ?_
  · unfold as__law_known_e1
    walk_at "gs"
    exact hP
  · refine h _ (by decide) ?_
    simp [tb, tbL]
    decide
theorem cut_take {es : List D} {t : Int} (t0 : 0 ≤ t) : cutD es none (some t) = es.take t.toNat := by
  unfold cutD
  have e : HT.sIx es.length es.length (some t) = min t.toNat es.length := by
    show (if t < 0 then _ else min t.toNat es.length) = _
    rw [if_neg (by omega)]
  rw [HT.sIx_none, e, List.drop_zero, Nat.sub_zero, ← List.take_take, List.take_length]
theorem cut_drop {es : List D} {t : Int} (t0 : 0 ≤ t) : cutD es (some t) none = es.drop t.toNat := by
  unfold cutD
  have e : HT.sIx es.length 0 (some t) = min t.toNat es.length := by
    show (if t < 0 then _ else min t.toNat es.length) = _
    rw [if_neg (by omega)]
  rw [HT.sIx_none, e]
  by_cases h : t.toNat ≤ es.length
  · rw [Nat.min_eq_left h]; exact List.take_of_length_le (by rw [List.length_drop]; omega)
  · rw [List.drop_eq_nil_of_le (by omega : es.length ≤ t.toNat), List.drop_eq_nil_of_le (by omega), List.take_nil]
theorem cut_mem {es : List D} {lo hi : Option Int} {d : D} (h : d ∈ cutD es lo hi) : d ∈ es := List.mem_of_mem_drop (List.mem_of_mem_take h)
theorem cut_one {es : List D} {t : Int} (t0 : 0 ≤ t) : (cutD es (some t) (some (t + 1))).length ≤ 1 := by
  unfold cutD
  rw [List.length_take]
  have e : ∀ d, HT.sIx es.length d (some t) = min t.toNat es.length := fun d => by
    show (if t < 0 then _ else min t.toNat es.length) = _
    rw [if_neg (by omega)]
  have e2 : ∀ d, HT.sIx es.length d (some (t + 1)) = min (t + 1).toNat es.length := fun d => by
    show (if t + 1 < 0 then _ else min (t + 1).toNat es.length) = _
    rw [if_neg (by omega)]
  rw [e, e2]
  omega
theorem dep_tup {ds : List D} : tdep (.tup ds) = tdepL ds + 1 := rfl
theorem tup_ok {es xs : List D} {o : D} {m : Nat} (tm : tb m (.tup es) = true) (to : tb (m + 1) o = true) (td : tdep o ≤ tdepL es + 2) (hx : ∀ x ∈ xs, x ∈ es ∨ x = o) (hl : xs.length ≤ es.length + 1) : tb (m + 1) (.tup xs) = true ∧ tdep (.tup xs) ≤ tdep (.tup es) + 2 := by
  obtain ⟨l, b⟩ := tb_tup.mp tm
  refine ⟨tb_tup.mpr ⟨by omega, fun d hd => ?_⟩, ?_⟩
  · rcases hx d hd with h | rfl
    · exact tb_up (by omega) d (b d h)
    · exact to
  · rw [dep_tup, dep_tup]
    have : tdepL xs ≤ tdepL es + 2 := tdepL_le fun d hd => by
      rcases hx d hd with h | rfl
      · have := tdepL_mem h; omega
      · exact td
    omega
theorem bent_t1 {n : Nat} {Q : Ret → Mem → Prop} {a : Addr} {g s : Int} {M0 : Mem} {d o : D} {m : Nat} {v : Int} {s2 s4 : Slot} (ha : a ∉ dom M0) (hs : HOk g s) (tm : tb m d = true) (m5 : m ≤ 50) (to : tb 0 o = true) (td : tdep o ≤ 2) (hd : d = .int v ∨ ∃ b, d = .bl b ∧ v = b2i b)
    (h : ∀ (d' : D) (g' s' : Int), tb (m + 1) d' = true → tdep d' ≤ tdep d + 2 → HOk g' s' → Q (Ret.dat d') (HM a g' s' M0)) :
    as__law_bent_t1 n (endsOf Q) [.dat (.ref a), .dat d, s2, .dat o, s4] (HM a g s M0) := by
  have go : ∀ (x y e w z : D) , (∀ q ∈ [x, y, z], ∃ i : Int, q = .int i ∧ i.natAbs ≤ 2 ^ 50 + m + 1) → (∃ b, e = .bl b) → (∃ t : Str, w = .str t ∧ t.length ≤ 1000) → ap S__law_pick [.ref a, .lst [o, x, y, e, w, z, .tup [d]]] (HM a g s M0) (fun r M2 => (endsOf Q).rt r [.dat (.ref a), .dat d, s2, .dat o, s4] M2) ⟨⟩ := by
    intro x y e w z hi he hw
    refine ⟨a, g, s, M0, _, rfl, rfl, ha, hs, by simp, by simp, ?_⟩
    intro d' g' s' hd' o'
    have ti : ∀ q ∈ [x, y, z], tb (m + 1) q = true ∧ tdep q ≤ tdep d + 2 := fun q hq => by
      obtain ⟨i, rfl, hb⟩ := hi q hq
      exact ⟨by simp only [tb, decide_eq_true_eq]; omega, Nat.zero_le _⟩
    have hp : tb (m + 1) d' = true ∧ tdep d' ≤ tdep d + 2 := by
      simp only [List.mem_cons, List.not_mem_nil, or_false] at hd'
      rcases hd' with rfl | rfl | rfl | rfl | rfl | rfl | rfl
      · exact ⟨tb_up (by omega) _ to, by omega⟩
      · exact ti _ (by simp)
      · exact ti _ (by simp)
      · obtain ⟨b, rfl⟩ := he; exact ⟨rfl, Nat.zero_le _⟩
      · obtain ⟨t, rfl, ht⟩ := hw; exact ⟨by simp only [tb, decide_eq_true_eq]; omega, Nat.zero_le _⟩
      · exact ti _ (by simp)
      · refine ⟨tb_tup.mpr ⟨by rw [List.length_singleton]; omega, fun e he => ?_⟩, ?_⟩
        · rw [List.mem_singleton.mp he]; exact tb_up (by omega) d tm
        · rw [dep_tup]; simp only [tdepL]; omega
    exact h d' g' s' hp.1 hp.2 o'
  unfold as__law_bent_t1
  rcases hd with rfl | ⟨b, rfl, rfl⟩
  · simp only [tb, decide_eq_true_eq] at tm
    have hl : (strN (.int v)).length ≤ 1000 := Nat.le_trans (strI_len (k := 20) (by decide) (by omega)) (by decide)
    walk_at "gw"
    refine ⟨log2_le (k := 1920) ?_ (by decide), by decide, by decide, ?_⟩
    · exact Nat.lt_of_le_of_lt tm (Nat.lt_of_lt_of_le (by omega : 2 ^ 50 + m < 2 ^ 60) (Nat.pow_le_pow_right (by decide) (by decide)))
    · refine go _ _ _ _ _ ?_ ⟨_, rfl⟩ ⟨_, rfl, hl⟩
      intro q hq
      simp only [List.mem_cons, List.not_mem_nil, or_false] at hq
      rcases hq with rfl | rfl | rfl <;> exact ⟨_, rfl, by omega⟩
  · have hl : (strN (.bl b)).length ≤ 1000 := by cases b <;> decide
    have hb : (b2i b).natAbs ≤ 1 := by cases b <;> decide
    walk_at "gq"
    unfold hold
    refine aEq_of (b := eqD (.bl b) (.int 1)) (by simp [cmpOk, Gw.plain, toPy, SeqAt.shaped, PyData.canLay0, PyData.depth]) (cmp_int 1) rfl ?_
    walk_at "gq"
    refine go _ _ _ _ _ ?_ ⟨_, rfl⟩ ⟨_, rfl, hl⟩
    intro q hq
    simp only [List.mem_cons, List.not_mem_nil, or_false] at hq
    rcases hq with rfl | rfl | rfl <;> exact ⟨_, rfl, by omega⟩
theorem rd__law_bent (n : Nat) : ∀ ds M Q, R__law_bent (n + 1) ds M Q → as__law_bent n (endsOf Q) (slots N__law_bent.length ds) M := by
  rintro ds M Q ⟨a, g, s, M0, d, m, rfl, rfl, ha, hs, tm, m5, td, h⟩
  show as__law_bent n (endsOf Q) [.dat _, .dat _, .non, .non, .non] _
  unfold as__law_bent
  cases d with
  | ref a => simp [tb] at tm
  | exc _ _ _ => simp [tb] at tm
  | scr _ => simp [tb] at tm
  | tup es =>
    obtain ⟨el, eb⟩ := tb_tup.mp tm
    have t4 : ∀ g s, HOk g s → as__law_bent_t4 n (endsOf Q) [.dat (.ref a), .dat (.tup es), .non, .non, .non] (HM a g s M0) := by
      intro g s hs
      unfold as__law_bent_t4
      walk_at "gw"
      refine ⟨a, g, s, M0, rfl, rfl, ha, hs, ?_⟩
      intro o g1 s1 to td o1
      walk_at "gw"
      refine ⟨a, g1, s1, M0, _, rfl, rfl, ha, o1, by omega, by omega, ?_⟩
      intro t g2 s2 t0 t1 o2
      walk_at "gw"
      have l1 : (cutD es none (some t)).length = t.toNat := by rw [cut_take t0, List.length_take]; omega
      have l2 : (cutD es (some t) none).length = es.length - t.toNat := by rw [cut_drop t0, List.length_drop]
      have l3 : (cutD es (some (t + 1)) none).length = es.length - (t + 1).toNat := by rw [cut_drop (by omega), List.length_drop]
      have l4 := cut_one (es := es) t0
      simp only [List.length_append, List.length_cons, List.length_nil, l1, l2, l3]
      refine ⟨by omega, by omega, by omega, by decide, by decide, by omega, by omega, by decide, by decide, by omega, by decide, by decide, ?_⟩
      refine ⟨a, g2, s2, M0, _, rfl, rfl, ha, o2, by simp, by simp, ?_⟩
      intro d' g' s' hd' o'
      have to' := tb_up (Nat.zero_le (m + 1)) o to
      have td' : tdep o ≤ tdepL es + 2 := by omega
      have ok : ∀ xs : List D, (∀ x ∈ xs, x ∈ es ∨ x = o) → xs.length ≤ es.length + 1 → tb (m + 1) (.tup xs) = true ∧ tdep (.tup xs) ≤ tdep (.tup es) + 2 := fun xs => tup_ok tm to' td'
      have hp : tb (m + 1) d' = true ∧ tdep d' ≤ tdep (.tup es) + 2 := by
        simp only [List.mem_cons, List.not_mem_nil, or_false] at hd'
        rcases hd' with rfl | rfl | rfl | rfl | rfl | rfl | rfl | rfl
        · refine ok _ (fun x hx => .inl ?_) (by simp only [List.length_append, l1, l3]; omega)
          rcases List.mem_append.mp hx with hx | hx <;> exact cut_mem hx
        · refine ok _ (fun x hx => .inl ?_) (by simp only [List.length_append, l1, l2]; omega)
          rcases List.mem_append.mp hx with hx | hx
          · rcases List.mem_append.mp hx with hx | hx <;> exact cut_mem hx
          · exact cut_mem hx
        · exact ⟨tb_up (by omega) _ (tb_lst.mpr ⟨el, eb⟩), Nat.zero_le _⟩
        · exact ⟨to', by rw [dep_tup]; omega⟩
        · refine ok _ (fun x hx => ?_) (by simp only [List.length_append, List.length_cons, List.length_nil, l1, l2]; omega)
          rcases List.mem_append.mp hx with hx | hx
          · rcases List.mem_append.mp hx with hx | hx
            · exact .inl (cut_mem hx)
            · exact .inr (List.mem_singleton.mp hx)
          · exact .inl (cut_mem hx)
        · exact ok _ (fun x hx => .inl (List.mem_reverse.mp hx)) (by rw [List.length_reverse]; omega)
        · refine ⟨tb_tup.mpr ⟨by rw [List.length_singleton]; omega, fun e he => ?_⟩, ?_⟩
          · rw [List.mem_singleton.mp he]; exact tb_up (by omega) _ tm
          · rw [dep_tup]; simp only [tdepL]; omega
        · refine ok _ (fun x hx => ?_) (by simp)
          rcases List.mem_append.mp hx with hx | hx
          · exact .inl hx
          · exact .inr (List.mem_singleton.mp hx)
      exact h d' g' s' hp.1 hp.2 o'
    walk_at "gw"
    cases es with
    | nil => exact t4 g s hs
    | cons e0 er =>
      simp only [List.length_cons, Nat.add_one_ne_zero, beq_iff_eq, beq_false_of_ne, ne_eq, not_false_eq_true, Bool.not_false, if_true]
      refine ⟨a, g, s, M0, 6, rfl, rfl, ha, hs, by decide, by decide, ?_⟩
      intro c g1 s1 c0 c1 o1
      walk_at "gw"
      by_cases hc : 0 < c
      · simp only [hc, decide_true, if_true]
        refine ⟨a, g1, s1, M0, _, rfl, rfl, ha, o1, by simp, by simp at el ⊢; omega, ?_⟩
        intro t g2 s2 t0 t1 o2
        obtain ⟨x, e1, e2⟩ := atI_in (xs := e0 :: er) t0 (by simpa using t1)
        have xm : x ∈ e0 :: er := List.mem_of_getElem? e2
        walk_at "gw"
        simp only [e1]
        have xd := tdepL_mem xm
        refine ⟨a, g2, s2, M0, x, m, rfl, rfl, ha, o2, eb x xm, m5, by rw [dep_tup] at td; omega, ?_⟩
        intro d' g3 s3 tb' td' o3
        have l1 : (cutD (e0 :: er) none (some t)).length = t.toNat := by rw [cut_take t0, List.length_take]; simp only [List.length_cons]; omega
        have l3 : (cutD (e0 :: er) (some (t + 1)) none).length = er.length + 1 - (t + 1).toNat := by rw [cut_drop (by omega), List.length_drop]; rfl
        have el' : er.length + 1 ≤ 4000 + m := el
        walk_at "gw"
        simp only [List.length_append, List.length_cons, List.length_nil, l1, l3]
        refine ⟨by decide, by omega, by omega, ?_⟩
        have ok := tup_ok (xs := cutD (e0 :: er) none (some t) ++ [d'] ++ cutD (e0 :: er) (some (t + 1)) none) tm tb' (by omega) (fun y hy => by
          rcases List.mem_append.mp hy with hy | hy
          · rcases List.mem_append.mp hy with hy | hy
            · exact .inl (cut_mem hy)
            · exact .inr (List.mem_singleton.mp hy)
          · exact .inl (cut_mem hy)) (by simp only [List.length_append, List.length_cons, List.length_nil, l1, l3]; omega)
        exact h _ g3 s3 ok.1 ok.2 o3
      · simp only [hc, decide_false, Bool.false_eq_true, if_false]
        exact t4 g1 s1 o1
  | int v =>
    walk_at "gw"
    unfold as__law_bent_t4
    walk_at "gw"
    refine ⟨a, g, s, M0, rfl, rfl, ha, hs, ?_⟩
    intro o g1 s1 to td o1
    walk_at "gw"
    unfold as__law_bent_t3
    walk_at "gw"
    unfold as__law_bent_t2
    walk_at "gw"
    exact bent_t1 ha o1 tm m5 to td (.inl rfl) h
  | bl b =>
    walk_at "gw"
    unfold as__law_bent_t4
    walk_at "gw"
    refine ⟨a, g, s, M0, rfl, rfl, ha, hs, ?_⟩
    intro o g1 s1 to td o1
    walk_at "gw"
    unfold as__law_bent_t3
    walk_at "gw"
    unfold as__law_bent_t2
    walk_at "gw"
    exact bent_t1 ha o1 tm m5 to td (.inr ⟨b, rfl, rfl⟩) h
  | str x =>
    walk_at "gw"
    unfold as__law_bent_t4
    walk_at "gw"
    refine ⟨a, g, s, M0, rfl, rfl, ha, hs, ?_⟩
    intro o g1 s1 to td o1
    walk_at "gw"
    unfold as__law_bent_t3
    walk_at "gw"
    have xl : x.length ≤ 1000 + m := of_decide_eq_true tm
    have lx : ("x" : Str).length = 1 := by decide
    have lc : (x ++ Str.ofString "x").length = x.length + 1 := by rw [Str.length_append, lx]
    refine ⟨by rw [lx]; omega, by omega, by decide, by decide, ?_⟩
    refine ⟨a, g1, s1, M0, _, rfl, rfl, ha, o1, by simp, by simp, ?_⟩
    intro d' g' s' hd' o'
    have st : ∀ y : Str, y.length ≤ 1000 + (m + 1) → tb (m + 1) (.str y) = true ∧ tdep (.str y) ≤ tdep (.str x) + 2 := fun y hy => ⟨decide_eq_true hy, Nat.zero_le _⟩
    have hp : tb (m + 1) d' = true ∧ tdep d' ≤ tdep (.str x) + 2 := by
      simp only [List.mem_cons, List.not_mem_nil, or_false] at hd'
      rcases hd' with rfl | rfl | rfl | rfl | rfl | rfl | rfl
      · exact ⟨tb_up (by omega) _ to, by omega⟩
      · exact st _ (Nat.le_trans (by decide : _ ≤ 10) (by omega))
      · exact st _ (Nat.le_trans (by decide : _ ≤ 10) (by omega))
      · exact st _ (Nat.le_trans (by decide : _ ≤ 10) (by omega))
      · exact st _ (by rw [lc]; omega)
      · exact st _ (by have := cutS_length x none (some (-1)); omega)
      · refine ⟨tb_tup.mpr ⟨by rw [List.length_singleton]; omega, fun e he => ?_⟩, ?_⟩
        · rw [List.mem_singleton.mp he]; exact tb_up (by omega) _ tm
        · rw [dep_tup]; simp only [tdepL]; omega
    exact h d' g' s' hp.1 hp.2 o'
  | _ =>
    walk_at "gw"
    unfold as__law_bent_t4
    walk_at "gw"
    refine ⟨a, g, s, M0, rfl, rfl, ha, hs, ?_⟩
    intro o g1 s1 to td o1
    walk_at "gw"
    unfold as__law_bent_t3
    walk_at "gw"
    unfold as__law_bent_t2
    walk_at "gw"
    exact h o g1 s1 (tb_up (by omega) _ to) (by omega) o1
theorem shb (b : Bool) : shOk (.bl b) = true := sh_of (by simp [fine]) (by simp [dep]) (by simp [wid])
theorem rep1 (d : D) : ∀ k : Nat, (List.replicate k [d]).flatten = List.replicate k d
  | 0 => rfl
  | k + 1 => by rw [List.replicate_succ, List.replicate_succ, List.flatten_cons, rep1 d k]; rfl
theorem rep_tb {d : D} (h : tb 100 d = true) {k : Nat} (hk : k ≤ 3500) : tb 100 (.tup (List.replicate k d)) = true := tb_tup.mpr ⟨by rw [List.length_replicate]; omega, fun e he => by rw [List.eq_of_mem_replicate he]; exact h⟩
theorem pair_tb {n : Int} {d : D} (h0 : -1000 ≤ n) (h1 : n ≤ 1000) (h : tb 100 d = true) : tb 100 (.tup [.int n, d]) = true := tb_tup.mpr ⟨by simp, fun e he => by
  simp only [List.mem_cons, List.not_mem_nil, or_false] at he
  rcases he with rfl | rfl
  · exact tb_int h0 h1
  · exact h⟩
theorem turns4 (n : Nat) : 0 ≤ (if (if (n : Int) > 4 then 4 else (n : Int)) > 1 then if (n : Int) > 4 then 4 else (n : Int) else 1) ∧ (if (if (n : Int) > 4 then 4 else (n : Int)) > 1 then if (n : Int) > 4 then 4 else (n : Int) else 1) ≤ 4 := by
  by_cases h : (n : Int) > 4
  · simp only [h, if_true]; decide
  · simp only [h, if_false]; split <;> omega
theorem rd_law : ∀ ds M Q, S_law ds M Q → as_law (endsOf Q) (slots N_law.length ds) M := by
  rintro ds M Q ⟨ns, rfl, rfl, hP, h⟩
  show as_law (endsOf Q) [.dat _, .non, .non, .non, .non, .non, .non, .non, .non, .non, .non, .non] _
  have rest : ∀ s1 s2 s3 s4, as_law_t3 (endsOf Q) [.dat (.scr (ns.map .int)), s1, s2, s3, s4, .non, .non, .non, .non, .non, .non, .non] [] := by
    intro s1 s2 s3 s4
    unfold as_law_t3
    walk_at "gw"
    have t4 := turns4 (ns.map D.int).length
    refine ⟨⟨by omega, by omega⟩, ?_⟩
    refine forR (fun i k Γ M' => ∃ (s1 s2 s3 s4 s5 s6 s7 s8 s9 s10 s11 : Slot), 0 ≤ i ∧ i + k ≤ 4 ∧ Γ = [.dat (.scr (ns.map .int)), s1, s2, s3, s4, s5, s6, s7, s8, s9, s10, s11]) ?_ ?_ _ ⟨_, _, _, _, _, _, _, _, _, _, _, by decide, by omega, rfl⟩
    · rintro i Γ M' ⟨s1, s2, s3, s4, s5, s6, s7, s8, s9, s10, s11, -, -, rfl⟩
      unfold as_law_t2
      walk_at "gw"
      exact h _
    · rintro i k Γ M0 K ⟨s1', s2', s3, s4, s5, s6, s7, s8, s9, s10, s11, i0, i1, rfl⟩ hK
      unfold as_law_b4
      walk_at "gw"
      refine ⟨ns, i, rfl, i0, by omega, ?_⟩
      intro a g s ha o
      walk_at "gw"
      refine ⟨a, g, s, M0, rfl, rfl, ha, o, ?_⟩
      intro n gs g1 s1 n0 n1 gl gb gd o1
      have tc : tb 0 (.tup [.int n, .tup gs]) = true := tb_tup.mpr ⟨by simp, fun e he => by
        simp only [List.mem_cons, List.not_mem_nil, or_false] at he
        rcases he with rfl | rfl
        · exact tb_int (by omega) (by omega)
        · exact tb_tup.mpr ⟨by omega, tbL_iff.mp gb⟩⟩
      have dc : tdep (.tup [.int n, .tup gs]) ≤ 4 := by simp only [tdep, tdepL]; omega
      walk_at "gw"
      refine ⟨a, g1, s1, M0, rfl, rfl, ha, o1, ?_⟩
      intro od g2 s2 ob _ o2
      walk_at "gw"
      rw [cut1]
      refine ⟨by decide, by simp, by decide, by decide, ?_⟩
      have up : ∀ {m : Nat} {d : D}, m ≤ 100 → tb m d = true → tb 100 d = true := fun hm => tb_up hm _
      have tg : tb 100 (.tup gs) = true := up (Nat.zero_le _) (tb_tup.mpr ⟨by omega, tbL_iff.mp gb⟩)
      refine forR (fun j l Γ M' => ∃ (ts : List D) (g' s' : Int) (s9 s10 : Slot), ts.length + l ≤ 20 ∧ (∀ d ∈ ts, tb 100 d = true) ∧ HOk g' s' ∧ M' = HM a g' s' M0 ∧
          Γ = [.dat (.scr (ns.map .int)), s1', s2', s3, s4, .dat (.int i), .dat (.ref a), .dat (.tup [.int n, .tup gs]), .own (.lst ts), s9, s10, s11]) ?_ ?_ _ ⟨_, _, _, _, _, by simp, ?_, o2, rfl, rfl⟩
      · rintro j Γ M' ⟨ts, g', s', s9, s10, tl, tt, o', rfl, rfl⟩
        unfold as_law_t1
        walk_at "gw"
        refine forL (fun r Γ M' => (∀ d ∈ r, tb 100 d = true) ∧ ∃ s1 s2 s3 s4 s5 s6 s7 s8 s9 s10 s11, Γ = [.dat (.scr (ns.map .int)), s1, s2, s3, s4, s5, s6, s7, s8, s9, s10, s11]) ?_ ?_ _ ⟨tt, _, _, _, _, _, _, _, _, _, _, _, rfl⟩
        · rintro Γ M' ⟨-, s1, s2, s3, s4, s5, s6, s7, s8, s9, s10, s11, rfl⟩
          exact hK _ _ ⟨_, _, _, _, _, _, _, _, _, _, _, by omega, by omega, rfl⟩
        · rintro d r Γ M' K' ⟨hr, s1, s2, s3, s4, s5, s6, s7, s8, s9, s10, s11, rfl⟩ hK'
          have td := hr d List.mem_cons_self
          have sb := shb (isC d)
          unfold as_law_b3
          walk_at "gw"
          refine ⟨d, rfl, td, ?_⟩
          walk_at "gw"
          refine ⟨sb, d, rfl, td, ?_⟩
          walk_at "gw"
          refine ⟨sb, ?_⟩
          simp only [decide_true, Bool.not_true, Bool.false_eq_true, if_false]
          refine ⟨d, rfl, td, ?_⟩
          walk_at "gw"
          refine ⟨sb, ?_⟩
          simp only [decide_true, Bool.not_true, Bool.false_eq_true, if_false]
          exact hK' _ _ ⟨fun e he => hr e (List.mem_cons_of_mem _ he), _, _, _, _, _, _, _, _, _, _, _, rfl⟩
      · rintro j l Γ M' K' ⟨ts, g', s', s9, s10, tl, tt, o', rfl, rfl⟩ hK'
        have add : ∀ (d : D) (g s : Int) (s9 s10 : Slot), tb 100 d = true → HOk g s → K' [.dat (.scr (ns.map .int)), s1', s2', s3, s4, .dat (.int i), .dat (.ref a), .dat (.tup [.int n, .tup gs]), .own (.lst (ts ++ [d])), s9, s10, s11] (HM a g s M0) :=
          fun d g s s9 s10 hd ho => hK' _ _ ⟨ts ++ [d], g, s, s9, s10, by simp; omega, fun e he => by
            rcases List.mem_append.mp he with he | he
            · exact tt e he
            · rw [List.mem_singleton.mp he]; exact hd, ho, rfl, rfl⟩
        have tsl : ts.length < 16777216 := by omega
        unfold as_law_b2
        walk_at "gw"
        refine ⟨a, g', s', M0, _, 0, rfl, rfl, ha, o', tc, by decide, by omega, ?_⟩
        intro d g3 s3 db dd o3
        walk_at "gq"
        refine ⟨a, g3, s3, M0, 3, rfl, rfl, ha, o3, by decide, by decide, ?_⟩
        intro c g4 s4 c0 c1 o4
        walk_at "gq"
        by_cases hc : c = 0
        · simp only [hc, decide_true, if_true]
          unfold hold
          refine aIsi_of (tb_nr db) ?_
          cases ht : isD .tuple d with
          | true =>
            walk_at "gq"
            refine ⟨a, g4, s4, M0, d, 1, rfl, rfl, ha, o4, db, by decide, by omega, ?_⟩
            intro d' g5 s5 db' dd' o5
            walk_at "gq"
            exact ⟨tsl, add d' g5 s5 _ _ (up (by decide) db') o5⟩
          | false =>
            walk_at "gq"
            exact ⟨tsl, add d g4 s4 _ _ (up (by decide) db) o4⟩
        · simp only [hc, decide_false, Bool.false_eq_true, if_false]
          exact ⟨tsl, add d g4 s4 _ _ (up (by decide) db) o4⟩
      · intro d hd
        simp only [List.mem_cons, List.not_mem_nil, or_false] at hd
        rcases hd with rfl | rfl | rfl | rfl | rfl
        · exact up (Nat.zero_le _) tc
        · exact tg
        · exact tb_lst.mpr ⟨by simp, (tb_tup.mp (up (Nat.zero_le _) tc)).2⟩
        · exact up (Nat.zero_le _) ob
        · exact pair_tb (by omega) (by omega) tg
  unfold as_law
  walk_at "gs"
  simp only [rep1, List.length_replicate]
  have tn : tb 100 (.tup [.str "not", .int 0, .tup [], .int 0]) = true := by simp [tb, tbL]; decide
  have tx : tb 100 (.tup [.str "cross", .int 0, .tup [.int 0], .int 1]) = true := by simp [tb, tbL]; decide
  generalize D.tup [.str "not", .int 0, .tup [], .int 0] = dn at *
  generalize D.tup [.str "cross", .int 0, .tup [.int 0], .int 1] = dx at *
  have snoc : ∀ k : Nat, k ≤ 3000 → tb 100 (.tup (List.replicate k dn ++ [dx])) = true := fun k hk => tb_tup.mpr ⟨by simp; omega, fun e he => by
    rcases List.mem_append.mp he with he | he
    · rw [List.eq_of_mem_replicate he]; exact tn
    · rw [List.mem_singleton.mp he]; exact tx⟩
  refine ⟨⟨by simp, by decide, by decide⟩, ⟨by simp, by decide, by decide⟩, ⟨by simp, by decide, by decide⟩, ⟨by simp, by decide, by decide⟩, ⟨by simp, by decide, by decide⟩, by decide, ⟨by simp, by decide, by decide⟩, by decide, rfl, fun cs cl ct => ?_⟩
  walk_at "gs"
  simp only [rep1]
  refine ⟨by omega, ?_⟩
  have hall : ∀ d ∈ cs ++ [D.tup [D.int 2, D.tup (List.replicate (Int.toNat 3000) dn)], D.tup [D.int 2, D.tup (List.replicate (Int.toNat 3001) dn)], D.tup [D.int 2, D.tup (List.replicate (Int.toNat 600) dx)],
      D.tup [D.int 2, D.tup (List.replicate (Int.toNat 601) dx)], D.tup [D.int 2, D.tup (List.replicate (Int.toNat 600) dn ++ [dx])], D.tup [D.int 2, D.tup (List.replicate (Int.toNat 599) dn ++ [dx])], D.tup [D.int 9, D.tup []],
      D.tup [D.int 0, D.tup []], D.tup [D.int 8, D.tup []], D.tup [D.int 1, D.tup []]], tb 100 d = true := by
    intro d hd
    rcases List.mem_append.mp hd with hd | hd
    · exact tbL_iff.mp ct d hd
    · simp only [List.mem_cons, List.not_mem_nil, or_false] at hd
      rcases hd with rfl | rfl | rfl | rfl | rfl | rfl | rfl | rfl | rfl | rfl
      · exact pair_tb (by decide) (by decide) (rep_tb tn (by decide))
      · exact pair_tb (by decide) (by decide) (rep_tb tn (by decide))
      · exact pair_tb (by decide) (by decide) (rep_tb tx (by decide))
      · exact pair_tb (by decide) (by decide) (rep_tb tx (by decide))
      · exact pair_tb (by decide) (by decide) (snoc _ (by decide))
      · exact pair_tb (by decide) (by decide) (snoc _ (by decide))
      all_goals exact pair_tb (by decide) (by decide) (tb_tup.mpr ⟨by simp, by simp⟩)
  generalize cs ++ _ = all at hall ⊢
  generalize Slot.dat (.lst _) = s3
  refine forL (fun r Γ M' => (∀ d ∈ r, tb 100 d = true) ∧ M' = [] ∧ ∃ s4, Γ = [.dat (.scr (ns.map .int)), .dat dn, .dat dx, s3, s4, .non, .non, .non, .non, .non, .non, .non]) ?_ ?_ _ ⟨hall, rfl, _, rfl⟩
  · rintro Γ M' ⟨-, rfl, s4, rfl⟩
    exact rest _ _ _ _
  · rintro d r Γ M' K ⟨hr, rfl, s4, rfl⟩ hK
    have td := hr d List.mem_cons_self
    have sb := shb (isC d)
    unfold as_law_b1
    walk_at "gw"
    refine ⟨d, rfl, td, ?_⟩
    walk_at "gw"
    refine ⟨sb, d, rfl, td, ?_⟩
    walk_at "gw"
    refine ⟨sb, ?_⟩
    simp only [decide_true, Bool.not_true, Bool.false_eq_true, if_false]
    exact hK _ _ ⟨fun e he => hr e (List.mem_cons_of_mem _ he), rfl, _, rfl⟩

open PyProof.Rows
/-! ### the walks (printed by gen.py) -/
structure Txt (K : PySem.W.Frag) (mg : Str → Option Value) : Prop where
  isinstance : mg "isinstance" = none
  int : mg "int" = none
  bool : mg "bool" = none
  tuple : mg "tuple" = none
  len : mg "len" = none
  all : mg "all" = none
  zip : mg "zip" = none
  str : mg "str" = none
  abs : mg "abs" = none
  range : mg "range" = none
  sorted : mg "sorted" = none
  min : mg "min" = none
  list : mg "list" = none
  set : mg "set" = none
  repr : mg "repr" = none
  max : mg "max" = none
  g_MOST_CONTROLS : Glob K mg "MOST_CONTROLS" (.int 4)
  g_EIGHTS : Glob K mg "EIGHTS" (.int 8)
  g_PHASE_WIRE : Glob K mg "PHASE_WIRE" (.int (-1))
  g_MOST_WIRES : Glob K mg "MOST_WIRES" (.int 8)
  g_MOST_NARROW : Glob K mg "MOST_NARROW" (.int 3000)
  g_MOST_GATES : Glob K mg "MOST_GATES" (.int 600)
section
variable {P : Program} {w : World} {K : PySem.W.Frag} {mg : Str → Option Value} {base : Heap}
theorem sc_is_within : FnScope N_is_within ["thing", "low", "high"] (defScope s_is_within) := ⟨rfl, rfl, rfl, by decide +kernel, rfl, by decide +kernel, by decide +kernel⟩
theorem walk_is_within (T : Txt K mg) {f : Addr} {cd : Value} {A : Around} {outer : List Env} {s : Shared} {H : Hp} {E : XK} {ρ : Ent} (hr : Room 0 (A.deeper (envOfC "is_within" (defScope s_is_within) s.heap.objs.size f cd))) (gd : A.guards = some []) :
    ∃ ts, QSs (cxOf CX0 P w K mg base N_is_within "is_within" (defScope s_is_within) f cd A outer s H E).nox ρ (defBody s_is_within) ts as_is_within := ⟨_, (qss_one (qs_ret (q_and (q_isi .int T.isinstance T.int (qv 0)) (q_and (q_not (q_isi .bool T.isinstance T.bool (qv 0))) (q_one (q_chain c_le c_le (qv 1) (qv 0) (qv 2)))))))⟩
theorem sc_are_controls : FnScope N_are_controls ["thing", "many"] (defScope s_are_controls) := ⟨rfl, rfl, rfl, by decide +kernel, rfl, by decide +kernel, by decide +kernel⟩
theorem walk_are_controls (T : Txt K mg) (c_is_within : Cal P w K mg base "is_within" ["thing", "low", "high"] 1 S_is_within) {f : Addr} {cd : Value} {A : Around} {outer : List Env} {s : Shared} {H : Hp} {E : XK} {ρ : Ent} (hr : Room 1 (A.deeper (envOfC "are_controls" (defScope s_are_controls) s.heap.objs.size f cd))) (gd : A.guards = some []) :
    ∃ ts, QSs (cxOf CX0 P w K mg base N_are_controls "are_controls" (defScope s_are_controls) f cd A outer s H E).nox ρ (defBody s_are_controls) ts as_are_controls := ⟨_, (qss_cons (qs_if (QW.qt (qw_or (qt_not (qt_val (q_isi .tuple T.isinstance T.tuple (qv 0)))) (qw_or1 (qt_cmp c_gt (q_len T.len (qv 0)) (q_glob T.g_MOST_CONTROLS))))) (qss_one (qs_ret q_bl)) qss_nil)
    (qss_cons (qs_if (qt_not (qt_val (q_all T.all (q_comp (own := [("wire", 2)]) sc_are_controls.nd (qi_tup (qv 0)) (blkOk_by (own := [("wire", 2)]) (N := N_are_controls) (sc := defScope s_are_controls) (by decide +kernel)) (fun _ _ _ _ _ => (qg_name 2 sc_are_controls.nd)) (fun _ _ _ _ _ => qts_nil) (fun _ _ _ _ _ => (q_callC c_is_within (hr.mono (by decide)) gd (qa_cons (qv 2) (qa_cons q_int (qa_cons (q_sub (qv 1) q_int) qa_nil))))) s)))) (qss_one (qs_ret q_bl)) qss_nil)
    (qss_one (qs_ret (q_all T.all (q_comp (own := [("one", 3), ("other", 4)]) sc_are_controls.nd (qi_zip T.zip (qa_cons (qv 0) (qa_cons (q_sl (qv 0) (qo_some q_int) qo_none) qa_nil))) (blkOk_by (own := [("one", 3), ("other", 4)]) (N := N_are_controls) (sc := defScope s_are_controls) (by decide +kernel)) (fun _ _ _ _ _ => (qg_tup (qgs_cons (qg_name 3 sc_are_controls.nd) (qgs_cons (qg_name 4 sc_are_controls.nd) qgs_nil)))) (fun _ _ _ _ _ => qts_nil) (fun _ _ _ _ _ => (q_cmp c_lt (qv 3) (qv 4))) s))))))⟩
theorem sc_is_gate : FnScope N_is_gate ["thing", "many"] (defScope s_is_gate) := ⟨rfl, rfl, rfl, by decide +kernel, rfl, by decide +kernel, by decide +kernel⟩
theorem walk_is_gate (T : Txt K mg) (c_is_within : Cal P w K mg base "is_within" ["thing", "low", "high"] 1 S_is_within) (c_are_controls : Cal P w K mg base "are_controls" ["thing", "many"] 2 S_are_controls) {f : Addr} {cd : Value} {A : Around} {outer : List Env} {s : Shared} {H : Hp} {E : XK} {ρ : Ent} (hr : Room 2 (A.deeper (envOfC "is_gate" (defScope s_is_gate) s.heap.objs.size f cd))) (gd : A.guards = some []) :
    ∃ ts, QSs (cxOf CX0 P w K mg base N_is_gate "is_gate" (defScope s_is_gate) f cd A outer s H E).nox ρ (defBody s_is_gate) ts as_is_gate := ⟨_, (qss_cons (qs_if (QW.qt (qw_or (qt_not (qt_val (q_isi .tuple T.isinstance T.tuple (qv 0)))) (qw_or (qt_cmp (c_ne hr.units) (q_len T.len (qv 0)) q_int) (qw_or1 (qt_not (qt_val (q_isi .str T.isinstance T.str (q_ixS (qv 0) q_int)))))))) (qss_one (qs_ret q_bl)) qss_nil)
    (qss_cons (qs_unp (qv 0) (qg_tup (qgs_cons (qg_name 2 sc_is_gate.nd) (qgs_cons (qg_name 3 sc_is_gate.nd) (qgs_cons (qg_name 4 sc_is_gate.nd) (qgs_cons (qg_name 5 sc_is_gate.nd) qgs_nil))))))
    (qss_cons (qs_unp (q_ifExp (qt_cmp c_in (qv 2) (q_tup (qa_cons q_str (qa_cons q_str qa_nil)))) (q_tup (qa_cons q_int (qa_cons (q_sub (q_glob T.g_EIGHTS) q_int) qa_nil))) (q_tup (qa_cons q_int (qa_cons q_int qa_nil)))) (qg_tup (qgs_cons (qg_name 6 sc_is_gate.nd) (qgs_cons (qg_name 7 sc_is_gate.nd) qgs_nil))))
    (qss_cons (qs_if (qt_not (qt_val (q_callC c_is_within (hr.mono (by decide)) gd (qa_cons (qv 3) (qa_cons (qv 6) (qa_cons (qv 7) qa_nil)))))) (qss_one (qs_ret q_bl)) qss_nil)
    (qss_cons (qs_if (qt_not (qt_val (q_callC c_are_controls (hr.mono (by decide)) gd (qa_cons (qv 4) (qa_cons (qv 1) qa_nil))))) (qss_one (qs_ret q_bl)) qss_nil)
    (qss_cons (qs_if (qt_cmp c_eqS (qv 2) q_str) (qss_one (qs_ret (q_and (q_cmp (c_eq0 hr.units) (qv 4) (q_tup qa_nil)) (q_one (q_callC c_is_within (hr.mono (by decide)) gd (qa_cons (qv 5) (qa_cons (q_glob T.g_PHASE_WIRE) (qa_cons (q_glob T.g_PHASE_WIRE) qa_nil)))))))) qss_nil)
    (qss_cons (qs_if (QW.qt (qw_or (qt_not (qt_val (q_callC c_is_within (hr.mono (by decide)) gd (qa_cons (qv 5) (qa_cons q_int (qa_cons (q_sub (qv 1) q_int) qa_nil)))))) (qw_or1 (qt_cmp c_in (qv 5) (qv 4))))) (qss_one (qs_ret q_bl)) qss_nil)
    (qss_cons (qs_if (qt_cmp c_eqS (qv 2) q_str) (qss_one (qs_ret (q_and (q_cmp (c_eq hr.units) (q_len T.len (qv 4)) q_int) (q_one (q_cmp c_lt (q_ixS (qv 4) q_int) (qv 5)))))) qss_nil)
    (qss_one (qs_ret (q_cmp c_in (qv 2) (q_tup (qa_cons q_str (qa_cons q_str (qa_cons q_str qa_nil)))))))))))))))⟩
theorem sc_is_narrow_gate : FnScope N_is_narrow_gate ["gate"] (defScope s_is_narrow_gate) := ⟨rfl, rfl, rfl, by decide +kernel, rfl, by decide +kernel, by decide +kernel⟩
theorem walk_is_narrow_gate (T : Txt K mg) {f : Addr} {cd : Value} {A : Around} {outer : List Env} {s : Shared} {H : Hp} {E : XK} {ρ : Ent} (hr : Room 0 (A.deeper (envOfC "is_narrow_gate" (defScope s_is_narrow_gate) s.heap.objs.size f cd))) (gd : A.guards = some []) :
    ∃ ts, QSs (cxOf CX0 P w K mg base N_is_narrow_gate "is_narrow_gate" (defScope s_is_narrow_gate) f cd A outer s H E).nox ρ (defBody s_is_narrow_gate) ts as_is_narrow_gate := ⟨_, (qss_cons (qs_unp (qv 0) (qg_tup (qgs_cons (qg_name 1 sc_is_narrow_gate.nd) (qgs_cons (qg_name 2 sc_is_narrow_gate.nd) (qgs_cons (qg_name 3 sc_is_narrow_gate.nd) (qgs_cons (qg_name 4 sc_is_narrow_gate.nd) qgs_nil))))))
    (qss_one (qs_ret (q_and (q_cmp c_neS (qv 1) q_str) (q_one (q_cmp c_le (q_len T.len (qv 3)) (q_intB T.int (q_cmp c_eqS (qv 1) q_str))))))))⟩
theorem sc_is_circuit : FnScope N_is_circuit ["thing"] (defScope s_is_circuit) := ⟨rfl, rfl, rfl, by decide +kernel, rfl, by decide +kernel, by decide +kernel⟩
theorem walk_is_circuit (T : Txt K mg) (c_is_within : Cal P w K mg base "is_within" ["thing", "low", "high"] 1 S_is_within) (c_is_gate : Cal P w K mg base "is_gate" ["thing", "many"] 3 S_is_gate) (c_is_narrow_gate : Cal P w K mg base "is_narrow_gate" ["gate"] 1 S_is_narrow_gate) {f : Addr} {cd : Value} {A : Around} {outer : List Env} {s : Shared} {H : Hp} {E : XK} {ρ : Ent} (hr : Room 3 (A.deeper (envOfC "is_circuit" (defScope s_is_circuit) s.heap.objs.size f cd))) (gd : A.guards = some []) :
    ∃ ts, QSs (cxOf CX0 P w K mg base N_is_circuit "is_circuit" (defScope s_is_circuit) f cd A outer s H E).nox ρ (defBody s_is_circuit) ts as_is_circuit := ⟨_, (qss_cons (qs_if (QW.qt (qw_or (qt_not (qt_val (q_isi .tuple T.isinstance T.tuple (qv 0)))) (qw_or1 (qt_cmp (c_ne hr.units) (q_len T.len (qv 0)) q_int)))) (qss_one (qs_ret q_bl)) qss_nil)
    (qss_cons (qs_unp (qv 0) (qg_tup (qgs_cons (qg_name 1 sc_is_circuit.nd) (qgs_cons (qg_name 2 sc_is_circuit.nd) qgs_nil))))
    (qss_cons (qs_if (QW.qt (qw_or (qt_not (qt_val (q_callC c_is_within (hr.mono (by decide)) gd (qa_cons (qv 1) (qa_cons q_int (qa_cons (q_glob T.g_MOST_WIRES) qa_nil)))))) (qw_or (qt_not (qt_val (q_isi .tuple T.isinstance T.tuple (qv 2)))) (qw_or1 (qt_cmp c_gt (q_len T.len (qv 2)) (q_glob T.g_MOST_NARROW)))))) (qss_one (qs_ret q_bl)) qss_nil)
    (qss_cons (qs_if (qt_not (qt_val (q_all T.all (q_comp (own := [("gate", 3)]) sc_is_circuit.nd (qi_tup (qv 2)) (blkOk_by (own := [("gate", 3)]) (N := N_is_circuit) (sc := defScope s_is_circuit) (by decide +kernel)) (fun _ _ _ _ _ => (qg_name 3 sc_is_circuit.nd)) (fun _ _ _ _ _ => qts_nil) (fun _ _ _ _ _ => (q_callC c_is_gate (hr.mono (by decide)) gd (qa_cons (qv 3) (qa_cons (qv 1) qa_nil)))) s)))) (qss_one (qs_ret q_bl)) qss_nil)
    (qss_one (qs_ret (q_or (q_cmp c_le (q_len T.len (qv 2)) (q_glob T.g_MOST_GATES)) (q_one (q_all T.all (q_comp (own := [("gate", 3)]) sc_is_circuit.nd (qi_tup (qv 2)) (blkOk_by (own := [("gate", 3)]) (N := N_is_circuit) (sc := defScope s_is_circuit) (by decide +kernel)) (fun _ _ _ _ _ => (qg_name 3 sc_is_circuit.nd)) (fun _ _ _ _ _ => qts_nil) (fun _ _ _ _ _ => (q_callC c_is_narrow_gate (hr.mono (by decide)) gd (qa_cons (qv 3) qa_nil))) s))))))))))⟩
theorem sc__law_hand : FnScope N__law_hand ["_law_script", "_law_k"] (defScope s__law_hand) := ⟨rfl, rfl, rfl, by decide +kernel, rfl, by decide +kernel, by decide +kernel⟩
theorem walk__law_hand (T : Txt K mg) {f : Addr} {cd : Value} {A : Around} {outer : List Env} {s : Shared} {H : Hp} {E : XK} {ρ : Ent} (hr : Room 0 (A.deeper (envOfC "_law_hand" (defScope s__law_hand) s.heap.objs.size f cd))) (gd : A.guards = some []) :
    ∃ ts, QSs (cxOf CX0 P w K mg base N__law_hand "_law_hand" (defScope s__law_hand) f cd A outer s H E).nox ρ (defBody s__law_hand) ts as__law_hand := ⟨_, (qss_cons (qs_setF 2 sc__law_hand.nd (q_add (q_mul q_int (qv 1)) (q_len T.len (qv 0))))
    (qss_cons (qs_if (qt_cmp c_lt (qv 1) (q_len T.len (qv 0))) (qss_one (qs_setF 2 sc__law_hand.nd (q_ixS (qv 0) (qv 1)))) qss_nil)
    (qss_cons (qs_setF 3 sc__law_hand.nd (q_mul (q_mod (q_abs T.abs (qv 2)) (q_powW (q_powW q_int q_int) q_int)) (q_intB T.int (q_cmp c_ge (q_abs T.abs (qv 2)) (q_powW q_int q_int)))))
    (qss_one (qs_ret (q_sh (q_lst (qa_cons (qv 3) (qa_cons (q_mod (q_mul (q_add (q_add (q_mod (qv 2) q_int) (q_mul (q_mul q_int (qv 1)) (qv 1))) q_int) q_int) q_int) qa_nil)))))))))⟩
theorem sc__law_take : FnScope N__law_take ["_law_hand_here", "_law_many"] (defScope s__law_take) := ⟨rfl, rfl, rfl, by decide +kernel, rfl, by decide +kernel, by decide +kernel⟩
theorem walk__law_take (T : Txt K mg) {f : Addr} {cd : Value} {A : Around} {outer : List Env} {s : Shared} {H : Hp} {E : XK} {ρ : Ent} (hr : Room 0 (A.deeper (envOfC "_law_take" (defScope s__law_take) s.heap.objs.size f cd))) (gd : A.guards = some []) :
    ∃ ts, QSs (cxOf CX0 P w K mg base N__law_take "_law_take" (defScope s__law_take) f cd A outer s H E).nox ρ (defBody s__law_take) ts as__law_take := ⟨_, (qss_cons (qs_if (qt_cmp c_gt (q_ixS (qv 0) q_int) q_int) (qss_cons (qs_setF 2 sc__law_take.nd (q_mod (q_ixS (qv 0) q_int) (qv 1)))
    (qss_cons (qs_setI (q_div (q_ixS (qv 0) q_int) (qv 1)) (qv 0) q_int)
    (qss_one (qs_ret (qv 2))))) qss_nil)
    (qss_cons (qs_setI (q_mod (q_add (q_mul (q_ixS (qv 0) q_int) q_int) q_int) q_int) (qv 0) q_int)
    (qss_one (qs_ret (q_mod (q_div (q_mod (q_mul (q_div (q_ixS (qv 0) q_int) q_int) (q_add (q_mod (q_ixS (qv 0) q_int) q_int) q_int)) q_int) q_int) (qv 1))))))⟩
theorem sc__law_pick : FnScope N__law_pick ["_law_hand_here", "_law_some"] (defScope s__law_pick) := ⟨rfl, rfl, rfl, by decide +kernel, rfl, by decide +kernel, by decide +kernel⟩
theorem walk__law_pick (T : Txt K mg) (c__law_take : Cal P w K mg base "_law_take" ["_law_hand_here", "_law_many"] 1 S__law_take) {f : Addr} {cd : Value} {A : Around} {outer : List Env} {s : Shared} {H : Hp} {E : XK} {ρ : Ent} (hr : Room 1 (A.deeper (envOfC "_law_pick" (defScope s__law_pick) s.heap.objs.size f cd))) (gd : A.guards = some []) :
    ∃ ts, QSs (cxOf CX0 P w K mg base N__law_pick "_law_pick" (defScope s__law_pick) f cd A outer s H E).nox ρ (defBody s__law_pick) ts as__law_pick := ⟨_, (qss_one (qs_ret (q_ixS (qv 1) (q_callC c__law_take (hr.mono (by decide)) gd (qa_cons (qv 0) (qa_cons (q_len T.len (qv 1)) qa_nil))))))⟩
theorem sc__law_gate : FnScope N__law_gate ["_law_hand_here", "_law_many"] (defScope s__law_gate) := ⟨rfl, rfl, rfl, by decide +kernel, rfl, by decide +kernel, by decide +kernel⟩
theorem walk__law_gate (T : Txt K mg) (c__law_pick : Cal P w K mg base "_law_pick" ["_law_hand_here", "_law_some"] 2 S__law_pick) (c__law_take : Cal P w K mg base "_law_take" ["_law_hand_here", "_law_many"] 1 S__law_take) {f : Addr} {cd : Value} {A : Around} {outer : List Env} {s : Shared} {H : Hp} {E : XK} {ρ : Ent} (hr : Room 2 (A.deeper (envOfC "_law_gate" (defScope s__law_gate) s.heap.objs.size f cd))) (gd : A.guards = some []) :
    ∃ ts, QSs (cxOf CX0 P w K mg base N__law_gate "_law_gate" (defScope s__law_gate) f cd A outer s H E).nox ρ (defBody s__law_gate) ts as__law_gate := ⟨_, (qss_cons (qs_setF 2 sc__law_gate.nd (q_callC c__law_pick (hr.mono (by decide)) gd (qa_cons (qv 0) (qa_cons (q_lst (qa_cons q_str (qa_cons q_str (qa_cons q_str (qa_cons q_str (qa_cons q_str (qa_cons q_str (qa_cons q_str (qa_cons q_str qa_nil))))))))) qa_nil))))
    (qss_cons (qs_unp (q_tup (qa_cons (q_callC c__law_take (hr.mono (by decide)) gd (qa_cons (qv 0) (qa_cons (qv 1) qa_nil))) (qa_cons (q_add q_int (q_callC c__law_take (hr.mono (by decide)) gd (qa_cons (qv 0) (qa_cons q_int qa_nil)))) qa_nil))) (qg_tup (qgs_cons (qg_name 3 sc__law_gate.nd) (qgs_cons (qg_name 4 sc__law_gate.nd) qgs_nil))))
    (qss_cons (qs_setLcF 5 (own := [("_law_one", 10)]) sc__law_gate.nd (qi_range1 T.range (qa_cons (qv 1) qa_nil)) (blkOk_by (own := [("_law_one", 10)]) (N := N__law_gate) (sc := defScope s__law_gate) (by decide +kernel)) (fun _ _ _ _ _ => (qg_name 10 sc__law_gate.nd)) (fun _ _ _ _ _ => (qts_one (qt_cmp (c_ne hr.units) (qv 10) (qv 3)))) (fun _ _ _ _ _ => (qv 10)) s)
    (qss_cons (qs_if (qt_cmp c_eqS (qv 2) q_str) (qss_one (qs_ret (q_tup (qa_cons (qv 2) (qa_cons (qv 4) (qa_cons (q_tup qa_nil) (qa_cons (q_neg q_int) qa_nil))))))) qss_nil)
    (qss_cons (qs_if (qt_cmp c_eqS (qv 2) q_str) (qss_cons (qs_if (qt_cmp (c_eqL0 hr.units) (qv 5) (q_lst qa_nil)) (qss_one (qs_ret (q_tup (qa_cons q_str (qa_cons q_int (qa_cons (q_tup qa_nil) (qa_cons (qv 3) qa_nil))))))) qss_nil)
    (qss_cons (qs_setF 6 sc__law_gate.nd (q_sortI T.sorted (q_lst (qa_cons (qv 3) (qa_cons (q_callC c__law_pick (hr.mono (by decide)) gd (qa_cons (qv 0) (qa_cons (qv 5) qa_nil))) qa_nil)))))
    (qss_one (qs_ret (q_tup (qa_cons (qv 2) (qa_cons q_int (qa_cons (q_tup (qa_cons (q_ixS (qv 6) q_int) qa_nil)) (qa_cons (q_ixS (qv 6) q_int) qa_nil))))))))) qss_nil)
    (qss_cons (qs_set 7 sc__law_gate.nd (q_lst qa_nil))
    (qss_cons (qs_for (qi_range1 T.range (qa_cons (q_min2 T.min q_int (q_callC c__law_pick (hr.mono (by decide)) gd (qa_cons (qv 0) (qa_cons (q_lst (qa_cons q_int (qa_cons q_int (qa_cons q_int (qa_cons q_int (qa_cons q_int (qa_cons q_int (qa_cons q_int qa_nil)))))))) qa_nil)))) qa_nil)) (qg_name 8 sc__law_gate.nd) (qss_cons (qs_setLcF 9 (own := [("_law_one", 10)]) sc__law_gate.nd (qi_list (qv 5)) (blkOk_by (own := [("_law_one", 10)]) (N := N__law_gate) (sc := defScope s__law_gate) (by decide +kernel)) (fun _ _ _ _ _ => (qg_name 10 sc__law_gate.nd)) (fun _ _ _ _ _ => (qts_one (qt_cmp c_notIn (qv 10) (qv 7)))) (fun _ _ _ _ _ => (qv 10)) s)
    (qss_one (qs_if (qt_cmp (c_neL0 hr.units) (qv 9) (q_lst qa_nil)) (qss_one (qs_expr (q_append (qv 7) (qa_cons (q_callC c__law_pick (hr.mono (by decide)) gd (qa_cons (qv 0) (qa_cons (qv 9) qa_nil))) qa_nil)))) qss_nil))))
    (qss_one (qs_ret (q_tup (qa_cons (qv 2) (qa_cons (q_ifExp (qt_cmp c_eqS (qv 2) q_str) (qv 4) q_int) (qa_cons (q_tuple T.tuple (q_sortI T.sorted (qv 7))) (qa_cons (qv 3) qa_nil))))))))))))))⟩
theorem sc__law_circuit : FnScope N__law_circuit ["_law_hand_here", "_law_most", "_law_size"] (defScope s__law_circuit) := ⟨rfl, rfl, rfl, by decide +kernel, rfl, by decide +kernel, by decide +kernel⟩
theorem walk__law_circuit (T : Txt K mg) (c__law_take : Cal P w K mg base "_law_take" ["_law_hand_here", "_law_many"] 1 S__law_take) (c__law_gate : Cal P w K mg base "_law_gate" ["_law_hand_here", "_law_many"] 3 S__law_gate) {f : Addr} {cd : Value} {A : Around} {outer : List Env} {s : Shared} {H : Hp} {E : XK} {ρ : Ent} (hr : Room 3 (A.deeper (envOfC "_law_circuit" (defScope s__law_circuit) s.heap.objs.size f cd))) (gd : A.guards = some []) :
    ∃ ts, QSs (cxOf CX0 P w K mg base N__law_circuit "_law_circuit" (defScope s__law_circuit) f cd A outer s H E).nox ρ (defBody s__law_circuit) ts as__law_circuit := ⟨_, (qss_cons (qs_setF 3 sc__law_circuit.nd (q_add q_int (q_callC c__law_take (hr.mono (by decide)) gd (qa_cons (qv 0) (qa_cons (qv 1) qa_nil)))))
    (qss_one (qs_ret (q_tup (qa_cons (qv 3) (qa_cons (q_tuple T.tuple (q_comp (own := [("_law_turn", 4)]) sc__law_circuit.nd (qi_range1 T.range (qa_cons (q_callC c__law_take (hr.mono (by decide)) gd (qa_cons (qv 0) (qa_cons (q_add (qv 2) q_int) qa_nil))) qa_nil)) (blkOk_by (own := [("_law_turn", 4)]) (N := N__law_circuit) (sc := defScope s__law_circuit) (by decide +kernel)) (fun _ _ _ _ _ => (qg_name 4 sc__law_circuit.nd)) (fun _ _ _ _ _ => qts_nil) (fun _ _ _ _ _ => (q_callC c__law_gate (hr.mono (by decide)) gd (qa_cons (qv 0) (qa_cons (qv 3) qa_nil)))) s)) qa_nil))))))⟩
theorem sc__law_odd : FnScope N__law_odd ["_law_hand_here"] (defScope s__law_odd) := ⟨rfl, rfl, rfl, by decide +kernel, rfl, by decide +kernel, by decide +kernel⟩
theorem walk__law_odd (T : Txt K mg) (c__law_pick : Cal P w K mg base "_law_pick" ["_law_hand_here", "_law_some"] 2 S__law_pick) {f : Addr} {cd : Value} {A : Around} {outer : List Env} {s : Shared} {H : Hp} {E : XK} {ρ : Ent} (hr : Room 2 (A.deeper (envOfC "_law_odd" (defScope s__law_odd) s.heap.objs.size f cd))) (gd : A.guards = some []) :
    ∃ ts, QSs (cxOf CX0 P w K mg base N__law_odd "_law_odd" (defScope s__law_odd) f cd A outer s H E).nox ρ (defBody s__law_odd) ts as__law_odd := ⟨_, (qss_cons (qs_set 1 sc__law_odd.nd (q_lst (qa_cons q_non (qa_cons q_bl (qa_cons q_bl (qa_cons q_int (qa_cons q_int (qa_cons (q_neg q_int) (qa_cons q_int (qa_cons q_int (qa_cons (q_powW q_int q_int) (qa_cons q_str (qa_cons q_str (qa_cons q_str (qa_cons q_str (qa_cons (q_tup qa_nil) (qa_cons (q_lst qa_nil) (qa_cons (q_lk q_dnew) (qa_cons (q_tup (qa_cons q_int qa_nil)) (qa_cons (q_tup (qa_cons (q_tup qa_nil) qa_nil)) qa_nil))))))))))))))))))))
    (qss_cons (qs_expr (q_append (qv 1) (qa_cons (q_tup (qa_cons q_int (qa_cons q_int (qa_cons q_int (qa_cons q_int (qa_cons q_int qa_nil)))))) qa_nil)))
    (qss_one (qs_ret (q_callC c__law_pick (hr.mono (by decide)) gd (qa_cons (qv 0) (qa_cons (q_cat (qv 1) (q_lst (qa_cons (q_tup (qa_cons q_int (qa_cons q_int (qa_cons q_int (qa_cons q_int (qa_cons q_int qa_nil)))))) (qa_cons (q_tup (qa_cons q_int (qa_cons q_int (qa_cons q_int (qa_cons q_int (qa_cons q_int qa_nil)))))) (qa_cons (q_tup (qa_cons q_int (qa_cons q_int (qa_cons q_int (qa_cons q_int (qa_cons q_int qa_nil)))))) (qa_cons (q_lst (qa_cons q_str qa_nil)) (qa_cons (q_tup (qa_cons (q_tup (qa_cons q_int qa_nil)) (qa_cons (q_tup (qa_cons q_int (qa_cons q_int (qa_cons q_int (qa_cons q_int (qa_cons q_int qa_nil)))))) qa_nil))) qa_nil))))))) qa_nil)))))))⟩
theorem sc__law_bent : FnScope N__law_bent ["_law_hand_here", "_law_piece"] (defScope s__law_bent) := ⟨rfl, rfl, rfl, by decide +kernel, rfl, by decide +kernel, by decide +kernel⟩
theorem walk__law_bent (T : Txt K mg) (c__law_take : Cal P w K mg base "_law_take" ["_law_hand_here", "_law_many"] 1 S__law_take) (c__law_odd : Cal P w K mg base "_law_odd" ["_law_hand_here"] 3 S__law_odd) (c__law_pick : Cal P w K mg base "_law_pick" ["_law_hand_here", "_law_some"] 2 S__law_pick) {n : Nat} (r__law_bent : Cal P w K mg base "_law_bent" ["_law_hand_here", "_law_piece"] (4 + n) (R__law_bent n)) {f : Addr} {cd : Value} {A : Around} {outer : List Env} {s : Shared} {H : Hp} {E : XK} {ρ : Ent} (hr : Room (4 + n) (A.deeper (envOfC "_law_bent" (defScope s__law_bent) s.heap.objs.size f cd))) (gd : A.guards = some []) :
    ∃ ts, QSs (cxOf CX0 P w K mg base N__law_bent "_law_bent" (defScope s__law_bent) f cd A outer s H E).nox ρ (defBody s__law_bent) ts (as__law_bent n) := ⟨_, (qss_cons (qs_if (QW.qt (qw_and (qt_val (q_isi .tuple T.isinstance T.tuple (qv 1))) (qw_and (qt_cmp (c_ne0 hr.units) (qv 1) (q_tup qa_nil)) (qw_and1 (qt_cmp c_gt (q_callC c__law_take (hr.mono (by omega)) gd (qa_cons (qv 0) (qa_cons q_int qa_nil))) q_int))))) (qss_cons (qs_setF 2 sc__law_bent.nd (q_callC c__law_take (hr.mono (by omega)) gd (qa_cons (qv 0) (qa_cons (q_len T.len (qv 1)) qa_nil))))
    (qss_one (qs_ret (q_catT (q_catT (q_sl (qv 1) qo_none (qo_some (qv 2))) (q_tup (qa_cons (q_callC r__law_bent (hr.mono (by omega)) gd (qa_cons (qv 0) (qa_cons (q_ixS (qv 1) (qv 2)) qa_nil))) qa_nil))) (q_sl (qv 1) (qo_some (q_add (qv 2) q_int)) qo_none))))) qss_nil)
    (qss_cons (qs_setF 3 sc__law_bent.nd (q_callC c__law_odd (hr.mono (by omega)) gd (qa_cons (qv 0) qa_nil)))
    (qss_cons (qs_if (qt_val (q_isi .tuple T.isinstance T.tuple (qv 1))) (qss_cons (qs_setF 2 sc__law_bent.nd (q_callC c__law_take (hr.mono (by omega)) gd (qa_cons (qv 0) (qa_cons (q_add (q_len T.len (qv 1)) q_int) qa_nil))))
    (qss_cons (qs_setF 4 sc__law_bent.nd (q_lst (qa_cons (q_catT (q_sl (qv 1) qo_none (qo_some (qv 2))) (q_sl (qv 1) (qo_some (q_add (qv 2) q_int)) qo_none)) (qa_cons (q_catT (q_catT (q_sl (qv 1) qo_none (qo_some (qv 2))) (q_sl (qv 1) (qo_some (qv 2)) (qo_some (q_add (qv 2) q_int)))) (q_sl (qv 1) (qo_some (qv 2)) qo_none)) (qa_cons (q_list T.list (qv 1)) (qa_cons (qv 3) qa_nil))))))
    (qss_one (qs_ret (q_callC c__law_pick (hr.mono (by omega)) gd (qa_cons (qv 0) (qa_cons (q_cat (qv 4) (q_lst (qa_cons (q_catT (q_catT (q_sl (qv 1) qo_none (qo_some (qv 2))) (q_tup (qa_cons (qv 3) qa_nil))) (q_sl (qv 1) (qo_some (qv 2)) qo_none)) (qa_cons (q_revT (qv 1)) (qa_cons (q_tup (qa_cons (qv 1) qa_nil)) (qa_cons (q_catT (qv 1) (q_tup (qa_cons (qv 3) qa_nil))) qa_nil)))))) qa_nil))))))) qss_nil)
    (qss_cons (qs_if (qt_val (q_isi .str T.isinstance T.str (qv 1))) (qss_one (qs_ret (q_callC c__law_pick (hr.mono (by omega)) gd (qa_cons (qv 0) (qa_cons (q_lst (qa_cons (qv 3) (qa_cons q_str (qa_cons q_str (qa_cons q_str (qa_cons (q_catS (qv 1) q_str) (qa_cons (q_slS (qv 1) qo_none (qo_some (q_neg q_int))) (qa_cons (q_tup (qa_cons (qv 1) qa_nil)) qa_nil)))))))) qa_nil))))) qss_nil)
    (qss_cons (qs_if (qt_not (qt_val (q_isi .int T.isinstance T.int (qv 1)))) (qss_one (qs_ret (qv 3))) qss_nil)
    (qss_one (qs_ret (q_callC c__law_pick (hr.mono (by omega)) gd (qa_cons (qv 0) (qa_cons (q_lst (qa_cons (qv 3) (qa_cons (q_addB (qv 1) q_int) (qa_cons (q_subB (qv 1) q_int) (qa_cons (q_cmp (c_eq hr.units) (qv 1) q_int) (qa_cons (q_strB T.str (qv 1)) (qa_cons (q_subB q_int (qv 1)) (qa_cons (q_tup (qa_cons (qv 1) qa_nil)) qa_nil)))))))) qa_nil))))))))))⟩
theorem sc__law_whole : FnScope N__law_whole ["_law_piece", "_law_low", "_law_high"] (defScope s__law_whole) := ⟨rfl, rfl, rfl, by decide +kernel, rfl, by decide +kernel, by decide +kernel⟩
theorem walk__law_whole (T : Txt K mg) {f : Addr} {cd : Value} {A : Around} {outer : List Env} {s : Shared} {H : Hp} {E : XK} {ρ : Ent} (hr : Room 0 (A.deeper (envOfC "_law_whole" (defScope s__law_whole) s.heap.objs.size f cd))) (gd : A.guards = some []) :
    ∃ ts, QSs (cxOf CX0 P w K mg base N__law_whole "_law_whole" (defScope s__law_whole) f cd A outer s H E).nox ρ (defBody s__law_whole) ts as__law_whole := ⟨_, (qss_one (qs_ret (q_and (q_isi .int T.isinstance T.int (qv 0)) (q_and (q_not (q_isi .bool T.isinstance T.bool (qv 0))) (q_one (q_chain c_le c_le (qv 1) (qv 0) (qv 2)))))))⟩
theorem sc__law_is_gate : FnScope N__law_is_gate ["_law_piece", "_law_many"] (defScope s__law_is_gate) := ⟨rfl, rfl, rfl, by decide +kernel, rfl, by decide +kernel, by decide +kernel⟩
theorem walk__law_is_gate (T : Txt K mg) (c__law_whole : Cal P w K mg base "_law_whole" ["_law_piece", "_law_low", "_law_high"] 1 S__law_whole) {f : Addr} {cd : Value} {A : Around} {outer : List Env} {s : Shared} {H : Hp} {E : XK} {ρ : Ent} (hr : Room 1 (A.deeper (envOfC "_law_is_gate" (defScope s__law_is_gate) s.heap.objs.size f cd))) (gd : A.guards = some []) :
    ∃ ts, QSs (cxOf CX0 P w K mg base N__law_is_gate "_law_is_gate" (defScope s__law_is_gate) f cd A outer s H E).nox ρ (defBody s__law_is_gate) ts as__law_is_gate := ⟨_, (qss_cons (qs_if (QW.qt (qw_or (qt_not (qt_val (q_isi .tuple T.isinstance T.tuple (qv 0)))) (qw_or (qt_cmp (c_ne hr.units) (q_len T.len (qv 0)) q_int) (qw_or1 (qt_not (qt_val (q_isi .str T.isinstance T.str (q_ixS (qv 0) q_int)))))))) (qss_one (qs_ret q_bl)) qss_nil)
    (qss_cons (qs_unp (qv 0) (qg_tup (qgs_cons (qg_name 2 sc__law_is_gate.nd) (qgs_cons (qg_name 3 sc__law_is_gate.nd) (qgs_cons (qg_name 4 sc__law_is_gate.nd) (qgs_cons (qg_name 5 sc__law_is_gate.nd) qgs_nil))))))
    (qss_cons (qs_if (QW.qt (qw_or (qt_not (qt_val (q_isi .tuple T.isinstance T.tuple (qv 4)))) (qw_or1 (qt_cmp c_gt (q_len T.len (qv 4)) q_int)))) (qss_one (qs_ret q_bl)) qss_nil)
    (qss_cons (qs_if (QW.qt (qw_or (qt_not (qt_val (q_all T.all (q_comp (own := [("_law_one", 6)]) sc__law_is_gate.nd (qi_tup (qv 4)) (blkOk_by (own := [("_law_one", 6)]) (N := N__law_is_gate) (sc := defScope s__law_is_gate) (by decide +kernel)) (fun _ _ _ _ _ => (qg_name 6 sc__law_is_gate.nd)) (fun _ _ _ _ _ => qts_nil) (fun _ _ _ _ _ => (q_callC c__law_whole (hr.mono (by decide)) gd (qa_cons (qv 6) (qa_cons q_int (qa_cons (q_sub (qv 1) q_int) qa_nil))))) s)))) (qw_or1 (qt_cmp (c_ne hr.units) (q_list T.list (qv 4)) (q_sortSet T.sorted T.set (qv 4)))))) (qss_one (qs_ret q_bl)) qss_nil)
    (qss_cons (qs_if (qt_cmp c_eqS (qv 2) q_str) (qss_one (qs_ret (q_and (q_callC c__law_whole (hr.mono (by decide)) gd (qa_cons (qv 3) (qa_cons q_int (qa_cons q_int qa_nil)))) (q_and (q_cmp (c_eq0 hr.units) (qv 4) (q_tup qa_nil)) (q_one (q_callC c__law_whole (hr.mono (by decide)) gd (qa_cons (qv 5) (qa_cons (q_neg q_int) (qa_cons (q_neg q_int) qa_nil))))))))) qss_nil)
    (qss_cons (qs_if (QW.qt (qw_or (qt_not (qt_val (q_callC c__law_whole (hr.mono (by decide)) gd (qa_cons (qv 5) (qa_cons q_int (qa_cons (q_sub (qv 1) q_int) qa_nil)))))) (qw_or1 (qt_cmp c_in (qv 5) (qv 4))))) (qss_one (qs_ret q_bl)) qss_nil)
    (qss_cons (qs_if (qt_cmp c_eqS (qv 2) q_str) (qss_one (qs_ret (q_callC c__law_whole (hr.mono (by decide)) gd (qa_cons (qv 3) (qa_cons q_int (qa_cons q_int qa_nil)))))) qss_nil)
    (qss_cons (qs_if (qt_cmp c_eqS (qv 2) q_str) (qss_one (qs_ret (q_and (q_callC c__law_whole (hr.mono (by decide)) gd (qa_cons (qv 3) (qa_cons q_int (qa_cons q_int qa_nil)))) (q_and (q_cmp (c_eq hr.units) (q_len T.len (qv 4)) q_int) (q_one (q_cmp c_lt (q_ixS (qv 4) q_int) (qv 5))))))) qss_nil)
    (qss_one (qs_ret (q_and (q_cmp c_in (qv 2) (q_tup (qa_cons q_str (qa_cons q_str qa_nil)))) (q_one (q_callC c__law_whole (hr.mono (by decide)) gd (qa_cons (qv 3) (qa_cons q_int (qa_cons q_int qa_nil))))))))))))))))⟩
theorem sc__law_is_circuit : FnScope N__law_is_circuit ["_law_piece"] (defScope s__law_is_circuit) := ⟨rfl, rfl, rfl, by decide +kernel, rfl, by decide +kernel, by decide +kernel⟩
theorem walk__law_is_circuit (T : Txt K mg) (c__law_whole : Cal P w K mg base "_law_whole" ["_law_piece", "_law_low", "_law_high"] 1 S__law_whole) (c__law_is_gate : Cal P w K mg base "_law_is_gate" ["_law_piece", "_law_many"] 2 S__law_is_gate) {f : Addr} {cd : Value} {A : Around} {outer : List Env} {s : Shared} {H : Hp} {E : XK} {ρ : Ent} (hr : Room 2 (A.deeper (envOfC "_law_is_circuit" (defScope s__law_is_circuit) s.heap.objs.size f cd))) (gd : A.guards = some []) :
    ∃ ts, QSs (cxOf CX0 P w K mg base N__law_is_circuit "_law_is_circuit" (defScope s__law_is_circuit) f cd A outer s H E).nox ρ (defBody s__law_is_circuit) ts as__law_is_circuit := ⟨_, (qss_cons (qs_if (QW.qt (qw_or (qt_not (qt_val (q_isi .tuple T.isinstance T.tuple (qv 0)))) (qw_or (qt_cmp (c_ne hr.units) (q_len T.len (qv 0)) q_int) (qw_or1 (qt_not (qt_val (q_callC c__law_whole (hr.mono (by decide)) gd (qa_cons (q_ixS (qv 0) q_int) (qa_cons q_int (qa_cons q_int qa_nil)))))))))) (qss_one (qs_ret q_bl)) qss_nil)
    (qss_cons (qs_unp (qv 0) (qg_tup (qgs_cons (qg_name 1 sc__law_is_circuit.nd) (qgs_cons (qg_name 2 sc__law_is_circuit.nd) qgs_nil))))
    (qss_cons (qs_if (QW.qt (qw_or (qt_not (qt_val (q_isi .tuple T.isinstance T.tuple (qv 2)))) (qw_or1 (qt_not (qt_val (q_all T.all (q_comp (own := [("_law_gate_here", 4)]) sc__law_is_circuit.nd (qi_tup (qv 2)) (blkOk_by (own := [("_law_gate_here", 4)]) (N := N__law_is_circuit) (sc := defScope s__law_is_circuit) (by decide +kernel)) (fun _ _ _ _ _ => (qg_name 4 sc__law_is_circuit.nd)) (fun _ _ _ _ _ => qts_nil) (fun _ _ _ _ _ => (q_callC c__law_is_gate (hr.mono (by decide)) gd (qa_cons (qv 4) (qa_cons (qv 1) qa_nil)))) s))))))) (qss_one (qs_ret q_bl)) qss_nil)
    (qss_cons (qs_setLcF 3 (own := [("_law_gate_here", 4)]) sc__law_is_circuit.nd (qi_tup (qv 2)) (blkOk_by (own := [("_law_gate_here", 4)]) (N := N__law_is_circuit) (sc := defScope s__law_is_circuit) (by decide +kernel)) (fun _ _ _ _ _ => (qg_name 4 sc__law_is_circuit.nd)) (fun _ _ _ _ _ => (qts_one (QW.qt (qw_or (qt_cmp c_eqS (q_ixS (qv 4) q_int) q_str) (qw_or1 (qt_cmp c_gt (q_len T.len (q_ixS (qv 4) q_int)) (q_intB T.int (q_cmp c_eqS (q_ixS (qv 4) q_int) q_str)))))))) (fun _ _ _ _ _ => (qv 4)) s)
    (qss_one (qs_ret (q_cmp c_le (q_len T.len (qv 2)) (q_ifExp (qt_cmp (c_neL0 hr.units) (qv 3) (q_lst qa_nil)) q_int q_int))))))))⟩
theorem sc__law_known : FnScope N__law_known [] (defScope s__law_known) := ⟨rfl, rfl, rfl, by decide +kernel, rfl, by decide +kernel, by decide +kernel⟩
theorem walk__law_known (T : Txt K mg) {f : Addr} {cd : Value} {A : Around} {outer : List Env} {s : Shared} {H : Hp} {E : XK} {ρ : Ent} (hr : Room 0 (A.deeper (envOfC "_law_known" (defScope s__law_known) s.heap.objs.size f cd))) (gd : A.guards = some []) :
    ∃ ts, QSs (cxOf CX0 P w K mg base N__law_known "_law_known" (defScope s__law_known) f cd A outer s H E).nox ρ (defBody s__law_known) ts as__law_known := ⟨_, (qss_cons (qs_setF 0 sc__law_known.nd (q_lst (qa_cons (q_tup (qa_cons q_str (qa_cons q_int (qa_cons (q_tup (qa_cons q_int (qa_cons q_int (qa_cons q_int (qa_cons q_int (qa_cons q_int qa_nil)))))) (qa_cons q_int qa_nil))))) (qa_cons (q_tup (qa_cons q_str (qa_cons q_int (qa_cons (q_tup (qa_cons q_int (qa_cons q_int (qa_cons q_int (qa_cons q_int qa_nil))))) (qa_cons q_int qa_nil))))) (qa_cons (q_tup (qa_cons q_str (qa_cons q_int (qa_cons (q_tup (qa_cons q_int (qa_cons q_int qa_nil))) (qa_cons q_int qa_nil))))) (qa_cons (q_tup (qa_cons q_str (qa_cons q_int (qa_cons (q_tup (qa_cons q_int (qa_cons q_int qa_nil))) (qa_cons q_int qa_nil))))) qa_nil))))))
    (qss_cons (qs_setF 0 sc__law_known.nd (q_cat (qv 0) (q_lst (qa_cons (q_tup (qa_cons q_str (qa_cons q_int (qa_cons (q_tup qa_nil) (qa_cons q_int qa_nil))))) (qa_cons (q_tup (qa_cons q_str (qa_cons q_int (qa_cons (q_tup qa_nil) (qa_cons q_int qa_nil))))) (qa_cons (q_tup (qa_cons q_str (qa_cons q_int (qa_cons (q_tup (qa_cons q_int qa_nil)) (qa_cons q_int qa_nil))))) (qa_cons (q_tup (qa_cons q_str (qa_cons q_bl (qa_cons (q_tup qa_nil) (qa_cons q_int qa_nil))))) qa_nil)))))))
    (qss_cons (qs_setF 0 sc__law_known.nd (q_cat (qv 0) (q_lst (qa_cons (q_tup (qa_cons q_str (qa_cons q_int (qa_cons (q_tup qa_nil) (qa_cons q_int qa_nil))))) (qa_cons (q_tup (qa_cons q_str (qa_cons q_int (qa_cons (q_tup qa_nil) (qa_cons (q_neg q_int) qa_nil))))) (qa_cons (q_tup (qa_cons q_str (qa_cons q_int (qa_cons (q_tup qa_nil) (qa_cons (q_neg q_int) qa_nil))))) (qa_cons (q_tup (qa_cons q_str (qa_cons q_int (qa_cons (q_tup (qa_cons q_int qa_nil)) (qa_cons (q_neg q_int) qa_nil))))) qa_nil)))))))
    (qss_cons (qs_setF 0 sc__law_known.nd (q_cat (qv 0) (q_lst (qa_cons (q_tup (qa_cons q_str (qa_cons q_int (qa_cons (q_tup (qa_cons q_int qa_nil)) (qa_cons q_int qa_nil))))) (qa_cons (q_tup (qa_cons q_str (qa_cons q_int (qa_cons (q_tup (qa_cons q_int qa_nil)) (qa_cons q_int qa_nil))))) (qa_cons (q_tup (qa_cons q_str (qa_cons q_int (qa_cons (q_tup qa_nil) (qa_cons q_int qa_nil))))) (qa_cons (q_tup (qa_cons q_str (qa_cons q_int (qa_cons (q_tup (qa_cons q_int (qa_cons q_int qa_nil))) (qa_cons q_int qa_nil))))) qa_nil)))))))
    (qss_cons (qs_setF 0 sc__law_known.nd (q_cat (qv 0) (q_lst (qa_cons (q_tup (qa_cons q_str (qa_cons q_int (qa_cons (q_tup (qa_cons q_int qa_nil)) (qa_cons q_int qa_nil))))) (qa_cons (q_tup (qa_cons q_str (qa_cons q_int (qa_cons (q_tup (qa_cons q_int qa_nil)) (qa_cons q_int qa_nil))))) (qa_cons (q_tup (qa_cons q_str (qa_cons q_int (qa_cons (q_tup (qa_cons q_int qa_nil)) (qa_cons q_int qa_nil))))) (qa_cons (q_tup (qa_cons q_str (qa_cons q_int (qa_cons (q_tup qa_nil) (qa_cons (q_neg q_int) qa_nil))))) qa_nil)))))))
    (qss_cons (qs_setF 0 sc__law_known.nd (q_cat (qv 0) (q_lst (qa_cons (q_tup (qa_cons q_str (qa_cons q_int (qa_cons (q_tup qa_nil) (qa_cons q_bl qa_nil))))) (qa_cons (q_tup (qa_cons q_str (qa_cons q_int (qa_cons (q_tup qa_nil) (qa_cons q_int qa_nil))))) qa_nil)))))
    (qss_one (qs_ret (q_comp (own := [("_law_gate_here", 1)]) sc__law_known.nd (qi_list (qv 0)) (blkOk_by (own := [("_law_gate_here", 1)]) (N := N__law_known) (sc := defScope s__law_known) (by decide +kernel)) (fun _ _ _ _ _ => (qg_name 1 sc__law_known.nd)) (fun _ _ _ _ _ => qts_nil) (fun _ _ _ _ _ => (q_tup (qa_cons q_int (qa_cons (q_tup (qa_cons (qv 1) qa_nil)) qa_nil)))) s)))))))))⟩
theorem sc_law : FnScope N_law ["_law_script"] (defScope s_law) := ⟨rfl, rfl, rfl, by decide +kernel, rfl, by decide +kernel, by decide +kernel⟩
theorem walk_law (T : Txt K mg) (c__law_known : Cal P w K mg base "_law_known" [] 1 S__law_known) (c_is_circuit : Cal P w K mg base "is_circuit" ["thing"] 4 S_is_circuit) (c__law_is_circuit : Cal P w K mg base "_law_is_circuit" ["_law_piece"] 3 S__law_is_circuit) (c__law_hand : Cal P w K mg base "_law_hand" ["_law_script", "_law_k"] 1 S__law_hand) (c__law_circuit : Cal P w K mg base "_law_circuit" ["_law_hand_here", "_law_most", "_law_size"] 4 S__law_circuit) (c__law_odd : Cal P w K mg base "_law_odd" ["_law_hand_here"] 3 S__law_odd) (c__law_bent : Cal P w K mg base "_law_bent" ["_law_hand_here", "_law_piece"] 12 S__law_bent) (c__law_take : Cal P w K mg base "_law_take" ["_law_hand_here", "_law_many"] 1 S__law_take) (p_is_circuit_0 : PCal P w K mg base "is_circuit" ["thing"] 0 ["thing"] [0] 4 S_is_circuit) {f : Addr} {cd : Value} {A : Around} {outer : List Env} {s : Shared} {H : Hp} {E : XK} {ρ : Ent} (hr : Room 12 (A.deeper (envOfC "law" (defScope s_law) s.heap.objs.size f cd))) (gd : A.guards = some []) :
    ∃ ts, QSs (cxOf CX0 P w K mg base N_law "law" (defScope s_law) f cd A outer s H E).nox ρ (defBody s_law) ts as_law := ⟨_, (qss_cons (qs_unp (q_tup (qa_cons (q_tup (qa_cons q_str (qa_cons q_int (qa_cons (q_tup qa_nil) (qa_cons q_int qa_nil))))) (qa_cons (q_tup (qa_cons q_str (qa_cons q_int (qa_cons (q_tup (qa_cons q_int qa_nil)) (qa_cons q_int qa_nil))))) qa_nil))) (qg_tup (qgs_cons (qg_name 1 sc_law.nd) (qgs_cons (qg_name 2 sc_law.nd) qgs_nil))))
    (qss_cons (qs_setF 3 sc_law.nd (q_lst (qa_cons (q_tup (qa_cons q_int (qa_cons (q_repT (q_tup (qa_cons (qv 1) qa_nil)) q_int) qa_nil))) (qa_cons (q_tup (qa_cons q_int (qa_cons (q_repT (q_tup (qa_cons (qv 1) qa_nil)) q_int) qa_nil))) (qa_cons (q_tup (qa_cons q_int (qa_cons (q_repT (q_tup (qa_cons (qv 2) qa_nil)) q_int) qa_nil))) (qa_cons (q_tup (qa_cons q_int (qa_cons (q_repT (q_tup (qa_cons (qv 2) qa_nil)) q_int) qa_nil))) qa_nil))))))
    (qss_cons (qs_setF 3 sc_law.nd (q_cat (qv 3) (q_lst (qa_cons (q_tup (qa_cons q_int (qa_cons (q_catT (q_repT (q_tup (qa_cons (qv 1) qa_nil)) q_int) (q_tup (qa_cons (qv 2) qa_nil))) qa_nil))) (qa_cons (q_tup (qa_cons q_int (qa_cons (q_catT (q_repT (q_tup (qa_cons (qv 1) qa_nil)) q_int) (q_tup (qa_cons (qv 2) qa_nil))) qa_nil))) (qa_cons (q_tup (qa_cons q_int (qa_cons (q_tup qa_nil) qa_nil))) (qa_cons (q_tup (qa_cons q_int (qa_cons (q_tup qa_nil) qa_nil))) (qa_cons (q_tup (qa_cons q_int (qa_cons (q_tup qa_nil) qa_nil))) (qa_cons (q_tup (qa_cons q_int (qa_cons (q_tup qa_nil) qa_nil))) qa_nil)))))))))
    (qss_cons (qs_for (qi_list (q_cat (q_callC0 c__law_known (hr.mono (by decide)) gd) (qv 3))) (qg_name 4 sc_law.nd) (qss_one (qs_if (qt_cmp c_neS (q_repr gd (hu_big hr) T.repr (q_callC c_is_circuit (hr.mono (by decide)) gd (qa_cons (qv 4) qa_nil))) (q_repr gd (hu_big hr) T.repr (q_callC c__law_is_circuit (hr.mono (by decide)) gd (qa_cons (qv 4) qa_nil)))) (qss_one (qs_ret q_bl)) qss_nil)))
    (qss_cons (qs_for (qi_range1 T.range (qa_cons (q_max2 T.max q_int (q_min2 T.min (q_len T.len (qv 0)) q_int)) qa_nil)) (qg_name 5 sc_law.nd) (qss_cons (qs_setF 6 sc_law.nd (q_callC c__law_hand (hr.mono (by decide)) gd (qa_cons (qv 0) (qa_cons (qv 5) qa_nil))))
    (qss_cons (qs_setF 7 sc_law.nd (q_callC c__law_circuit (hr.mono (by decide)) gd (qa_cons (qv 6) (qa_cons q_int (qa_cons q_int qa_nil)))))
    (qss_cons (qs_set 8 sc_law.nd (q_lst (qa_cons (qv 7) (qa_cons (q_ixS (qv 7) q_int) (qa_cons (q_list T.list (qv 7)) (qa_cons (q_callC c__law_odd (hr.mono (by decide)) gd (qa_cons (qv 6) qa_nil)) (qa_cons (q_catT (q_tup (qa_cons (q_sub (q_ixS (qv 7) q_int) q_int) qa_nil)) (q_sl (qv 7) (qo_some q_int) qo_none)) qa_nil)))))))
    (qss_cons (qs_for (qi_range1 T.range (qa_cons q_int qa_nil)) (qg_name 9 sc_law.nd) (qss_cons (qs_setF 10 sc_law.nd (q_callC c__law_bent (hr.mono (by decide)) gd (qa_cons (qv 6) (qa_cons (qv 7) qa_nil))))
    (qss_one (qs_expr (q_append (qv 8) (qa_cons (q_ifExp (QW.qt (qw_and (qt_cmp (c_eq hr.units) (q_callC c__law_take (hr.mono (by decide)) gd (qa_cons (qv 6) (qa_cons q_int qa_nil))) q_int) (qw_and1 (qt_val (q_isi .tuple T.isinstance T.tuple (qv 10)))))) (q_callC c__law_bent (hr.mono (by decide)) gd (qa_cons (qv 6) (qa_cons (qv 10) qa_nil))) (qv 10)) qa_nil))))))
    (qss_one (qs_for (qi_list (qv 8)) (qg_name 4 sc_law.nd) (qss_cons (qs_setF 11 sc_law.nd (q_repr gd (hu_big hr) T.repr (q_callC c__law_is_circuit (hr.mono (by decide)) gd (qa_cons (qv 4) qa_nil))))
    (qss_one (qs_if (QW.qt (qw_or (qt_cmp c_neS (q_repr gd (hu_big hr) T.repr (q_callC c_is_circuit (hr.mono (by decide)) gd (qa_cons (qv 4) qa_nil))) (qv 11)) (qw_or1 (qt_cmp c_neS (q_repr gd (hu_big hr) T.repr (q_callP0 p_is_circuit_0 (hr.mono (by decide)) gd (qk_cons (qv 4) qk_nil))) (qv 11))))) (qss_one (qs_ret q_bl)) qss_nil))))))))))
    (qss_one (qs_ret q_bl)))))))⟩
end
/-! ### the end (printed by gen.py) -/
section
variable {P : Program} {w : World} {K : PySem.W.Frag} {mg : Str → Option Value} {base : Heap}
theorem ok_is_within {f : Addr} {fd : FuncData} (F : Fun K "is_within" "is_within" s_is_within f fd) (T : Txt K mg) : FnG P w K mg base CX0 1 f fd ["thing", "low", "high"] (spA K 3 S_is_within) :=
  fn_ok F sc_is_within ar_is_within (fun _ _ _ _ _ _ _ hr gd => walk_is_within T hr gd) rd_is_within
theorem ok_are_controls {f : Addr} {fd : FuncData} (F : Fun K "are_controls" "are_controls" s_are_controls f fd) (T : Txt K mg) (c_is_within : Cal P w K mg base "is_within" ["thing", "low", "high"] 1 S_is_within) : FnG P w K mg base CX0 2 f fd ["thing", "many"] (spA K 2 S_are_controls) :=
  fn_ok F sc_are_controls ar_are_controls (fun _ _ _ _ _ _ _ hr gd => walk_are_controls T c_is_within hr gd) rd_are_controls
theorem ok_is_gate {f : Addr} {fd : FuncData} (F : Fun K "is_gate" "is_gate" s_is_gate f fd) (T : Txt K mg) (c_is_within : Cal P w K mg base "is_within" ["thing", "low", "high"] 1 S_is_within) (c_are_controls : Cal P w K mg base "are_controls" ["thing", "many"] 2 S_are_controls) : FnG P w K mg base CX0 3 f fd ["thing", "many"] (spA K 2 S_is_gate) :=
  fn_ok F sc_is_gate ar_is_gate (fun _ _ _ _ _ _ _ hr gd => walk_is_gate T c_is_within c_are_controls hr gd) rd_is_gate
theorem ok_is_narrow_gate {f : Addr} {fd : FuncData} (F : Fun K "is_narrow_gate" "is_narrow_gate" s_is_narrow_gate f fd) (T : Txt K mg) : FnG P w K mg base CX0 1 f fd ["gate"] (spA K 1 S_is_narrow_gate) :=
  fn_ok F sc_is_narrow_gate ar_is_narrow_gate (fun _ _ _ _ _ _ _ hr gd => walk_is_narrow_gate T hr gd) rd_is_narrow_gate
theorem ok_is_circuit {f : Addr} {fd : FuncData} (F : Fun K "is_circuit" "is_circuit" s_is_circuit f fd) (T : Txt K mg) (c_is_within : Cal P w K mg base "is_within" ["thing", "low", "high"] 1 S_is_within) (c_is_gate : Cal P w K mg base "is_gate" ["thing", "many"] 3 S_is_gate) (c_is_narrow_gate : Cal P w K mg base "is_narrow_gate" ["gate"] 1 S_is_narrow_gate) : FnG P w K mg base CX0 4 f fd ["thing"] (spA K 1 S_is_circuit) :=
  fn_ok F sc_is_circuit ar_is_circuit (fun _ _ _ _ _ _ _ hr gd => walk_is_circuit T c_is_within c_is_gate c_is_narrow_gate hr gd) rd_is_circuit
theorem ok__law_hand {f : Addr} {fd : FuncData} (F : Fun K "_law_hand" "_law_hand" s__law_hand f fd) (T : Txt K mg) : FnG P w K mg base CX0 1 f fd ["_law_script", "_law_k"] (spA K 2 S__law_hand) :=
  fn_ok F sc__law_hand ar__law_hand (fun _ _ _ _ _ _ _ hr gd => walk__law_hand T hr gd) rd__law_hand
theorem ok__law_take {f : Addr} {fd : FuncData} (F : Fun K "_law_take" "_law_take" s__law_take f fd) (T : Txt K mg) : FnG P w K mg base CX0 1 f fd ["_law_hand_here", "_law_many"] (spA K 2 S__law_take) :=
  fn_ok F sc__law_take ar__law_take (fun _ _ _ _ _ _ _ hr gd => walk__law_take T hr gd) rd__law_take
theorem ok__law_pick {f : Addr} {fd : FuncData} (F : Fun K "_law_pick" "_law_pick" s__law_pick f fd) (T : Txt K mg) (c__law_take : Cal P w K mg base "_law_take" ["_law_hand_here", "_law_many"] 1 S__law_take) : FnG P w K mg base CX0 2 f fd ["_law_hand_here", "_law_some"] (spA K 2 S__law_pick) :=
  fn_ok F sc__law_pick ar__law_pick (fun _ _ _ _ _ _ _ hr gd => walk__law_pick T c__law_take hr gd) rd__law_pick
theorem ok__law_gate {f : Addr} {fd : FuncData} (F : Fun K "_law_gate" "_law_gate" s__law_gate f fd) (T : Txt K mg) (c__law_pick : Cal P w K mg base "_law_pick" ["_law_hand_here", "_law_some"] 2 S__law_pick) (c__law_take : Cal P w K mg base "_law_take" ["_law_hand_here", "_law_many"] 1 S__law_take) : FnG P w K mg base CX0 3 f fd ["_law_hand_here", "_law_many"] (spA K 2 S__law_gate) :=
  fn_ok F sc__law_gate ar__law_gate (fun _ _ _ _ _ _ _ hr gd => walk__law_gate T c__law_pick c__law_take hr gd) rd__law_gate
theorem ok__law_circuit {f : Addr} {fd : FuncData} (F : Fun K "_law_circuit" "_law_circuit" s__law_circuit f fd) (T : Txt K mg) (c__law_take : Cal P w K mg base "_law_take" ["_law_hand_here", "_law_many"] 1 S__law_take) (c__law_gate : Cal P w K mg base "_law_gate" ["_law_hand_here", "_law_many"] 3 S__law_gate) : FnG P w K mg base CX0 4 f fd ["_law_hand_here", "_law_most", "_law_size"] (spA K 3 S__law_circuit) :=
  fn_ok F sc__law_circuit ar__law_circuit (fun _ _ _ _ _ _ _ hr gd => walk__law_circuit T c__law_take c__law_gate hr gd) rd__law_circuit
theorem ok__law_odd {f : Addr} {fd : FuncData} (F : Fun K "_law_odd" "_law_odd" s__law_odd f fd) (T : Txt K mg) (c__law_pick : Cal P w K mg base "_law_pick" ["_law_hand_here", "_law_some"] 2 S__law_pick) : FnG P w K mg base CX0 3 f fd ["_law_hand_here"] (spA K 1 S__law_odd) :=
  fn_ok F sc__law_odd ar__law_odd (fun _ _ _ _ _ _ _ hr gd => walk__law_odd T c__law_pick hr gd) rd__law_odd
theorem ok__law_bent {f : Addr} {fd : FuncData} (F : Fun K "_law_bent" "_law_bent" s__law_bent f fd) (T : Txt K mg) (c__law_take : Cal P w K mg base "_law_take" ["_law_hand_here", "_law_many"] 1 S__law_take) (c__law_odd : Cal P w K mg base "_law_odd" ["_law_hand_here"] 3 S__law_odd) (c__law_pick : Cal P w K mg base "_law_pick" ["_law_hand_here", "_law_some"] 2 S__law_pick) (hk : mg "_law_bent" = some (.ref f)) (kp : PySem.W.keepIn K (.ref f) = true) (hb : Binds K fd ["_law_hand_here", "_law_piece"] []) : ∀ n, FnG P w K mg base CX0 (4 + n) f fd ["_law_hand_here", "_law_piece"] (spA K 2 (R__law_bent n))
  | 0 => fnG_no no__law_bent
  | n + 1 => fn_ok F sc__law_bent (arR__law_bent (n + 1)) (fun _ _ _ _ _ _ _ hr gd => walk__law_bent T c__law_take c__law_odd c__law_pick ⟨_, _, ok__law_bent F T c__law_take c__law_odd c__law_pick hk kp hb n, hk, kp, hb, arR__law_bent n⟩ hr gd) (rd__law_bent n)
theorem ok__law_whole {f : Addr} {fd : FuncData} (F : Fun K "_law_whole" "_law_whole" s__law_whole f fd) (T : Txt K mg) : FnG P w K mg base CX0 1 f fd ["_law_piece", "_law_low", "_law_high"] (spA K 3 S__law_whole) :=
  fn_ok F sc__law_whole ar__law_whole (fun _ _ _ _ _ _ _ hr gd => walk__law_whole T hr gd) rd__law_whole
theorem ok__law_is_gate {f : Addr} {fd : FuncData} (F : Fun K "_law_is_gate" "_law_is_gate" s__law_is_gate f fd) (T : Txt K mg) (c__law_whole : Cal P w K mg base "_law_whole" ["_law_piece", "_law_low", "_law_high"] 1 S__law_whole) : FnG P w K mg base CX0 2 f fd ["_law_piece", "_law_many"] (spA K 2 S__law_is_gate) :=
  fn_ok F sc__law_is_gate ar__law_is_gate (fun _ _ _ _ _ _ _ hr gd => walk__law_is_gate T c__law_whole hr gd) rd__law_is_gate
theorem ok__law_is_circuit {f : Addr} {fd : FuncData} (F : Fun K "_law_is_circuit" "_law_is_circuit" s__law_is_circuit f fd) (T : Txt K mg) (c__law_whole : Cal P w K mg base "_law_whole" ["_law_piece", "_law_low", "_law_high"] 1 S__law_whole) (c__law_is_gate : Cal P w K mg base "_law_is_gate" ["_law_piece", "_law_many"] 2 S__law_is_gate) : FnG P w K mg base CX0 3 f fd ["_law_piece"] (spA K 1 S__law_is_circuit) :=
  fn_ok F sc__law_is_circuit ar__law_is_circuit (fun _ _ _ _ _ _ _ hr gd => walk__law_is_circuit T c__law_whole c__law_is_gate hr gd) rd__law_is_circuit
theorem ok__law_known {f : Addr} {fd : FuncData} (F : Fun K "_law_known" "_law_known" s__law_known f fd) (T : Txt K mg) : FnG P w K mg base CX0 1 f fd [] (spA K 0 S__law_known) :=
  fn_ok F sc__law_known ar__law_known (fun _ _ _ _ _ _ _ hr gd => walk__law_known T hr gd) rd__law_known
theorem ok_law {f : Addr} {fd : FuncData} (F : Fun K "law" "law" s_law f fd) (T : Txt K mg) (c__law_known : Cal P w K mg base "_law_known" [] 1 S__law_known) (c_is_circuit : Cal P w K mg base "is_circuit" ["thing"] 4 S_is_circuit) (c__law_is_circuit : Cal P w K mg base "_law_is_circuit" ["_law_piece"] 3 S__law_is_circuit) (c__law_hand : Cal P w K mg base "_law_hand" ["_law_script", "_law_k"] 1 S__law_hand) (c__law_circuit : Cal P w K mg base "_law_circuit" ["_law_hand_here", "_law_most", "_law_size"] 4 S__law_circuit) (c__law_odd : Cal P w K mg base "_law_odd" ["_law_hand_here"] 3 S__law_odd) (c__law_bent : Cal P w K mg base "_law_bent" ["_law_hand_here", "_law_piece"] 12 S__law_bent) (c__law_take : Cal P w K mg base "_law_take" ["_law_hand_here", "_law_many"] 1 S__law_take) (p_is_circuit_0 : PCal P w K mg base "is_circuit" ["thing"] 0 ["thing"] [0] 4 S_is_circuit) : FnG P w K mg base CX0 13 f fd ["_law_script"] (spA K 1 S_law) :=
  fn_ok F sc_law ar_law (fun _ _ _ _ _ _ _ hr gd => walk_law T c__law_known c_is_circuit c__law_is_circuit c__law_hand c__law_circuit c__law_odd c__law_bent c__law_take p_is_circuit_0 hr gd) rd_law
end
theorem all_mk {l : PySem.W.OpenLaw} {w : World} {K : PySem.W.Frag} {h : Heap} {mg : Str → Option Value} {fa : Addr} (X : K.In h) (G : h.Ns mainGlobals mg) (hfa : mg "law" = some (.ref fa))
    {f0 : Addr} {od0 an0 : Option Addr} {sl0 : Array (Option Value)} {oc0 kV0 dc0 pm0 cd0 ct0 : Value} (a0 : PySem.W.nsIn K mainGlobals "is_within" = some (some (.ref f0))) (l0 : K.lookup f0 = some ⟨oc0, od0, .func (PySem.W.fnOf "is_within" "is_within" (defArgs s_is_within) (defBody s_is_within) (defScope s_is_within) .none kV0 dc0 pm0 an0 cd0 ct0), sl0⟩) (q0 : PySem.W.codeIn K cd0 "is_within" = true) (k0 : PySem.W.keepIn K (.ref f0) = true)
    {f1 : Addr} {od1 an1 : Option Addr} {sl1 : Array (Option Value)} {oc1 kV1 dc1 pm1 cd1 ct1 : Value} (a1 : PySem.W.nsIn K mainGlobals "are_controls" = some (some (.ref f1))) (l1 : K.lookup f1 = some ⟨oc1, od1, .func (PySem.W.fnOf "are_controls" "are_controls" (defArgs s_are_controls) (defBody s_are_controls) (defScope s_are_controls) .none kV1 dc1 pm1 an1 cd1 ct1), sl1⟩) (q1 : PySem.W.codeIn K cd1 "are_controls" = true) (k1 : PySem.W.keepIn K (.ref f1) = true)
    {f2 : Addr} {od2 an2 : Option Addr} {sl2 : Array (Option Value)} {oc2 kV2 dc2 pm2 cd2 ct2 : Value} (a2 : PySem.W.nsIn K mainGlobals "is_gate" = some (some (.ref f2))) (l2 : K.lookup f2 = some ⟨oc2, od2, .func (PySem.W.fnOf "is_gate" "is_gate" (defArgs s_is_gate) (defBody s_is_gate) (defScope s_is_gate) .none kV2 dc2 pm2 an2 cd2 ct2), sl2⟩) (q2 : PySem.W.codeIn K cd2 "is_gate" = true) (k2 : PySem.W.keepIn K (.ref f2) = true)
    {f3 : Addr} {od3 an3 : Option Addr} {sl3 : Array (Option Value)} {oc3 kV3 dc3 pm3 cd3 ct3 : Value} (a3 : PySem.W.nsIn K mainGlobals "is_narrow_gate" = some (some (.ref f3))) (l3 : K.lookup f3 = some ⟨oc3, od3, .func (PySem.W.fnOf "is_narrow_gate" "is_narrow_gate" (defArgs s_is_narrow_gate) (defBody s_is_narrow_gate) (defScope s_is_narrow_gate) .none kV3 dc3 pm3 an3 cd3 ct3), sl3⟩) (q3 : PySem.W.codeIn K cd3 "is_narrow_gate" = true) (k3 : PySem.W.keepIn K (.ref f3) = true)
    {f4 : Addr} {od4 an4 : Option Addr} {sl4 : Array (Option Value)} {oc4 kV4 dc4 pm4 cd4 ct4 : Value} (a4 : PySem.W.nsIn K mainGlobals "is_circuit" = some (some (.ref f4))) (l4 : K.lookup f4 = some ⟨oc4, od4, .func (PySem.W.fnOf "is_circuit" "is_circuit" (defArgs s_is_circuit) (defBody s_is_circuit) (defScope s_is_circuit) .none kV4 dc4 pm4 an4 cd4 ct4), sl4⟩) (q4 : PySem.W.codeIn K cd4 "is_circuit" = true) (k4 : PySem.W.keepIn K (.ref f4) = true)
    {f5 : Addr} {od5 an5 : Option Addr} {sl5 : Array (Option Value)} {oc5 kV5 dc5 pm5 cd5 ct5 : Value} (a5 : PySem.W.nsIn K mainGlobals "_law_hand" = some (some (.ref f5))) (l5 : K.lookup f5 = some ⟨oc5, od5, .func (PySem.W.fnOf "_law_hand" "_law_hand" (defArgs s__law_hand) (defBody s__law_hand) (defScope s__law_hand) .none kV5 dc5 pm5 an5 cd5 ct5), sl5⟩) (q5 : PySem.W.codeIn K cd5 "_law_hand" = true) (k5 : PySem.W.keepIn K (.ref f5) = true)
    {f6 : Addr} {od6 an6 : Option Addr} {sl6 : Array (Option Value)} {oc6 kV6 dc6 pm6 cd6 ct6 : Value} (a6 : PySem.W.nsIn K mainGlobals "_law_take" = some (some (.ref f6))) (l6 : K.lookup f6 = some ⟨oc6, od6, .func (PySem.W.fnOf "_law_take" "_law_take" (defArgs s__law_take) (defBody s__law_take) (defScope s__law_take) .none kV6 dc6 pm6 an6 cd6 ct6), sl6⟩) (q6 : PySem.W.codeIn K cd6 "_law_take" = true) (k6 : PySem.W.keepIn K (.ref f6) = true)
    {f7 : Addr} {od7 an7 : Option Addr} {sl7 : Array (Option Value)} {oc7 kV7 dc7 pm7 cd7 ct7 : Value} (a7 : PySem.W.nsIn K mainGlobals "_law_pick" = some (some (.ref f7))) (l7 : K.lookup f7 = some ⟨oc7, od7, .func (PySem.W.fnOf "_law_pick" "_law_pick" (defArgs s__law_pick) (defBody s__law_pick) (defScope s__law_pick) .none kV7 dc7 pm7 an7 cd7 ct7), sl7⟩) (q7 : PySem.W.codeIn K cd7 "_law_pick" = true) (k7 : PySem.W.keepIn K (.ref f7) = true)
    {f8 : Addr} {od8 an8 : Option Addr} {sl8 : Array (Option Value)} {oc8 kV8 dc8 pm8 cd8 ct8 : Value} (a8 : PySem.W.nsIn K mainGlobals "_law_gate" = some (some (.ref f8))) (l8 : K.lookup f8 = some ⟨oc8, od8, .func (PySem.W.fnOf "_law_gate" "_law_gate" (defArgs s__law_gate) (defBody s__law_gate) (defScope s__law_gate) .none kV8 dc8 pm8 an8 cd8 ct8), sl8⟩) (q8 : PySem.W.codeIn K cd8 "_law_gate" = true) (k8 : PySem.W.keepIn K (.ref f8) = true)
    {f9 : Addr} {od9 an9 : Option Addr} {sl9 : Array (Option Value)} {oc9 kV9 dc9 pm9 cd9 ct9 : Value} (a9 : PySem.W.nsIn K mainGlobals "_law_circuit" = some (some (.ref f9))) (l9 : K.lookup f9 = some ⟨oc9, od9, .func (PySem.W.fnOf "_law_circuit" "_law_circuit" (defArgs s__law_circuit) (defBody s__law_circuit) (defScope s__law_circuit) .none kV9 dc9 pm9 an9 cd9 ct9), sl9⟩) (q9 : PySem.W.codeIn K cd9 "_law_circuit" = true) (k9 : PySem.W.keepIn K (.ref f9) = true)
    {f10 : Addr} {od10 an10 : Option Addr} {sl10 : Array (Option Value)} {oc10 kV10 dc10 pm10 cd10 ct10 : Value} (a10 : PySem.W.nsIn K mainGlobals "_law_odd" = some (some (.ref f10))) (l10 : K.lookup f10 = some ⟨oc10, od10, .func (PySem.W.fnOf "_law_odd" "_law_odd" (defArgs s__law_odd) (defBody s__law_odd) (defScope s__law_odd) .none kV10 dc10 pm10 an10 cd10 ct10), sl10⟩) (q10 : PySem.W.codeIn K cd10 "_law_odd" = true) (k10 : PySem.W.keepIn K (.ref f10) = true)
    {f11 : Addr} {od11 an11 : Option Addr} {sl11 : Array (Option Value)} {oc11 kV11 dc11 pm11 cd11 ct11 : Value} (a11 : PySem.W.nsIn K mainGlobals "_law_bent" = some (some (.ref f11))) (l11 : K.lookup f11 = some ⟨oc11, od11, .func (PySem.W.fnOf "_law_bent" "_law_bent" (defArgs s__law_bent) (defBody s__law_bent) (defScope s__law_bent) .none kV11 dc11 pm11 an11 cd11 ct11), sl11⟩) (q11 : PySem.W.codeIn K cd11 "_law_bent" = true) (k11 : PySem.W.keepIn K (.ref f11) = true)
    {f12 : Addr} {od12 an12 : Option Addr} {sl12 : Array (Option Value)} {oc12 kV12 dc12 pm12 cd12 ct12 : Value} (a12 : PySem.W.nsIn K mainGlobals "_law_whole" = some (some (.ref f12))) (l12 : K.lookup f12 = some ⟨oc12, od12, .func (PySem.W.fnOf "_law_whole" "_law_whole" (defArgs s__law_whole) (defBody s__law_whole) (defScope s__law_whole) .none kV12 dc12 pm12 an12 cd12 ct12), sl12⟩) (q12 : PySem.W.codeIn K cd12 "_law_whole" = true) (k12 : PySem.W.keepIn K (.ref f12) = true)
    {f13 : Addr} {od13 an13 : Option Addr} {sl13 : Array (Option Value)} {oc13 kV13 dc13 pm13 cd13 ct13 : Value} (a13 : PySem.W.nsIn K mainGlobals "_law_is_gate" = some (some (.ref f13))) (l13 : K.lookup f13 = some ⟨oc13, od13, .func (PySem.W.fnOf "_law_is_gate" "_law_is_gate" (defArgs s__law_is_gate) (defBody s__law_is_gate) (defScope s__law_is_gate) .none kV13 dc13 pm13 an13 cd13 ct13), sl13⟩) (q13 : PySem.W.codeIn K cd13 "_law_is_gate" = true) (k13 : PySem.W.keepIn K (.ref f13) = true)
    {f14 : Addr} {od14 an14 : Option Addr} {sl14 : Array (Option Value)} {oc14 kV14 dc14 pm14 cd14 ct14 : Value} (a14 : PySem.W.nsIn K mainGlobals "_law_is_circuit" = some (some (.ref f14))) (l14 : K.lookup f14 = some ⟨oc14, od14, .func (PySem.W.fnOf "_law_is_circuit" "_law_is_circuit" (defArgs s__law_is_circuit) (defBody s__law_is_circuit) (defScope s__law_is_circuit) .none kV14 dc14 pm14 an14 cd14 ct14), sl14⟩) (q14 : PySem.W.codeIn K cd14 "_law_is_circuit" = true) (k14 : PySem.W.keepIn K (.ref f14) = true)
    {f15 : Addr} {od15 an15 : Option Addr} {sl15 : Array (Option Value)} {oc15 kV15 dc15 pm15 cd15 ct15 : Value} (a15 : PySem.W.nsIn K mainGlobals "_law_known" = some (some (.ref f15))) (l15 : K.lookup f15 = some ⟨oc15, od15, .func (PySem.W.fnOf "_law_known" "_law_known" (defArgs s__law_known) (defBody s__law_known) (defScope s__law_known) .none kV15 dc15 pm15 an15 cd15 ct15), sl15⟩) (q15 : PySem.W.codeIn K cd15 "_law_known" = true) (k15 : PySem.W.keepIn K (.ref f15) = true)
    {f16 : Addr} {od16 an16 : Option Addr} {sl16 : Array (Option Value)} {oc16 kV16 dc16 pm16 cd16 ct16 : Value} (a16 : PySem.W.nsIn K mainGlobals "law" = some (some (.ref f16))) (l16 : K.lookup f16 = some ⟨oc16, od16, .func (PySem.W.fnOf "law" "law" (defArgs s_law) (defBody s_law) (defScope s_law) .none kV16 dc16 pm16 an16 cd16 ct16), sl16⟩) (q16 : PySem.W.codeIn K cd16 "law" = true) (k16 : PySem.W.keepIn K (.ref f16) = true)
    (z_isinstance : PySem.W.nsIn K mainGlobals "isinstance" = some none)
    (z_int : PySem.W.nsIn K mainGlobals "int" = some none)
    (z_bool : PySem.W.nsIn K mainGlobals "bool" = some none)
    (z_tuple : PySem.W.nsIn K mainGlobals "tuple" = some none)
    (z_len : PySem.W.nsIn K mainGlobals "len" = some none)
    (z_all : PySem.W.nsIn K mainGlobals "all" = some none)
    (z_zip : PySem.W.nsIn K mainGlobals "zip" = some none)
    (z_str : PySem.W.nsIn K mainGlobals "str" = some none)
    (z_abs : PySem.W.nsIn K mainGlobals "abs" = some none)
    (z_range : PySem.W.nsIn K mainGlobals "range" = some none)
    (z_sorted : PySem.W.nsIn K mainGlobals "sorted" = some none)
    (z_min : PySem.W.nsIn K mainGlobals "min" = some none)
    (z_list : PySem.W.nsIn K mainGlobals "list" = some none)
    (z_set : PySem.W.nsIn K mainGlobals "set" = some none)
    (z_repr : PySem.W.nsIn K mainGlobals "repr" = some none)
    (z_max : PySem.W.nsIn K mainGlobals "max" = some none)
    {t_MOST_CONTROLS : Tok} (g_MOST_CONTROLS : PySem.W.nsIn K mainGlobals "MOST_CONTROLS" = some (some (.int (4) t_MOST_CONTROLS)))
    {t_EIGHTS : Tok} (g_EIGHTS : PySem.W.nsIn K mainGlobals "EIGHTS" = some (some (.int (8) t_EIGHTS)))
    {t_PHASE_WIRE : Tok} (g_PHASE_WIRE : PySem.W.nsIn K mainGlobals "PHASE_WIRE" = some (some (.int (-1) t_PHASE_WIRE)))
    {t_MOST_WIRES : Tok} (g_MOST_WIRES : PySem.W.nsIn K mainGlobals "MOST_WIRES" = some (some (.int (8) t_MOST_WIRES)))
    {t_MOST_NARROW : Tok} (g_MOST_NARROW : PySem.W.nsIn K mainGlobals "MOST_NARROW" = some (some (.int (3000) t_MOST_NARROW)))
    {t_MOST_GATES : Tok} (g_MOST_GATES : PySem.W.nsIn K mainGlobals "MOST_GATES" = some (some (.int (600) t_MOST_GATES))) :
    ∃ fd : FuncData, (∀ (s : Shared) (v : Value), BindsTo s fd ⟨[v], []⟩ [("_law_script", v)]) ∧ ∀ base : Heap, K.In base → base.Ns mainGlobals mg → FnG l.prog w K mg base CX0 13 fa fd ["_law_script"] (spLaw K SLawP) := by
  have T : Txt K mg := ⟨PySem.W.mg_none_of X G z_isinstance, PySem.W.mg_none_of X G z_int, PySem.W.mg_none_of X G z_bool, PySem.W.mg_none_of X G z_tuple, PySem.W.mg_none_of X G z_len, PySem.W.mg_none_of X G z_all, PySem.W.mg_none_of X G z_zip, PySem.W.mg_none_of X G z_str, PySem.W.mg_none_of X G z_abs, PySem.W.mg_none_of X G z_range, PySem.W.mg_none_of X G z_sorted, PySem.W.mg_none_of X G z_min, PySem.W.mg_none_of X G z_list, PySem.W.mg_none_of X G z_set, PySem.W.mg_none_of X G z_repr, PySem.W.mg_none_of X G z_max, glob_int (PySem.W.mg_of X G g_MOST_CONTROLS), glob_int (PySem.W.mg_of X G g_EIGHTS), glob_int (PySem.W.mg_of X G g_PHASE_WIRE), glob_int (PySem.W.mg_of X G g_MOST_WIRES), glob_int (PySem.W.mg_of X G g_MOST_NARROW), glob_int (PySem.W.mg_of X G g_MOST_GATES)⟩
  have e := hfa.symm.trans (PySem.W.mg_of X G a16)
  cases e
  refine ⟨_, fun s v => BindsTo.of_eq (fd := PySem.W.fnOf "law" "law" (defArgs s_law) (defBody s_law) (defScope s_law) .none kV16 dc16 pm16 an16 cd16 ct16) rfl, fun base _ _ => ?_⟩
  have F_is_within := fun_mk (st := s_is_within) l0 q0 k0
  have c_is_within : Cal l.prog w K mg base "is_within" ["thing", "low", "high"] 1 S_is_within := ⟨_, _, ok_is_within F_is_within T, PySem.W.mg_of X G a0, k0, F_is_within.binds fun _ _ _ _ _ _ us hl => match us, hl with | [_, _, _], _ => rfl, ar_is_within⟩
  have F_are_controls := fun_mk (st := s_are_controls) l1 q1 k1
  have c_are_controls : Cal l.prog w K mg base "are_controls" ["thing", "many"] 2 S_are_controls := ⟨_, _, ok_are_controls F_are_controls T c_is_within, PySem.W.mg_of X G a1, k1, F_are_controls.binds fun _ _ _ _ _ _ us hl => match us, hl with | [_, _], _ => rfl, ar_are_controls⟩
  have F_is_gate := fun_mk (st := s_is_gate) l2 q2 k2
  have c_is_gate : Cal l.prog w K mg base "is_gate" ["thing", "many"] 3 S_is_gate := ⟨_, _, ok_is_gate F_is_gate T c_is_within c_are_controls, PySem.W.mg_of X G a2, k2, F_is_gate.binds fun _ _ _ _ _ _ us hl => match us, hl with | [_, _], _ => rfl, ar_is_gate⟩
  have F_is_narrow_gate := fun_mk (st := s_is_narrow_gate) l3 q3 k3
  have c_is_narrow_gate : Cal l.prog w K mg base "is_narrow_gate" ["gate"] 1 S_is_narrow_gate := ⟨_, _, ok_is_narrow_gate F_is_narrow_gate T, PySem.W.mg_of X G a3, k3, F_is_narrow_gate.binds fun _ _ _ _ _ _ us hl => match us, hl with | [_], _ => rfl, ar_is_narrow_gate⟩
  have F_is_circuit := fun_mk (st := s_is_circuit) l4 q4 k4
  have c_is_circuit : Cal l.prog w K mg base "is_circuit" ["thing"] 4 S_is_circuit := ⟨_, _, ok_is_circuit F_is_circuit T c_is_within c_is_gate c_is_narrow_gate, PySem.W.mg_of X G a4, k4, F_is_circuit.binds fun _ _ _ _ _ _ us hl => match us, hl with | [_], _ => rfl, ar_is_circuit⟩
  have p_is_circuit_0 : PCal l.prog w K mg base "is_circuit" ["thing"] 0 ["thing"] [0] 4 S_is_circuit := ⟨_, _, ok_is_circuit F_is_circuit T c_is_within c_is_gate c_is_narrow_gate, PySem.W.mg_of X G a4, k4, (fun s us ws _ h1 h2 => .of_eq (match us, ws, h1, h2 with | [], [_], _, _ => rfl)), ar_is_circuit⟩
  have F__law_hand := fun_mk (st := s__law_hand) l5 q5 k5
  have c__law_hand : Cal l.prog w K mg base "_law_hand" ["_law_script", "_law_k"] 1 S__law_hand := ⟨_, _, ok__law_hand F__law_hand T, PySem.W.mg_of X G a5, k5, F__law_hand.binds fun _ _ _ _ _ _ us hl => match us, hl with | [_, _], _ => rfl, ar__law_hand⟩
  have F__law_take := fun_mk (st := s__law_take) l6 q6 k6
  have c__law_take : Cal l.prog w K mg base "_law_take" ["_law_hand_here", "_law_many"] 1 S__law_take := ⟨_, _, ok__law_take F__law_take T, PySem.W.mg_of X G a6, k6, F__law_take.binds fun _ _ _ _ _ _ us hl => match us, hl with | [_, _], _ => rfl, ar__law_take⟩
  have F__law_pick := fun_mk (st := s__law_pick) l7 q7 k7
  have c__law_pick : Cal l.prog w K mg base "_law_pick" ["_law_hand_here", "_law_some"] 2 S__law_pick := ⟨_, _, ok__law_pick F__law_pick T c__law_take, PySem.W.mg_of X G a7, k7, F__law_pick.binds fun _ _ _ _ _ _ us hl => match us, hl with | [_, _], _ => rfl, ar__law_pick⟩
  have F__law_gate := fun_mk (st := s__law_gate) l8 q8 k8
  have c__law_gate : Cal l.prog w K mg base "_law_gate" ["_law_hand_here", "_law_many"] 3 S__law_gate := ⟨_, _, ok__law_gate F__law_gate T c__law_pick c__law_take, PySem.W.mg_of X G a8, k8, F__law_gate.binds fun _ _ _ _ _ _ us hl => match us, hl with | [_, _], _ => rfl, ar__law_gate⟩
  have F__law_circuit := fun_mk (st := s__law_circuit) l9 q9 k9
  have c__law_circuit : Cal l.prog w K mg base "_law_circuit" ["_law_hand_here", "_law_most", "_law_size"] 4 S__law_circuit := ⟨_, _, ok__law_circuit F__law_circuit T c__law_take c__law_gate, PySem.W.mg_of X G a9, k9, F__law_circuit.binds fun _ _ _ _ _ _ us hl => match us, hl with | [_, _, _], _ => rfl, ar__law_circuit⟩
  have F__law_odd := fun_mk (st := s__law_odd) l10 q10 k10
  have c__law_odd : Cal l.prog w K mg base "_law_odd" ["_law_hand_here"] 3 S__law_odd := ⟨_, _, ok__law_odd F__law_odd T c__law_pick, PySem.W.mg_of X G a10, k10, F__law_odd.binds fun _ _ _ _ _ _ us hl => match us, hl with | [_], _ => rfl, ar__law_odd⟩
  have F__law_bent := fun_mk (st := s__law_bent) l11 q11 k11
  have b__law_bent : Binds K _ ["_law_hand_here", "_law_piece"] [] := F__law_bent.binds fun _ _ _ _ _ _ us hl => match us, hl with | [_, _], _ => rfl
  have c__law_bent : Cal l.prog w K mg base "_law_bent" ["_law_hand_here", "_law_piece"] 12 S__law_bent := ⟨_, _, ok__law_bent F__law_bent T c__law_take c__law_odd c__law_pick (PySem.W.mg_of X G a11) k11 b__law_bent 8, PySem.W.mg_of X G a11, k11, b__law_bent, ar__law_bent⟩
  have F__law_whole := fun_mk (st := s__law_whole) l12 q12 k12
  have c__law_whole : Cal l.prog w K mg base "_law_whole" ["_law_piece", "_law_low", "_law_high"] 1 S__law_whole := ⟨_, _, ok__law_whole F__law_whole T, PySem.W.mg_of X G a12, k12, F__law_whole.binds fun _ _ _ _ _ _ us hl => match us, hl with | [_, _, _], _ => rfl, ar__law_whole⟩
  have F__law_is_gate := fun_mk (st := s__law_is_gate) l13 q13 k13
  have c__law_is_gate : Cal l.prog w K mg base "_law_is_gate" ["_law_piece", "_law_many"] 2 S__law_is_gate := ⟨_, _, ok__law_is_gate F__law_is_gate T c__law_whole, PySem.W.mg_of X G a13, k13, F__law_is_gate.binds fun _ _ _ _ _ _ us hl => match us, hl with | [_, _], _ => rfl, ar__law_is_gate⟩
  have F__law_is_circuit := fun_mk (st := s__law_is_circuit) l14 q14 k14
  have c__law_is_circuit : Cal l.prog w K mg base "_law_is_circuit" ["_law_piece"] 3 S__law_is_circuit := ⟨_, _, ok__law_is_circuit F__law_is_circuit T c__law_whole c__law_is_gate, PySem.W.mg_of X G a14, k14, F__law_is_circuit.binds fun _ _ _ _ _ _ us hl => match us, hl with | [_], _ => rfl, ar__law_is_circuit⟩
  have F__law_known := fun_mk (st := s__law_known) l15 q15 k15
  have c__law_known : Cal l.prog w K mg base "_law_known" [] 1 S__law_known := ⟨_, _, ok__law_known F__law_known T, PySem.W.mg_of X G a15, k15, F__law_known.binds fun _ _ _ _ _ _ us hl => match us, hl with | [], _ => rfl, ar__law_known⟩
  exact law_fn (ok_law (fun_mk (st := s_law) l16 q16 k16) T c__law_known c_is_circuit c__law_is_circuit c__law_hand c__law_circuit c__law_odd c__law_bent c__law_take p_is_circuit_0)
theorem walk {l : PySem.W.OpenLaw} {q : Program} {loose : List Str} {XP : (Str → Option Value) → Heap → Prop} {YP : World → Heap → Prop} {d : DefRec} {K : Params → PySem.W.Frag} (hn : l.most = some 63) (hdf : d.params.defaults = [])
    (hY : ∀ (w : World) (h : Heap), YP w h → (K w.params).In h)
    (F : ∀ (w : World) (mg : Str → Option Value) (fa : Addr) (h : Heap), (K w.params).In h → h.Ns mainGlobals mg → mg d.name = some (.ref fa) → ∃ fd : FuncData, (∀ (s : Shared) (u : Value), BindsTo s fd ⟨[u], []⟩ [("_law_script", u)]) ∧
      ∀ base : Heap, (K w.params).In base → base.Ns mainGlobals mg → FnG l.prog w (K w.params) mg base CX0 13 fa fd ["_law_script"] (spLaw (K w.params) SLawP)) : PySem.W.WalkO q loose XP YP l.row.toRowW d [] (fun f vs => PySem.call f vs) :=
  law_walk (n := 63) (k := 13) hn (by decide) hdf ⟨rfl, by decide, by decide⟩ hY F sLawP_all
end Law
open PySem PySem.W PyProof.Rows in
set_option maxRecDepth 100000 in
set_option maxHeartbeats 0 in
theorem PySem.Challenge.cw_gatewaves_k09_circuits_of_anything_holds : PySem.Challenge.rw_gatewaves_k09_circuits_of_anything.Holds := by
  w_on; o_law; k_head; (case hw => w_witness2)
  k_fill
  refine Law.walk (l := PySem.Challenge.rw_gatewaves_k09_circuits_of_anything) rfl rfl (fun w h Y => PySem.W.kIn_of Y) ?F
  case F =>
    intro w mg fa h KX G hmg
    refine' Law.all_mk KX G hmg ?a0 ?l0 ?q0 ?k0 ?a1 ?l1 ?q1 ?k1 ?a2 ?l2 ?q2 ?k2 ?a3 ?l3 ?q3 ?k3 ?a4 ?l4 ?q4 ?k4 ?a5 ?l5 ?q5 ?k5 ?a6 ?l6 ?q6 ?k6 ?a7 ?l7 ?q7 ?k7 ?a8 ?l8 ?q8 ?k8 ?a9 ?l9 ?q9 ?k9 ?a10 ?l10 ?q10 ?k10 ?a11 ?l11 ?q11 ?k11 ?a12 ?l12 ?q12 ?k12 ?a13 ?l13 ?q13 ?k13 ?a14 ?l14 ?q14 ?k14 ?a15 ?l15 ?q15 ?k15 ?a16 ?l16 ?q16 ?k16 ?z_isinstance ?z_int ?z_bool ?z_tuple ?z_len ?z_all ?z_zip ?z_str ?z_abs ?z_range ?z_sorted ?z_min ?z_list ?z_set ?z_repr ?z_max ?g_MOST_CONTROLS ?g_EIGHTS ?g_PHASE_WIRE ?g_MOST_WIRES ?g_MOST_NARROW ?g_MOST_GATES
    (case a0 => k_is)
    (case l0 => k_is)
    (case q0 => k_is)
    (case k0 => k_is)
    (case a1 => k_is)
    (case l1 => k_is)
    (case q1 => k_is)
    (case k1 => k_is)
    (case a2 => k_is)
    (case l2 => k_is)
    (case q2 => k_is)
    (case k2 => k_is)
    (case a3 => k_is)
    (case l3 => k_is)
    (case q3 => k_is)
    (case k3 => k_is)
    (case a4 => k_is)
    (case l4 => k_is)
    (case q4 => k_is)
    (case k4 => k_is)
    (case a5 => k_is)
    (case l5 => k_is)
    (case q5 => k_is)
    (case k5 => k_is)
    (case a6 => k_is)
    (case l6 => k_is)
    (case q6 => k_is)
    (case k6 => k_is)
    (case a7 => k_is)
    (case l7 => k_is)
    (case q7 => k_is)
    (case k7 => k_is)
    (case a8 => k_is)
    (case l8 => k_is)
    (case q8 => k_is)
    (case k8 => k_is)
    (case a9 => k_is)
    (case l9 => k_is)
    (case q9 => k_is)
    (case k9 => k_is)
    (case a10 => k_is)
    (case l10 => k_is)
    (case q10 => k_is)
    (case k10 => k_is)
    (case a11 => k_is)
    (case l11 => k_is)
    (case q11 => k_is)
    (case k11 => k_is)
    (case a12 => k_is)
    (case l12 => k_is)
    (case q12 => k_is)
    (case k12 => k_is)
    (case a13 => k_is)
    (case l13 => k_is)
    (case q13 => k_is)
    (case k13 => k_is)
    (case a14 => k_is)
    (case l14 => k_is)
    (case q14 => k_is)
    (case k14 => k_is)
    (case a15 => k_is)
    (case l15 => k_is)
    (case q15 => k_is)
    (case k15 => k_is)
    (case a16 => k_is)
    (case l16 => k_is)
    (case q16 => k_is)
    (case k16 => k_is)
    (case z_isinstance => k_is)
    (case z_int => k_is)
    (case z_bool => k_is)
    (case z_tuple => k_is)
    (case z_len => k_is)
    (case z_all => k_is)
    (case z_zip => k_is)
    (case z_str => k_is)
    (case z_abs => k_is)
    (case z_range => k_is)
    (case z_sorted => k_is)
    (case z_min => k_is)
    (case z_list => k_is)
    (case z_set => k_is)
    (case z_repr => k_is)
    (case z_max => k_is)
    (case g_MOST_CONTROLS => k_is)
    (case g_EIGHTS => k_is)
    (case g_PHASE_WIRE => k_is)
    (case g_MOST_WIRES => k_is)
    (case g_MOST_NARROW => k_is)
    (case g_MOST_GATES => k_is)
