import PyProof.Rows.All
import Wide.All
import OpenK.AllK
import Wide.FinOn
import HandS.ForMost
import HandS.Walk
import HandS.Style
import HandS.Flow
import HandS.Wide
import HandS.Zip
import HandS.More
import HandS.Rev
import HandS.Flt
import HandS.TupAny
import HandS.SortInts
import HandS.EndBits
import PyProof.ReprLen
import PySem.Challenge.RW_gatewaves_k04_which_share_is_less
set_option Elab.async false
set_option linter.all false
set_option maxRecDepth 100000
set_option maxHeartbeats 8000000
namespace Gw
open PySem L2

/-! ### heaps that grow -/
def Ex (H H' : Hp) : Prop := ∀ a o, H a = some o → H' a = some o
theorem Ex.refl (H : Hp) : Ex H H := fun _ _ h => h
theorem Ex.trans {H H1 H2 : Hp} (a : Ex H H1) (b : Ex H1 H2) : Ex H H2 := fun x o h => b x o (a x o h)
theorem Ex.new {H : Hp} {p : Addr} {o : HO} (h : H p = none) : Ex H (upd H p o) := fun a u e => by
  rw [upd_ne (ne_of_none e h)]; exact e
theorem Ex.none {H H' : Hp} {p : Addr} (e : Ex H H') (h : H' p = none) : H p = none := by
  cases q : H p with
  | none => rfl
  | some o => rw [e p o q] at h; cases h
theorem ex_rd {H H' : Hp} {a : Addr} {u : HO} (e : Ex H H') (h : Rd H a u) : Rd H' a u := by
  rcases h with h | ⟨o, h⟩
  · exact .inl (e _ _ h)
  · exact .inr ⟨o, e _ _ h⟩
theorem ex_l {K : PySem.W.Frag} {H H' : Hp} {a : Addr} {xs : List V} (e : Ex H H') (h : SqL K H a xs) : SqL K H' a xs := by
  rcases h with h | h
  · exact .inl (ex_rd e h)
  · exact .inr h
theorem ex_t {K : PySem.W.Frag} {H H' : Hp} {a : Addr} {xs : List V} (e : Ex H H') (h : SqT K H a xs) : SqT K H' a xs := by
  rcases h with h | h
  · exact .inl (ex_rd e h)
  · exact .inr h

/-! ### abstract data -/
inductive D where
  | non | bl (b : Bool) | int (i : Int) | str (x : Str)
  | tup (ds : List D) | lst (ds : List D) | scr (ds : List D) | ref (a : Addr)

mutual
def Rep (K : PySem.W.Frag) (G : Hp) : D → V → Prop
  | .non, v => v = .non
  | .bl b, v => v = .bl b
  | .int i, v => v = .int i
  | .str x, v => v = .str x
  | .ref a, v => v = .ref a
  | .tup ds, v => ∃ a xs, v = .ref a ∧ SqT K G a xs ∧ RepL K G ds xs
  | .lst ds, v => ∃ a xs, v = .ref a ∧ G a = some (.lst xs) ∧ RepL K G ds xs
  | .scr ds, v => ∃ a xs, v = .ref a ∧ SqL K G a xs ∧ RepL K G ds xs
def RepL (K : PySem.W.Frag) (G : Hp) : List D → List V → Prop
  | [], vs => vs = []
  | d :: ds, vs => ∃ x r, vs = x :: r ∧ Rep K G d x ∧ RepL K G ds r
end
section
variable {K : PySem.W.Frag} {G G' H H' : Hp}
theorem rep_tup {ds : List D} {v : V} : Rep K G (.tup ds) v ↔ ∃ a xs, v = .ref a ∧ SqT K G a xs ∧ RepL K G ds xs := by rw [Rep]
theorem rep_lst {ds : List D} {v : V} : Rep K G (.lst ds) v ↔ ∃ a xs, v = .ref a ∧ G a = some (.lst xs) ∧ RepL K G ds xs := by rw [Rep]
theorem rep_scr {ds : List D} {v : V} : Rep K G (.scr ds) v ↔ ∃ a xs, v = .ref a ∧ SqL K G a xs ∧ RepL K G ds xs := by rw [Rep]
theorem repL_cons {d : D} {ds : List D} {vs : List V} : RepL K G (d :: ds) vs ↔ ∃ x r, vs = x :: r ∧ Rep K G d x ∧ RepL K G ds r := by rw [RepL]
theorem repL_nil {vs : List V} : RepL K G [] vs ↔ vs = [] := by rw [RepL]
mutual
theorem Rep.mono (e : Ex G G') : ∀ {d : D} {v : V}, Rep K G d v → Rep K G' d v
  | .non, _, h => by rw [Rep] at *; exact h
  | .bl _, _, h => by rw [Rep] at *; exact h
  | .int _, _, h => by rw [Rep] at *; exact h
  | .str _, _, h => by rw [Rep] at *; exact h
  | .ref _, _, h => by rw [Rep] at *; exact h
  | .tup _, _, h => by
    obtain ⟨a, xs, e1, h1, h2⟩ := rep_tup.mp h
    exact rep_tup.mpr ⟨a, xs, e1, ex_t e h1, RepL.mono e h2⟩
  | .lst _, _, h => by
    obtain ⟨a, xs, e1, h1, h2⟩ := rep_lst.mp h
    exact rep_lst.mpr ⟨a, xs, e1, e _ _ h1, RepL.mono e h2⟩
  | .scr _, _, h => by
    obtain ⟨a, xs, e1, h1, h2⟩ := rep_scr.mp h
    exact rep_scr.mpr ⟨a, xs, e1, ex_l e h1, RepL.mono e h2⟩
theorem RepL.mono (e : Ex G G') : ∀ {ds : List D} {vs : List V}, RepL K G ds vs → RepL K G' ds vs
  | [], _, h => by rw [RepL] at *; exact h
  | d :: ds, _, h => by
    obtain ⟨x, r, e1, h1, h2⟩ := repL_cons.mp h
    exact repL_cons.mpr ⟨x, r, e1, Rep.mono e h1, RepL.mono e h2⟩
end
theorem RepL.length : ∀ {ds : List D} {vs : List V}, RepL K G ds vs → vs.length = ds.length
  | [], _, h => by rw [repL_nil.mp h]; rfl
  | d :: ds, _, h => by
    obtain ⟨x, r, rfl, h1, h2⟩ := repL_cons.mp h
    rw [List.length_cons, List.length_cons, RepL.length h2]
theorem RepL.get : ∀ {ds : List D} {vs : List V} {i : Nat} {d : D}, RepL K G ds vs → ds[i]? = some d → ∃ v, vs[i]? = some v ∧ Rep K G d v
  | [], _, i, d, h, e => by simp at e
  | d0 :: ds, _, 0, d, h, e => by
    obtain ⟨x, r, rfl, h1, h2⟩ := repL_cons.mp h
    simp at e; subst e; exact ⟨x, rfl, h1⟩
  | d0 :: ds, _, i + 1, d, h, e => by
    obtain ⟨x, r, rfl, h1, h2⟩ := repL_cons.mp h
    simpa using RepL.get (i := i) h2 (by simpa using e)
theorem RepL.getV {ds : List D} {vs : List V} {i : Nat} {v : V} (h : RepL K G ds vs) (e : vs[i]? = some v) : ∃ d, ds[i]? = some d ∧ Rep K G d v := by
  have hl : i < ds.length := by rw [← h.length]; exact (List.getElem?_eq_some_iff.mp e).1
  obtain ⟨v', e', r⟩ := h.get (List.getElem?_eq_getElem hl)
  rw [e] at e'; cases e'
  exact ⟨_, List.getElem?_eq_getElem hl, r⟩
theorem RepL.append : ∀ {ds es : List D} {vs ws : List V}, RepL K G ds vs → RepL K G es ws → RepL K G (ds ++ es) (vs ++ ws)
  | [], _, _, _, h, h' => by rw [repL_nil.mp h]; exact h'
  | d :: ds, es, _, ws, h, h' => by
    obtain ⟨x, r, rfl, h1, h2⟩ := repL_cons.mp h
    exact repL_cons.mpr ⟨x, r ++ ws, rfl, h1, RepL.append h2 h'⟩
theorem RepL.one {d : D} {v : V} (h : Rep K G d v) : RepL K G [d] [v] := repL_cons.mpr ⟨v, [], rfl, h, repL_nil.mpr rfl⟩
theorem RepL.of_get : ∀ {ds : List D} {vs : List V}, vs.length = ds.length → (∀ (i : Nat) (d : D) (v : V), ds[i]? = some d → vs[i]? = some v → Rep K G d v) → RepL K G ds vs
  | [], vs, hl, _ => repL_nil.mpr (List.length_eq_zero_iff.mp hl)
  | d :: ds, [], hl, _ => by simp at hl
  | d :: ds, v :: vs, hl, h => repL_cons.mpr ⟨v, vs, rfl, h 0 d v rfl rfl, RepL.of_get (by simpa using hl) fun i d' v' a b => h (i + 1) d' v' (by simpa using a) (by simpa using b)⟩
theorem RepL.drop {ds : List D} {vs : List V} (n : Nat) (h : RepL K G ds vs) : RepL K G (ds.drop n) (vs.drop n) := by
  refine .of_get (by rw [List.length_drop, List.length_drop, h.length]) fun i d v a b => ?_
  rw [List.getElem?_drop] at a b
  obtain ⟨v', e, r⟩ := h.get a
  rw [b] at e; cases e; exact r
theorem RepL.take {ds : List D} {vs : List V} (n : Nat) (h : RepL K G ds vs) : RepL K G (ds.take n) (vs.take n) := by
  refine .of_get (by rw [List.length_take, List.length_take, h.length]) fun i d v a b => ?_
  rw [List.getElem?_take] at a b
  split at a
  · rename_i hi
    rw [if_pos hi] at b
    obtain ⟨v', e, r⟩ := h.get a
    rw [b] at e; cases e; exact r
  · cases a
theorem RepL.set {ds : List D} {vs : List V} {d : D} {v : V} (n : Nat) (h : RepL K G ds vs) (r : Rep K G d v) : RepL K G (ds.set n d) (vs.set n v) := by
  refine .of_get (by rw [List.length_set, List.length_set, h.length]) fun i d' v' a b => ?_
  rw [List.getElem?_set] at a b
  by_cases hi : n = i
  · rw [if_pos hi] at a b
    split at a
    · rename_i hn
      rw [if_pos (by rw [h.length]; exact hn)] at b
      cases a; cases b; exact r
    · cases a
  · rw [if_neg hi] at a b
    obtain ⟨w, e, q⟩ := h.get a
    rw [b] at e; cases e; exact q
theorem RepL.reverse {ds : List D} {vs : List V} (h : RepL K G ds vs) : RepL K G ds.reverse vs.reverse := by
  refine .of_get (by rw [List.length_reverse, List.length_reverse, h.length]) fun i d v a b => ?_
  have hi : i < ds.length := by simpa using (List.getElem?_eq_some_iff.mp a).1
  rw [List.getElem?_reverse hi] at a
  rw [List.getElem?_reverse (by rw [h.length]; exact hi), h.length] at b
  obtain ⟨w, e, q⟩ := h.get a
  rw [b] at e; cases e; exact q
theorem repL_map_int {ns : List Int} {vs : List V} : RepL K G (ns.map D.int) vs ↔ vs = ns.map V.int := by
  induction ns generalizing vs with
  | nil => exact repL_nil
  | cons n ns ih =>
    rw [List.map_cons, repL_cons]
    constructor
    · rintro ⟨x, r, rfl, h1, h2⟩
      rw [ih.mp h2, show x = V.int n by rw [Rep] at h1; exact h1]; rfl
    · rintro rfl
      exact ⟨_, _, rfl, by rw [Rep], ih.mpr rfl⟩
theorem repL_map_bl {bs : List Bool} {vs : List V} : RepL K G (bs.map D.bl) vs ↔ vs = bs.map V.bl := by
  induction bs generalizing vs with
  | nil => exact repL_nil
  | cons n ns ih =>
    rw [List.map_cons, repL_cons]
    constructor
    · rintro ⟨x, r, rfl, h1, h2⟩
      rw [ih.mp h2, show x = V.bl n by rw [Rep] at h1; exact h1]; rfl
    · rintro rfl
      exact ⟨_, _, rfl, by rw [Rep], ih.mpr rfl⟩
end

/-! ### cells, slots, the state -/
inductive Cell where
  | lst (ds : List D)
inductive Slot where
  | non | dat (d : D) | own (c : Cell)
abbrev Mem := List (Addr × Cell)
abbrev Sl := List Slot
inductive Ret where
  | dat (d : D) | tmp (c : Cell) | var (i : Nat)
def CellOk (K : PySem.W.Frag) (G : Hp) : Cell → HO → Prop
  | .lst ds, o => ∃ vs, o = .lst vs ∧ RepL K G ds vs
def Cel (K : PySem.W.Frag) (H G : Hp) (a : Addr) (c : Cell) : Prop := G a = none ∧ ∃ o, H a = some o ∧ CellOk K G c o
def dom (M : Mem) : List Addr := M.map (·.1)
theorem CellOk.mono {K : PySem.W.Frag} {G G' : Hp} {c : Cell} {o : HO} (e : Ex G G') (h : CellOk K G c o) : CellOk K G' c o := by
  cases c with
  | lst ds => obtain ⟨vs, e1, h1⟩ := h; exact ⟨vs, e1, h1.mono e⟩

structure Ent where
  H : Hp
  G : Hp
  A : List Addr
structure Stp (B : Ent) (H G : Hp) (M : Mem) : Prop where
  g : Ex B.G G
  fr : ∀ a o, B.H a = some o → a ∉ B.A → H a = some o
  gn : ∀ a o, G a = some o → B.G a = some o ∨ B.H a = none
  mn : ∀ a ∈ dom M, a ∈ B.A ∨ B.H a = none
  nn : ∀ a, H a = none → B.H a = none
def owned (σ : St) (Γ : Sl) (a : Addr) : Prop := ∃ (i : Nat) (c : Cell), Γ[i]? = some (Slot.own c) ∧ σ[i]? = some (some (V.ref a))
structure Ok (K : PySem.W.Frag) (B : Ent) (σ : St) (H G : Hp) (Γ : Sl) (M : Mem) : Prop where
  st : Stp B H G M
  ex : Ex G H
  nd : (dom M).Nodup
  ms : ∀ a c, (a, c) ∈ M → Cel K H G a c
  dat : ∀ (i : Nat) (d : D), Γ[i]? = some (.dat d) → ∃ v, σ[i]? = some (some v) ∧ Rep K G d v
  own : ∀ (i : Nat) (c : Cell), Γ[i]? = some (.own c) → ∃ p, σ[i]? = some (some (.ref p)) ∧ B.H p = none ∧ p ∉ dom M ∧ Cel K H G p c
  dis : ∀ (i j : Nat) (ci cj : Cell) (p : Addr), Γ[i]? = some (.own ci) → Γ[j]? = some (.own cj) → σ[i]? = some (some (.ref p)) → σ[j]? = some (some (.ref p)) → i = j
  len : Γ.length = σ.length
/-- what an expression leaves -/
structure Es (σ : St) (H G : Hp) (Γ : Sl) (M : Mem) (H' G' : Hp) (Γ' : Sl) (M' : Mem) : Prop where
  g : Ex G G'
  tmp : ∀ a o, H a = some o → G a = none → a ∉ dom M → ¬ owned σ Γ a → H' a = some o ∧ G' a = none ∧ a ∉ dom M' ∧ ¬ owned σ Γ' a
  nn : ∀ a, H' a = none → H a = none
def RepR (K : PySem.W.Frag) (B : Ent) (σ : St) (H0 H G : Hp) (Γ : Sl) (M : Mem) : Ret → V → Prop
  | .dat d, v => Rep K G d v
  | .tmp c, v => ∃ p, v = .ref p ∧ H0 p = none ∧ B.H p = none ∧ Cel K H G p c ∧ p ∉ dom M ∧ ¬ owned σ Γ p
  | .var i, v => σ[i]? = some (some v)
section
variable {K : PySem.W.Frag} {B : Ent} {σ : St} {H G H1 G1 H2 G2 H0 : Hp} {Γ Γ1 Γ2 : Sl} {M M1 M2 : Mem}
theorem Es.refl : Es σ H G Γ M H G Γ M := ⟨Ex.refl G, fun a o h g m n => ⟨h, g, m, n⟩, fun _ h => h⟩
theorem Es.trans (a : Es σ H G Γ M H1 G1 Γ1 M1) (b : Es σ H1 G1 Γ1 M1 H2 G2 Γ2 M2) : Es σ H G Γ M H2 G2 Γ2 M2 :=
  ⟨a.g.trans b.g, fun x o h g m n => let ⟨h', g', m', n'⟩ := a.tmp x o h g m n; b.tmp x o h' g' m' n', fun x h => a.nn x (b.nn x h)⟩
theorem RepR.old {r : Ret} {v : V} {H0' : Hp} (h : RepR K B σ H0 H G Γ M r v) (e : ∀ a, H0 a = none → H0' a = none) : RepR K B σ H0' H G Γ M r v := by
  cases r with
  | dat d => exact h
  | tmp c => obtain ⟨p, e1, h0, r⟩ := h; exact ⟨p, e1, e p h0, r⟩
  | var i => exact h
theorem RepR.es {r : Ret} {v : V} (h : RepR K B σ H0 H G Γ M r v) (e : Es σ H G Γ M H1 G1 Γ1 M1) : RepR K B σ H0 H1 G1 Γ1 M1 r v := by
  cases r with
  | dat d => exact Rep.mono e.g h
  | tmp c =>
    obtain ⟨p, e1, h0, hb, ⟨hg, o, ho, hc⟩, hm, hn⟩ := h
    obtain ⟨a1, a2, a3, a4⟩ := e.tmp p o ho hg hm hn
    exact ⟨p, e1, h0, hb, ⟨a2, o, a1, hc.mono e.g⟩, a3, a4⟩
  | var i => exact h
/-- a new object of frozen data -/
theorem Ok.new {p : Addr} {o : HO} (k : Ok K B σ H G Γ M) (hp : H p = none) : Ok K B σ (upd H p o) (upd G p o) Γ M ∧ Es σ H G Γ M (upd H p o) (upd G p o) Γ M := by
  have gp : G p = none := k.ex.none hp
  have eG : Ex G (upd G p o) := Ex.new gp
  have eH : Ex H (upd H p o) := Ex.new hp
  have cel : ∀ a c, Cel K H G a c → Cel K (upd H p o) (upd G p o) a c := fun a c ⟨h1, u, h2, h3⟩ =>
    have ne : a ≠ p := ne_of_none h2 hp
    ⟨by rw [upd_ne ne]; exact h1, u, eH _ _ h2, h3.mono eG⟩
  refine ⟨⟨⟨k.st.g.trans eG, fun a u h n => eH _ _ (k.st.fr a u h n), fun a u h => ?_, k.st.mn, fun a h => k.st.nn a (eH.none h)⟩, fun a u h => ?_, k.nd, fun a c h => cel a c (k.ms a c h), fun i d h => ?_, fun i c h => ?_, k.dis, k.len⟩, eG, fun a u h g m n => ?_, fun _ h => eH.none h⟩
  · by_cases e : a = p
    · subst e; exact .inr (k.st.nn _ hp)
    · rw [upd_ne e] at h; exact k.st.gn a u h
  · by_cases e : a = p
    · subst e; rw [upd_same] at h ⊢; exact h
    · rw [upd_ne e] at h ⊢; exact k.ex a u h
  · obtain ⟨v, h1, h2⟩ := k.dat i d h
    exact ⟨v, h1, h2.mono eG⟩
  · obtain ⟨q, h1, h2, h3, h4⟩ := k.own i c h
    exact ⟨q, h1, h2, h3, cel q c h4⟩
  · have ne : a ≠ p := ne_of_none h hp
    exact ⟨eH _ _ h, by rw [upd_ne ne]; exact g, m, n⟩
/-- a new object that nobody holds -/
theorem Ok.tmp {p : Addr} {o : HO} (k : Ok K B σ H G Γ M) (hp : H p = none) : Ok K B σ (upd H p o) G Γ M ∧ Es σ H G Γ M (upd H p o) G Γ M ∧ p ∉ dom M ∧ ¬ owned σ Γ p ∧ B.H p = none ∧ G p = none := by
  have gp : G p = none := k.ex.none hp
  have eH : Ex H (upd H p o) := Ex.new hp
  have cel : ∀ a c, Cel K H G a c → Cel K (upd H p o) G a c := fun a c ⟨h1, u, h2, h3⟩ => ⟨h1, u, eH _ _ h2, h3⟩
  have nm : p ∉ dom M := fun hm => by
    obtain ⟨⟨a, c⟩, h1, h2⟩ := List.mem_map.mp hm
    obtain ⟨_, u, h3, _⟩ := k.ms a c h1
    simp at h2; subst h2; rw [hp] at h3; cases h3
  have no : ¬ owned σ Γ p := fun ⟨i, c, h1, h2⟩ => by
    obtain ⟨q, h3, _, _, _, u, h4, _⟩ := k.own i c h1
    rw [h2] at h3; cases h3; rw [hp] at h4; cases h4
  exact ⟨⟨⟨k.st.g, fun a u h n => eH _ _ (k.st.fr a u h n), k.st.gn, k.st.mn, fun a h => k.st.nn a (eH.none h)⟩, k.ex.trans eH, k.nd, fun a c h => cel a c (k.ms a c h), k.dat, fun i c h => let ⟨q, h1, h2, h3, h4⟩ := k.own i c h; ⟨q, h1, h2, h3, cel q c h4⟩, k.dis, k.len⟩,
    ⟨Ex.refl G, fun a u h g m n => ⟨eH _ _ h, g, m, n⟩, fun _ h => eH.none h⟩, nm, no, k.st.nn _ hp, gp⟩
/-- a thing that nobody holds is frozen -/
theorem Ok.freeze {p : Addr} {o : HO} (k : Ok K B σ H G Γ M) (hp : H p = some o) (hb : B.H p = none) (hm : p ∉ dom M) (hn : ¬ owned σ Γ p) (hg : G p = none) :
    Ok K B σ H (upd G p o) Γ M ∧ Ex G (upd G p o) := by
  have eG : Ex G (upd G p o) := Ex.new hg
  have cel : ∀ a c, a ≠ p → Cel K H G a c → Cel K H (upd G p o) a c := fun a c ne ⟨h1, u, h2, h3⟩ => ⟨by rw [upd_ne ne]; exact h1, u, h2, h3.mono eG⟩
  refine ⟨⟨⟨k.st.g.trans eG, k.st.fr, fun a u h => ?_, k.st.mn, k.st.nn⟩, fun a u h => ?_, k.nd, fun a c h => cel a c (fun e => hm (e ▸ List.mem_map.mpr ⟨_, h, rfl⟩)) (k.ms a c h), fun i d h => ?_, fun i c h => ?_, k.dis, k.len⟩, eG⟩
  · by_cases e : a = p
    · subst e; exact .inr hb
    · rw [upd_ne e] at h; exact k.st.gn a u h
  · by_cases e : a = p
    · subst e; rw [upd_same] at h; cases h; exact hp
    · rw [upd_ne e] at h; exact k.ex a u h
  · obtain ⟨v, h1, h2⟩ := k.dat i d h
    exact ⟨v, h1, h2.mono eG⟩
  · obtain ⟨q, h1, h2, h3, h4⟩ := k.own i c h
    exact ⟨q, h1, h2, h3, cel q c (fun e => hn ⟨i, c, h, e ▸ h1⟩) h4⟩
theorem getElem?_setS {l : Sl} {i j : Nat} {s t : Slot} (h : (l.set i s)[j]? = some t) : (j = i ∧ t = s) ∨ (j ≠ i ∧ l[j]? = some t) := by
  rw [List.getElem?_set] at h
  by_cases e : i = j
  · rw [if_pos e] at h
    split at h
    · cases h; exact .inl ⟨e.symm, rfl⟩
    · cases h
  · rw [if_neg e] at h; exact .inr ⟨fun q => e q.symm, h⟩
/-- an own slot is frozen -/
theorem Ok.frzSlot {i : Nat} {ds : List D} (k : Ok K B σ H G Γ M) (hi : Γ[i]? = some (.own (.lst ds))) :
    ∃ G' v, Ok K B σ H G' (Γ.set i (.dat (.lst ds))) M ∧ Es σ H G Γ M H G' (Γ.set i (.dat (.lst ds))) M ∧ σ[i]? = some (some v) ∧ Rep K G' (.lst ds) v := by
  obtain ⟨p, s1, hb, hm, hg, o, ho, vs, rfl, hr⟩ := k.own i _ hi
  have no : ¬ owned σ (Γ.set i .non) p := fun ⟨j, c, h1, h2⟩ => by
    rcases getElem?_setS h1 with ⟨_, e⟩ | ⟨ne, e⟩
    · cases e
    · exact ne (k.dis j i _ _ p e hi h2 s1)
  have k0 : Ok K B σ H G (Γ.set i .non) M := ⟨k.st, k.ex, k.nd, k.ms, fun j d h => by
      rcases getElem?_setS h with ⟨_, e⟩ | ⟨_, e⟩
      · cases e
      · exact k.dat j d e, fun j c h => by
      rcases getElem?_setS h with ⟨_, e⟩ | ⟨_, e⟩
      · cases e
      · exact k.own j c e, fun j l c c' q h h' a b => by
      rcases getElem?_setS h with ⟨_, e⟩ | ⟨_, e⟩
      · cases e
      rcases getElem?_setS h' with ⟨_, e'⟩ | ⟨_, e'⟩
      · cases e'
      exact k.dis j l c c' q e e' a b, by rw [List.length_set]; exact k.len⟩
  obtain ⟨k1, eG⟩ := k0.freeze ho hb hm no hg
  have rp : Rep K (upd G p (.lst vs)) (.lst ds) (.ref p) := rep_lst.mpr ⟨p, vs, rfl, upd_same, hr.mono eG⟩
  refine ⟨_, _, ⟨k1.st, k1.ex, k1.nd, k1.ms, fun j d h => ?_, fun j c h => ?_, fun j l c c' q h h' a b => ?_, by rw [List.length_set]; exact k.len⟩, ⟨eG, fun a u h g m n => ?_, fun _ h => h⟩, s1, rp⟩
  · rcases getElem?_setS h with ⟨e1, e⟩ | ⟨ne, e⟩
    · cases e; subst e1; exact ⟨_, s1, rp⟩
    · exact k1.dat j d (by rw [List.getElem?_set_ne (fun q => ne q.symm)]; exact e)
  · rcases getElem?_setS h with ⟨_, e⟩ | ⟨ne, e⟩
    · cases e
    · exact k1.own j c (by rw [List.getElem?_set_ne (fun q => ne q.symm)]; exact e)
  · rcases getElem?_setS h with ⟨_, e⟩ | ⟨_, e⟩
    · cases e
    rcases getElem?_setS h' with ⟨_, e'⟩ | ⟨_, e'⟩
    · cases e'
    exact k.dis j l c c' q e e' a b
  · have ne : a ≠ p := fun e => n ⟨i, _, hi, e ▸ s1⟩
    refine ⟨h, by rw [upd_ne ne]; exact g, m, fun ⟨j, c, h1, h2⟩ => n ?_⟩
    rcases getElem?_setS h1 with ⟨_, e⟩ | ⟨_, e⟩
    · cases e
    · exact ⟨j, c, e, h2⟩
end
end Gw

namespace Gw
open PySem L2

abbrev AE := Sl → Mem → (Ret → Sl → Mem → Prop) → Prop
abbrev AT := Sl → Mem → (Bool → Sl → Mem → Prop) → Prop
abbrev AA := Sl → Mem → (List D → Sl → Mem → Prop) → Prop
abbrev AOp := Ret → Ret → Sl → Mem → (Ret → Sl → Mem → Prop) → Prop
abbrev AUn := Ret → Sl → Mem → (Ret → Sl → Mem → Prop) → Prop
structure AEnds where
  nx : Sl → Mem → Prop
  rt : Ret → Sl → Mem → Prop
  bk : Sl → Mem → Prop
  ct : Sl → Mem → Prop
abbrev AS := AEnds → Sl → Mem → Prop

section
variable (K : PySem.W.Frag)
def Kont (B : Ent) (σ : St) (H G : Hp) (Γ : Sl) (M : Mem) (Q : Ret → Sl → Mem → Prop) (R : VK) : Prop :=
  ∀ v H' G' Γ' M' r, Ok K B σ H' G' Γ' M' → Es σ H G Γ M H' G' Γ' M' → RepR K B σ H H' G' Γ' M' r v → Q r Γ' M' → R v H'
def RdE (te : TE) (ae : AE) : Prop := ∀ B σ H G Γ M Q R, Ok K B σ H G Γ M → ae Γ M Q → Kont K B σ H G Γ M Q R → te σ H R
def RdT (tt : TT) (at' : AT) : Prop := ∀ B σ H G Γ M (Q : Bool → Sl → Mem → Prop) (R : Bool → Hp → Prop), Ok K B σ H G Γ M → at' Γ M Q →
  (∀ b H' G' Γ' M', Ok K B σ H' G' Γ' M' → Es σ H G Γ M H' G' Γ' M' → Q b Γ' M' → R b H') → tt σ H R
def RdA (ta : TA) (aa : AA) : Prop := ∀ B σ H G Γ M (Q : List D → Sl → Mem → Prop) (R : List V → Hp → Prop), Ok K B σ H G Γ M → aa Γ M Q →
  (∀ vs H' G' Γ' M' ds, Ok K B σ H' G' Γ' M' → Es σ H G Γ M H' G' Γ' M' → RepL K G' ds vs → Q ds Γ' M' → R vs H') → ta σ H R
def RdO (r : R2) (ao : AOp) : Prop := ∀ B σ H H1 H2 G Γ M rx ry x y Q R, Ok K B σ H G Γ M → RepR K B σ H1 H G Γ M rx x → RepR K B σ H2 H G Γ M ry y → ao rx ry Γ M Q → Kont K B σ H G Γ M Q R → r x y H R
/-- a call with one value -/
def RdU (r : List V → Hp → VK → Prop) (au : AUn) : Prop := ∀ B σ H H1 G Γ M rx x Q R, Ok K B σ H G Γ M → RepR K B σ H1 H G Γ M rx x → au rx Γ M Q → Kont K B σ H G Γ M Q R → r [x] H R
def RdU2 (r : List V → Hp → VK → Prop) (ao : AOp) : Prop := ∀ B σ H H1 H2 G Γ M rx ry x y Q R, Ok K B σ H G Γ M → RepR K B σ H1 H G Γ M rx x → RepR K B σ H2 H G Γ M ry y → ao rx ry Γ M Q → Kont K B σ H G Γ M Q R → r [x, y] H R
def RdV (r : V → Hp → VK → Prop) (au : AUn) : Prop := ∀ B σ H H1 G Γ M rx x Q R, Ok K B σ H G Γ M → RepR K B σ H1 H G Γ M rx x → au rx Γ M Q → Kont K B σ H G Γ M Q R → r x H R
end
structure QE (X : Cx) (e : Expr) (te : TE) (ae : AE) : Prop where
  pe : PE X e te
  rd : RdE X.K te ae
structure QT (X : Cx) (e : Expr) (tt : TT) (at' : AT) : Prop where
  pe : PT X e tt
  rd : RdT X.K tt at'
structure QW (X : Cx) (e : Expr) (tt : TT) (at' : AT) : Prop where
  pe : PW X e tt
  rd : RdT X.K tt at'
structure QA (X : Cx) (es : List Expr) (ta : TA) (aa : AA) : Prop where
  pe : PA X es ta
  rd : RdA X.K ta aa

section
variable {X : Cx} {a b c : Expr} {ta tb tc te : TE} {aa ab ac ae : AE} {pos : Pos} {K : PySem.W.Frag} {B : Ent} {σ : St} {H G H1 G1 H2 G2 : Hp} {Γ Γ1 Γ2 : Sl} {M M1 M2 : Mem}
theorem Kont.es {Q : Ret → Sl → Mem → Prop} {R : VK} (k : Kont K B σ H G Γ M Q R) (e : Es σ H G Γ M H1 G1 Γ1 M1) : Kont K B σ H1 G1 Γ1 M1 Q R :=
  fun v H' G' Γ' M' r o e' rr q => k v H' G' Γ' M' r o (e.trans e') (rr.old fun p h => e.nn p h) q

/-! ### names, constants -/
def aVar (i : Nat) (Γ : Sl) (M : Mem) (Q : Ret → Sl → Mem → Prop) : Prop := match Γ[i]? with
  | some (.dat d) => Q (.dat d) Γ M
  | some (.own _) => Q (.var i) Γ M
  | _ => False
def aC (d : D) (Γ : Sl) (M : Mem) (Q : Ret → Sl → Mem → Prop) : Prop := Q (.dat d) Γ M
theorem rd_var (i : Nat) : RdE K (tVar i) (aVar i) := by
  intro B σ H G Γ M Q R k h q
  unfold aVar at h
  split at h
  · rename_i d e
    obtain ⟨v, h1, h2⟩ := k.dat i d e
    exact ⟨v, h1, q v H G Γ M (.dat d) k .refl h2 h⟩
  · rename_i c e
    obtain ⟨p, h1, _⟩ := k.own i c e
    exact ⟨_, h1, q _ H G Γ M (.var i) k .refl h1 h⟩
  · exact h.elim
theorem rd_c {v : V} {d : D} (h : ∀ G, Rep K G d v) : RdE K (tC v) (aC d) := fun _ _ H G Γ M _ _ k h' q => q v H G Γ M (.dat d) k .refl (h G) h'
theorem qv (i : Nat) {x : Str} {pos : Pos} (hN : X.N[i]? = some x := by rfl) (hv : Vis X.env.scope x := by first | exact Or.inl rfl | exact Or.inr (Or.inl rfl) | exact Or.inr (Or.inr rfl)) (hd : (x == ("__debug__" : Str)) = false := by decide)
    (hcd : (x == ("__classdict__" : Str)) = false := by decide) : QE X (.Name x pos) (tVar i) (aVar i) := ⟨pe_var hN hv hd hcd, rd_var i⟩
theorem q_int {i j pos} : QE X (.Constant (.int i) j pos) (tC (.int i)) (aC (.int i)) := ⟨pe_int, rd_c fun _ => by rw [Rep]⟩
theorem q_bl {b j pos} : QE X (.Constant (.bool b) j pos) (tC (.bl b)) (aC (.bl b)) := ⟨pe_bl, rd_c fun _ => by rw [Rep]⟩
theorem q_non {j pos} : QE X (.Constant .none j pos) (tC .non) (aC .non) := ⟨pe_non, rd_c fun _ => by rw [Rep]⟩
theorem q_str {x j pos} : QE X (.Constant (.str x) j pos) (tC (.str x)) (aC (.str x)) := ⟨pe_str, rd_c fun _ => by rw [Rep]⟩

/-! ### freezing -/
def frz (r : Ret) (Γ : Sl) (k : D → Sl → Prop) : Prop := match r with
  | .dat d => k d Γ
  | .tmp (.lst ds) => k (.lst ds) Γ
  | .var i => match Γ[i]? with
    | some (.dat d) => k d Γ
    | some (.own (.lst ds)) => k (.lst ds) (Γ.set i (.dat (.lst ds)))
    | _ => False
theorem frz_ok {r : Ret} {v : V} {k : D → Sl → Prop} {H0 : Hp} (o : Ok K B σ H1 G1 Γ1 M1) (e : Es σ H G Γ M H1 G1 Γ1 M1) (rr : RepR K B σ H H1 G1 Γ1 M1 r v) (h : frz r Γ1 k) :
    ∃ G2 Γ2 d, Ok K B σ H1 G2 Γ2 M1 ∧ Es σ H G Γ M H1 G2 Γ2 M1 ∧ Rep K G2 d v ∧ k d Γ2 := by
  cases r with
  | dat d => exact ⟨G1, Γ1, d, o, e, rr, h⟩
  | tmp c =>
    obtain ⟨p, rfl, h0, hb, ⟨hg, u, hu, hc⟩, hm, hn⟩ := rr
    cases c with
    | lst ds =>
      obtain ⟨vs, rfl, hr⟩ := hc
      obtain ⟨k1, eG⟩ := o.freeze hu hb hm hn hg
      refine ⟨_, Γ1, .lst ds, k1, ⟨e.g.trans eG, fun a w h g m n => ?_, e.nn⟩, rep_lst.mpr ⟨p, vs, rfl, upd_same, hr.mono eG⟩, h⟩
      obtain ⟨a1, a2, a3, a4⟩ := e.tmp a w h g m n
      have ne : a ≠ p := ne_of_none h h0
      exact ⟨a1, by rw [upd_ne ne]; exact a2, a3, a4⟩
  | var i =>
    unfold frz at h
    dsimp only at h
    split at h
    · rename_i d e1
      obtain ⟨v', h1, h2⟩ := o.dat i d e1
      have : v' = v := by have := (show σ[i]? = some (some v) from rr); rw [h1] at this; cases this; rfl
      subst this
      exact ⟨G1, Γ1, d, o, e, h2, h⟩
    · rename_i ds e1
      obtain ⟨G2, v', k1, e2, h1, h2⟩ := o.frzSlot e1
      have : v' = v := by have := (show σ[i]? = some (some v) from rr); rw [h1] at this; cases this; rfl
      subst this
      exact ⟨G2, _, _, k1, e.trans e2, h2, h⟩
    · exact h.elim
/-- the contents of a sequence: tuple or list -/
inductive Sq where
  | tup (ds : List D) | lst (ds : List D) | scr (ds : List D)
def Sq.ds : Sq → List D
  | .tup ds => ds
  | .lst ds => ds
  | .scr ds => ds
def sqD (M : Mem) : D → Option Sq
  | .tup ds => some (.tup ds)
  | .lst ds => some (.lst ds)
  | .scr ds => some (.scr ds)
  | .ref a => match M.lookup a with
    | some (.lst ds) => some (.lst ds)
    | none => none
  | _ => none
def sqOf (r : Ret) (Γ : Sl) (M : Mem) : Option Sq := match r with
  | .dat d => sqD M d
  | .tmp (.lst ds) => some (.lst ds)
  | .var i => match Γ[i]? with
    | some (.dat d) => sqD M d
    | some (.own (.lst ds)) => some (.lst ds)
    | _ => none
theorem lookup_mem {M : Mem} {a : Addr} {c : Cell} (h : M.lookup a = some c) : (a, c) ∈ M := by
  induction M with
  | nil => cases h
  | cons x M ih =>
    obtain ⟨b, c'⟩ := x
    rw [List.lookup_cons] at h
    by_cases e : a = b
    · subst e; rw [beq_self_eq_true] at h; cases h; exact List.mem_cons_self
    · rw [beq_eq_false_iff_ne.mpr e] at h; exact List.mem_cons_of_mem _ (ih h)
/-- what stands for a sequence -/
def SqR (K : PySem.W.Frag) (H G : Hp) (s : Sq) (v : V) : Prop := match s with
  | .tup ds => ∃ a xs, v = .ref a ∧ SqT K H a xs ∧ RepL K G ds xs
  | .lst ds => ∃ a xs, v = .ref a ∧ H a = some (.lst xs) ∧ RepL K G ds xs
  | .scr ds => ∃ a xs, v = .ref a ∧ SqL K H a xs ∧ RepL K G ds xs
/-- to be read -/
theorem SqR.rd {s : Sq} {v : V} (h : SqR K H G s v) : ∃ a xs, v = .ref a ∧ ((∃ ds, s = .tup ds ∧ SqT K H a xs) ∨ ((∃ ds, s = .lst ds ∨ s = .scr ds) ∧ SqL K H a xs)) ∧ RepL K G s.ds xs := by
  cases s with
  | tup ds => obtain ⟨a, xs, e, h1, h2⟩ := h; exact ⟨a, xs, e, .inl ⟨ds, rfl, h1⟩, h2⟩
  | lst ds => obtain ⟨a, xs, e, h1, h2⟩ := h; exact ⟨a, xs, e, .inr ⟨⟨ds, .inl rfl⟩, SqL.of h1⟩, h2⟩
  | scr ds => obtain ⟨a, xs, e, h1, h2⟩ := h; exact ⟨a, xs, e, .inr ⟨⟨ds, .inr rfl⟩, h1⟩, h2⟩
theorem sqD_ok {d : D} {v : V} {s : Sq} (o : Ok K B σ H G Γ M) (r : Rep K G d v) (h : sqD M d = some s) : SqR K H G s v := by
  unfold sqD at h
  split at h
  · cases h
    obtain ⟨a, xs, e, h1, h2⟩ := rep_tup.mp r
    exact ⟨a, xs, e, ex_t o.ex h1, h2⟩
  · cases h
    obtain ⟨a, xs, e, h1, h2⟩ := rep_lst.mp r
    exact ⟨a, xs, e, o.ex _ _ h1, h2⟩
  · cases h
    obtain ⟨a, xs, e, h1, h2⟩ := rep_scr.mp r
    exact ⟨a, xs, e, ex_l o.ex h1, h2⟩
  · rename_i a
    split at h
    · rename_i ds e
      cases h
      obtain ⟨_, u, hu, vs, rfl, hr⟩ := o.ms a _ (lookup_mem e)
      rw [Rep] at r
      exact ⟨a, vs, r, hu, hr⟩
    · cases h
  · cases h
theorem sqOf_ok {r : Ret} {v : V} {s : Sq} {H0 : Hp} (o : Ok K B σ H G Γ M) (rr : RepR K B σ H0 H G Γ M r v) (h : sqOf r Γ M = some s) : SqR K H G s v := by
  cases r with
  | dat d => exact sqD_ok o rr h
  | tmp c =>
    cases c with
    | lst ds =>
      cases h
      obtain ⟨p, rfl, h0, hb, ⟨hg, u, hu, vs, rfl, hr⟩, hm, hn⟩ := rr
      exact ⟨p, vs, rfl, hu, hr⟩
  | var i =>
    unfold sqOf at h
    dsimp only at h
    split at h
    · rename_i d e1
      obtain ⟨v', h1, h2⟩ := o.dat i d e1
      have : v' = v := by have := (show σ[i]? = some (some v) from rr); rw [h1] at this; cases this; rfl
      subst this
      exact sqD_ok o h2 h
    · rename_i ds e1
      cases h
      obtain ⟨p, s1, hb, hm, hg, u, ho, vs, rfl, hr⟩ := o.own i _ e1
      have : v = .ref p := by have := (show σ[i]? = some (some v) from rr); rw [s1] at this; cases this; rfl
      subst this
      exact ⟨p, vs, rfl, ho, hr⟩
    · cases h

/-! ### operators -/
def aOp (ao : AOp) (aa ab : AE) (Γ : Sl) (M : Mem) (Q : Ret → Sl → Mem → Prop) : Prop := aa Γ M fun x Γ1 M1 => ab Γ1 M1 fun y Γ2 M2 => ao x y Γ2 M2 Q
theorem rd_op {r : R2} {ao : AOp} (ho : RdO K r ao) (ha : RdE K ta aa) (hb : RdE K tb ab) : RdE K (tOp r ta tb) (aOp ao aa ab) := by
  intro B σ H G Γ M Q R k h q
  refine ha B σ H G Γ M _ _ k h fun v H1 G1 Γ1 M1 r1 k1 e1 rr1 h1 => ?_
  refine hb B σ H1 G1 Γ1 M1 _ _ k1 h1 fun u H2 G2 Γ2 M2 r2 k2 e2 rr2 h2 => ?_
  exact ho B σ H2 _ _ G2 Γ2 M2 r1 r2 v u Q R k2 (rr1.es e2) rr2 h2 (q.es (e1.trans e2))
theorem q_op {op : Operator} {r : R2} {ao : AOp} (ho : OpR X (binaryOp op) r) (hr : RdO X.K r ao) (ha : QE X a ta aa) (hb : QE X b tb ab) : QE X (.BinOp a op b pos) (tOp r ta tb) (aOp ao aa ab) := ⟨pe_op ho ha.pe hb.pe, rd_op hr ha.rd hb.rd⟩
structure CmpR (X : Cx) (op : CmpOp) (r : R2) (ao : AOp) : Prop where
  ho : OpR X (compareOp op) r
  rd : RdO X.K r ao
theorem q_cmp {op : CmpOp} {r : R2} {ao : AOp} (c : CmpR X op r ao) (ha : QE X a ta aa) (hb : QE X b tb ab) (hm : behindInMarks op b = false := by first | exact nomark _ | rfl) : QE X (.Compare a [op] [b] pos) (tOp r ta tb) (aOp ao aa ab) :=
  ⟨pe_cmpR c.ho ha.pe hb.pe hm, rd_op c.rd ha.rd hb.rd⟩
theorem q_ix {r : R2} {ao : AOp} (ho : IxR X r) (hr : RdO X.K r ao) (ha : QE X a ta aa) (hb : QE X b tb ab) (hs : PlainIx b := by exact fun _ _ => rfl) : QE X (.Subscript a b pos) (tOp r ta tb) (aOp ao aa ab) := ⟨pe_ix ho ha.pe hb.pe hs, rd_op hr ha.rd hb.rd⟩
def aI0 (g : Int → Int → D) (x : Ret) (y : Ret) (Γ : Sl) (M : Mem) (Q : Ret → Sl → Mem → Prop) : Prop := match x, y with
  | .dat (.int i), .dat (.int j) => Q (.dat (g i j)) Γ M
  | _, _ => False
def aIC (C : Int → Int → Prop) (g : Int → Int → D) (x : Ret) (y : Ret) (Γ : Sl) (M : Mem) (Q : Ret → Sl → Mem → Prop) : Prop := match x, y with
  | .dat (.int i), .dat (.int j) => C i j ∧ Q (.dat (g i j)) Γ M
  | _, _ => False
theorem rd_I0 {g : Int → Int → V} {g' : Int → Int → D} (hg : ∀ i j G, Rep K G (g' i j) (g i j)) : RdO K (rI0 g) (aI0 g') := by
  intro B σ H H1 H2 G Γ M rx ry x y Q R k r1 r2 h q
  unfold aI0 at h
  split at h
  · rename_i i j
    have e1 : x = .int i := by have := r1; simp only [RepR, Rep] at this; exact this
    have e2 : y = .int j := by have := r2; simp only [RepR, Rep] at this; exact this
    exact ⟨i, j, e1, e2, q _ H G Γ M (.dat _) k .refl (hg i j G) h⟩
  · exact h.elim
theorem rd_IC {C : Int → Int → Prop} {g : Int → Int → V} {g' : Int → Int → D} (hg : ∀ i j G, Rep K G (g' i j) (g i j)) : RdO K (rI C g) (aIC C g') := by
  intro B σ H H1 H2 G Γ M rx ry x y Q R k r1 r2 h q
  unfold aIC at h
  split at h
  · rename_i i j
    have e1 : x = .int i := by have := r1; simp only [RepR, Rep] at this; exact this
    have e2 : y = .int j := by have := r2; simp only [RepR, Rep] at this; exact this
    exact ⟨i, j, e1, e2, h.1, q _ H G Γ M (.dat _) k .refl (hg i j G) h.2⟩
  · exact h.elim
theorem q_add (ha : QE X a ta aa) (hb : QE X b tb ab) : QE X (.BinOp a .Add b pos) (tOp (rI0 fun i j => .int (i + j)) ta tb) (aOp (aI0 fun i j => .int (i + j)) aa ab) := q_op op_add (rd_I0 fun _ _ _ => by rw [Rep]) ha hb
theorem q_sub (ha : QE X a ta aa) (hb : QE X b tb ab) : QE X (.BinOp a .Sub b pos) (tOp (rI0 fun i j => .int (i - j)) ta tb) (aOp (aI0 fun i j => .int (i - j)) aa ab) := q_op op_sub (rd_I0 fun _ _ _ => by rw [Rep]) ha hb
/-- a product that fits: one factor small, or both together not too great -/
def CM (i j : Int) : Prop := CMul i j ∨ CMulW i j
theorem op_mulA : OpR X (binaryOp .Mult) (rI CM fun i j => .int (i * j)) := fun pins s σ H x y v u Q I rx ry h => by
  obtain ⟨i, j, e1, e2, hc, q⟩ := h
  rcases hc with hc | hc
  · exact op_mul pins s σ H x y v u Q I rx ry ⟨i, j, e1, e2, hc, q⟩
  · exact op_mulW pins s σ H x y v u Q I rx ry ⟨i, j, e1, e2, hc, q⟩
theorem q_mul (ha : QE X a ta aa) (hb : QE X b tb ab) : QE X (.BinOp a .Mult b pos) (tOp (rI CM fun i j => .int (i * j)) ta tb) (aOp (aIC CM fun i j => .int (i * j)) aa ab) := q_op op_mulA (rd_IC fun _ _ _ => by rw [Rep]) ha hb
theorem q_mod (ha : QE X a ta aa) (hb : QE X b tb ab) : QE X (.BinOp a .Mod b pos) (tOp (rI (fun _ j => j ≠ 0) fun i j => .int (i.fmod j)) ta tb) (aOp (aIC (fun _ j => j ≠ 0) fun i j => .int (i.fmod j)) aa ab) := q_op op_modN (rd_IC fun _ _ _ => by rw [Rep]) ha hb
theorem q_div (ha : QE X a ta aa) (hb : QE X b tb ab) : QE X (.BinOp a .FloorDiv b pos) (tOp (rI CDivW fun i j => .int (i / j)) ta tb) (aOp (aIC CDivW fun i j => .int (i / j)) aa ab) := q_op op_fdivW (rd_IC fun _ _ _ => by rw [Rep]) ha hb
theorem q_pow (ha : QE X a ta aa) (hb : QE X b tb ab) : QE X (.BinOp a .Pow b pos) (tOp (rI CPow fun i j => .int (i ^ j.toNat)) ta tb) (aOp (aIC CPow fun i j => .int (i ^ j.toNat)) aa ab) := q_op op_pow (rd_IC fun _ _ _ => by rw [Rep]) ha hb
theorem c_lt : CmpR X .Lt (rI0 fun i j => .bl (decide (i < j))) (aI0 fun i j => .bl (decide (i < j))) := ⟨op_lt, rd_I0 fun _ _ _ => by rw [Rep]⟩
theorem c_le : CmpR X .LtE (rI0 fun i j => .bl (decide (i ≤ j))) (aI0 fun i j => .bl (decide (i ≤ j))) := ⟨op_le, rd_I0 fun _ _ _ => by rw [Rep]⟩
theorem c_gt : CmpR X .Gt (rI0 fun i j => .bl (decide (j < i))) (aI0 fun i j => .bl (decide (j < i))) := ⟨op_gt, rd_I0 fun _ _ _ => by rw [Rep]⟩
theorem c_ge : CmpR X .GtE (rI0 fun i j => .bl (decide (j ≤ i))) (aI0 fun i j => .bl (decide (j ≤ i))) := ⟨op_ge, rd_I0 fun _ _ _ => by rw [Rep]⟩

/-! ### argument lists, tuples, lists -/
def aNil (Γ : Sl) (M : Mem) (Q : List D → Sl → Mem → Prop) : Prop := Q [] Γ M
def aCons (aa : AE) (ar : AA) (Γ : Sl) (M : Mem) (Q : List D → Sl → Mem → Prop) : Prop := aa Γ M fun r Γ1 M1 => frz r Γ1 fun d Γ2 => ar Γ2 M1 fun ds Γ3 M3 => Q (d :: ds) Γ3 M3
theorem rd_nil : RdA K tNil aNil := fun _ _ H G Γ M _ _ k h q => q [] H G Γ M [] k .refl (repL_nil.mpr rfl) h
theorem rd_cons {tr : TA} {ar : AA} (ha : RdE K ta aa) (hr : RdA K tr ar) : RdA K (tCons ta tr) (aCons aa ar) := by
  intro B σ H G Γ M Q R k h q
  refine ha B σ H G Γ M _ _ k h fun v H1 G1 Γ1 M1 r k1 e1 rr h1 => ?_
  obtain ⟨G2, Γ2, d, k2, e2, rp, h2⟩ := frz_ok (H0 := H) k1 e1 rr h1
  refine hr B σ H1 G2 Γ2 M1 _ _ k2 h2 fun vs H3 G3 Γ3 M3 ds k3 e3 rl h3 => ?_
  exact q _ H3 G3 Γ3 M3 (d :: ds) k3 (e2.trans e3) (repL_cons.mpr ⟨v, vs, rfl, rp.mono e3.g, rl⟩) h3
theorem qa_nil : QA X [] tNil aNil := ⟨pa_nil, rd_nil⟩
theorem qa_cons {es : List Expr} {tr : TA} {ar : AA} (ha : QE X a ta aa) (hr : QA X es tr ar) (hs : starEach (a :: es) X.env = (false, eval a X.env) :: starEach es X.env := by rfl) : QA X (a :: es) (tCons ta tr) (aCons aa ar) := ⟨pa_cons ha.pe hr.pe hs, rd_cons ha.rd hr.rd⟩
def aTup (aa : AA) (Γ : Sl) (M : Mem) (Q : Ret → Sl → Mem → Prop) : Prop := aa Γ M fun ds Γ1 M1 => ds.length ≤ sizeLine ∧ Q (.dat (.tup ds)) Γ1 M1
def aLst (aa : AA) (Γ : Sl) (M : Mem) (Q : Ret → Sl → Mem → Prop) : Prop := aa Γ M fun ds Γ1 M1 => ds.length ≤ sizeLine ∧ Q (.tmp (.lst ds)) Γ1 M1
theorem rd_tup {tr : TA} {ar : AA} (ha : RdA K tr ar) : RdE K (tTup tr) (aTup ar) := by
  intro B σ H G Γ M Q R k h q
  refine ha B σ H G Γ M _ _ k h fun vs H1 G1 Γ1 M1 ds k1 e1 rl ⟨hl, h1⟩ => ⟨by rw [rl.length]; exact hl, fun p hp => ?_⟩
  obtain ⟨k2, e2⟩ := k1.new (o := .tup vs) hp
  exact q _ _ _ Γ1 M1 (.dat (.tup ds)) k2 (e1.trans e2) (rep_tup.mpr ⟨p, vs, rfl, SqT.of upd_same, rl.mono e2.g⟩) h1
theorem rd_lst {tr : TA} {ar : AA} (ha : RdA K tr ar) : RdE K (tLst tr) (aLst ar) := by
  intro B σ H G Γ M Q R k h q
  refine ha B σ H G Γ M _ _ k h fun vs H1 G1 Γ1 M1 ds k1 e1 rl ⟨hl, h1⟩ => ⟨by rw [rl.length]; exact hl, fun p hp => ?_⟩
  obtain ⟨k2, e2, hm, hn, hb, hg⟩ := k1.tmp (o := .lst vs) hp
  exact q _ _ _ Γ1 M1 (.tmp (.lst ds)) k2 (e1.trans e2) ⟨p, rfl, e1.nn p hp, hb, ⟨hg, _, upd_same, vs, rfl, rl⟩, hm, hn⟩ h1
theorem q_tup {es : List Expr} {x1} {tr : TA} {ar : AA} (h : QA X es tr ar) : QE X (.Tuple es x1 pos) (tTup tr) (aTup ar) := ⟨pe_tup h.pe, rd_tup h.rd⟩
theorem q_lst {es : List Expr} {tr : TA} {ar : AA} (h : QA X es tr ar) : QE X (.List es pos) (tLst tr) (aLst ar) := ⟨pe_lst h.pe, rd_lst h.rd⟩
/-- a new list, a new tuple out of values that stand for data -/
theorem Kont.newL {Q : Ret → Sl → Mem → Prop} {R : VK} {ds : List D} {vs : List V} (q : Kont K B σ H G Γ M Q R) (k : Ok K B σ H G Γ M) (rl : RepL K G ds vs) (h : Q (.tmp (.lst ds)) Γ M) : ∀ p, H p = none → R (.ref p) (upd H p (.lst vs)) := fun p hp => by
  obtain ⟨k2, e2, hm, hn, hb, hg⟩ := k.tmp (o := .lst vs) hp
  exact q _ _ _ Γ M (.tmp (.lst ds)) k2 e2 ⟨p, rfl, hp, hb, ⟨hg, _, upd_same, vs, rfl, rl⟩, hm, hn⟩ h
theorem Kont.newT {Q : Ret → Sl → Mem → Prop} {R : VK} {ds : List D} {vs : List V} (q : Kont K B σ H G Γ M Q R) (k : Ok K B σ H G Γ M) (rl : RepL K G ds vs) (h : Q (.dat (.tup ds)) Γ M) : ∀ p, H p = none → R (.ref p) (upd H p (.tup vs)) := fun p hp => by
  obtain ⟨k2, e2⟩ := k.new (o := .tup vs) hp
  exact q _ _ _ Γ M (.dat (.tup ds)) k2 e2 (rep_tup.mpr ⟨p, vs, rfl, SqT.of upd_same, rl.mono e2.g⟩) h

/-! ### tests -/
def aTst (aa : AE) (Γ : Sl) (M : Mem) (Q : Bool → Sl → Mem → Prop) : Prop := aa Γ M fun r Γ1 M1 => match r with
  | .dat (.bl b) => Q b Γ1 M1
  | _ => False
theorem rd_tst (ha : RdE K ta aa) : RdT K (tB ta) (aTst aa) := by
  intro B σ H G Γ M Q R k h q
  refine ha B σ H G Γ M _ _ k h fun v H1 G1 Γ1 M1 r k1 e1 rr h1 => ?_
  split at h1
  · rename_i b
    have e : v = .bl b := by have := rr; simp only [RepR, Rep] at this; exact this
    exact ⟨b, e, q b H1 G1 Γ1 M1 k1 e1 h1⟩
  · exact h1.elim
theorem qt_val (ha : QE X a ta aa) (he : ∀ whole, isTrue a X.env whole = (do let v ← whole; standAt a.pos; holding [v] (truthy v)) := by intro _; rfl) : QT X a (tB ta) (aTst aa) := ⟨pt_val ha.pe he, rd_tst ha.rd⟩
theorem rd_tst' (ha : RdE K ta aa) : RdT K (tTest ta) (aTst aa) := rd_tst ha
theorem qt_cmp {op : CmpOp} {r : R2} {ao : AOp} (c : CmpR X op r ao) (ha : QE X a ta aa) (hb : QE X b tb ab) (hm : behindInMarks op b = false := by first | exact nomark _ | rfl) : QT X (.Compare a [op] [b] pos) (tTest (tOp r ta tb)) (aTst (aOp ao aa ab)) :=
  ⟨pt_cmpR c.ho ha.pe hb.pe hm, rd_tst' (rd_op c.rd ha.rd hb.rd)⟩
def aChain (ao ao' : AOp) (aa ab ac : AE) (Γ : Sl) (M : Mem) (Q : Ret → Sl → Mem → Prop) : Prop := aa Γ M fun x Γ1 M1 => ab Γ1 M1 fun y Γ2 M2 => ao x y Γ2 M2 fun z Γ3 M3 => match z with
  | .dat (.bl k) => if k = true then ac Γ3 M3 fun w Γ4 M4 => ao' y w Γ4 M4 Q else Q (.dat (.bl false)) Γ3 M3
  | _ => False
theorem rd_chain {r r' : R2} {ao ao' : AOp} (ho : RdO K r ao) (ho' : RdO K r' ao') (ha : RdE K ta aa) (hb : RdE K tb ab) (hc : RdE K tc ac) : RdE K (tChain r r' ta tb tc) (aChain ao ao' aa ab ac) := by
  intro B σ H G Γ M Q R k h q
  refine ha B σ H G Γ M _ _ k h fun v H1 G1 Γ1 M1 r1 k1 e1 rr1 h1 => ?_
  refine hb B σ H1 G1 Γ1 M1 _ _ k1 h1 fun u H2 G2 Γ2 M2 r2 k2 e2 rr2 h2 => ?_
  refine ho B σ H2 _ _ G2 Γ2 M2 r1 r2 v u _ _ k2 (rr1.es e2) rr2 h2 fun z H3 G3 Γ3 M3 r3 k3 e3 rr3 h3 => ?_
  split at h3
  · rename_i c
    have e : z = .bl c := by have := rr3; simp only [RepR, Rep] at this; exact this
    refine ⟨c, e, ?_⟩
    cases c with
    | true => exact hc B σ H3 G3 Γ3 M3 _ _ k3 (by simpa using h3) fun w H4 G4 Γ4 M4 r4 k4 e4 rr4 h4 => ho' B σ H4 _ _ G4 Γ4 M4 r2 r4 u w Q R k4 ((rr2.es e3).es e4) rr4 h4 (q.es (((e1.trans e2).trans e3).trans e4))
    | false => exact q _ H3 G3 Γ3 M3 (.dat (.bl false)) k3 ((e1.trans e2).trans e3) (by simp only [RepR, Rep]) (by simpa using h3)
  · exact h3.elim
theorem q_chain {op op' : CmpOp} {r r' : R2} {ao ao' : AOp} (c1 : CmpR X op r ao) (c2 : CmpR X op' r' ao') (ha : QE X a ta aa) (hb : QE X b tb ab) (hc : QE X c tc ac) (hm : lastMarks [op, op'] [b, c] = false := by with_unfolding_all rfl) :
    QE X (.Compare a [op, op'] [b, c] pos) (tChain r r' ta tb tc) (aChain ao ao' aa ab ac) := ⟨pe_chain c1.ho c2.ho ha.pe hb.pe hc.pe hm, rd_chain c1.rd c2.rd ha.rd hb.rd hc.rd⟩
theorem qt_chain {op op' : CmpOp} {r r' : R2} {ao ao' : AOp} (c1 : CmpR X op r ao) (c2 : CmpR X op' r' ao') (ha : QE X a ta aa) (hb : QE X b tb ab) (hc : QE X c tc ac) (hm : lastMarks [op, op'] [b, c] = false := by with_unfolding_all rfl) :
    QT X (.Compare a [op, op'] [b, c] pos) (tTest (tChain r r' ta tb tc)) (aTst (aChain ao ao' aa ab ac)) := ⟨pt_chain c1.ho c2.ho ha.pe hb.pe hc.pe hm, rd_tst' (rd_chain c1.rd c2.rd ha.rd hb.rd hc.rd)⟩
def aAnd (t u : AT) (Γ : Sl) (M : Mem) (Q : Bool → Sl → Mem → Prop) : Prop := t Γ M fun c Γ1 M1 => if c = true then u Γ1 M1 Q else Q false Γ1 M1
def aOr (t u : AT) (Γ : Sl) (M : Mem) (Q : Bool → Sl → Mem → Prop) : Prop := t Γ M fun c Γ1 M1 => if c = true then Q true Γ1 M1 else u Γ1 M1 Q
def aNot (t : AT) (Γ : Sl) (M : Mem) (Q : Bool → Sl → Mem → Prop) : Prop := t Γ M fun c Γ1 M1 => Q (!c) Γ1 M1
theorem rd_and {tA tC : TT} {aA aC : AT} (ha : RdT K tA aA) (hb : RdT K tC aC) : RdT K (tAnd tA tC) (aAnd aA aC) := by
  intro B σ H G Γ M Q R k h q
  refine ha B σ H G Γ M _ _ k h fun c H1 G1 Γ1 M1 k1 e1 h1 => ?_
  cases c with
  | true => exact hb B σ H1 G1 Γ1 M1 _ _ k1 (by simpa using h1) fun b H2 G2 Γ2 M2 k2 e2 h2 => q b H2 G2 Γ2 M2 k2 (e1.trans e2) h2
  | false => exact q false H1 G1 Γ1 M1 k1 e1 (by simpa using h1)
theorem rd_or {tA tC : TT} {aA aC : AT} (ha : RdT K tA aA) (hb : RdT K tC aC) : RdT K (tOr tA tC) (aOr aA aC) := by
  intro B σ H G Γ M Q R k h q
  refine ha B σ H G Γ M _ _ k h fun c H1 G1 Γ1 M1 k1 e1 h1 => ?_
  cases c with
  | false => exact hb B σ H1 G1 Γ1 M1 _ _ k1 (by simpa using h1) fun b H2 G2 Γ2 M2 k2 e2 h2 => q b H2 G2 Γ2 M2 k2 (e1.trans e2) h2
  | true => exact q true H1 G1 Γ1 M1 k1 e1 (by simpa using h1)
theorem rd_not {tA : TT} {aA : AT} (ha : RdT K tA aA) : RdT K (tNot tA) (aNot aA) := by
  intro B σ H G Γ M Q R k h q
  exact ha B σ H G Γ M _ _ k h fun c H1 G1 Γ1 M1 k1 e1 h1 => q _ H1 G1 Γ1 M1 k1 e1 h1
theorem qw_and1 {tA : TT} {aA : AT} (ha : QT X a tA aA) : QW X (.BoolOp .And [a] pos) tA aA := ⟨pw_and1 ha.pe, ha.rd⟩
theorem qw_or1 {tA : TT} {aA : AT} (ha : QT X a tA aA) : QW X (.BoolOp .Or [a] pos) tA aA := ⟨pw_or1 ha.pe, ha.rd⟩
theorem qw_and {rest : List Expr} {tA tC : TT} {aA aC : AT} (ha : QT X a tA aA) (hb : QW X (.BoolOp .And (b :: rest) pos) tC aC) : QW X (.BoolOp .And (a :: b :: rest) pos) (tAnd tA tC) (aAnd aA aC) := ⟨pw_and ha.pe hb.pe, rd_and ha.rd hb.rd⟩
theorem qw_or {rest : List Expr} {tA tC : TT} {aA aC : AT} (ha : QT X a tA aA) (hb : QW X (.BoolOp .Or (b :: rest) pos) tC aC) : QW X (.BoolOp .Or (a :: b :: rest) pos) (tOr tA tC) (aOr aA aC) := ⟨pw_or ha.pe hb.pe, rd_or ha.rd hb.rd⟩
theorem QW.qt {t : TT} {at' : AT} (h : QW X a t at') : QT X a t at' := ⟨h.pe.pt, h.rd⟩
theorem qt_not {tA : TT} {aA : AT} (ha : QT X a tA aA) : QT X (.UnaryOp .Not a pos) (tNot tA) (aNot aA) := ⟨pt_not ha.pe, rd_not ha.rd⟩
/-! values of and, or, not (all but the last truths) -/
def aAndV (aa ab : AE) (Γ : Sl) (M : Mem) (Q : Ret → Sl → Mem → Prop) : Prop := aa Γ M fun r Γ1 M1 => match r with
  | .dat (.bl c) => if c = true then ab Γ1 M1 Q else Q (.dat (.bl false)) Γ1 M1
  | _ => False
def aOrV (aa ab : AE) (Γ : Sl) (M : Mem) (Q : Ret → Sl → Mem → Prop) : Prop := aa Γ M fun r Γ1 M1 => match r with
  | .dat (.bl c) => if c = true then Q (.dat (.bl true)) Γ1 M1 else ab Γ1 M1 Q
  | _ => False
def aNotV (aa : AE) (Γ : Sl) (M : Mem) (Q : Ret → Sl → Mem → Prop) : Prop := aa Γ M fun r Γ1 M1 => match r with
  | .dat (.bl c) => Q (.dat (.bl (!c))) Γ1 M1
  | _ => False
theorem rd_andV (ha : RdE K ta aa) (hb : RdE K tb ab) : RdE K (tAndV ta tb) (aAndV aa ab) := by
  intro B σ H G Γ M Q R k h q
  refine ha B σ H G Γ M _ _ k h fun v H1 G1 Γ1 M1 r k1 e1 rr h1 => ?_
  split at h1
  · rename_i c
    have e : v = .bl c := by have := rr; simp only [RepR, Rep] at this; exact this
    refine ⟨c, e, ?_⟩
    cases c with
    | true => exact hb B σ H1 G1 Γ1 M1 _ _ k1 (by simpa using h1) (q.es e1)
    | false => exact q _ H1 G1 Γ1 M1 (.dat (.bl false)) k1 e1 (by simp only [RepR, Rep]) (by simpa using h1)
  · exact h1.elim
theorem rd_orV (ha : RdE K ta aa) (hb : RdE K tb ab) : RdE K (tOrV ta tb) (aOrV aa ab) := by
  intro B σ H G Γ M Q R k h q
  refine ha B σ H G Γ M _ _ k h fun v H1 G1 Γ1 M1 r k1 e1 rr h1 => ?_
  split at h1
  · rename_i c
    have e : v = .bl c := by have := rr; simp only [RepR, Rep] at this; exact this
    refine ⟨c, e, ?_⟩
    cases c with
    | false => exact hb B σ H1 G1 Γ1 M1 _ _ k1 (by simpa using h1) (q.es e1)
    | true => exact q _ H1 G1 Γ1 M1 (.dat (.bl true)) k1 e1 (by simp only [RepR, Rep]) (by simpa using h1)
  · exact h1.elim
theorem rd_notV (ha : RdE K ta aa) : RdE K (tNotV ta) (aNotV aa) := by
  intro B σ H G Γ M Q R k h q
  refine ha B σ H G Γ M _ _ k h fun v H1 G1 Γ1 M1 r k1 e1 rr h1 => ?_
  split at h1
  · rename_i c
    have e : v = .bl c := by have := rr; simp only [RepR, Rep] at this; exact this
    exact ⟨c, e, q _ H1 G1 Γ1 M1 (.dat (.bl (!c))) k1 e1 (by simp only [RepR, Rep]) h1⟩
  · exact h1.elim
theorem q_one {op} (h : QE X a ta aa) : QE X (.BoolOp op [a] pos) ta aa := ⟨pe_one h.pe, h.rd⟩
theorem q_and {rest : List Expr} (ha : QE X a ta aa) (hb : QE X (.BoolOp .And (b :: rest) pos) tb ab) : QE X (.BoolOp .And (a :: b :: rest) pos) (tAndV ta tb) (aAndV aa ab) := ⟨pe_and ha.pe hb.pe, rd_andV ha.rd hb.rd⟩
theorem q_or {rest : List Expr} (ha : QE X a ta aa) (hb : QE X (.BoolOp .Or (b :: rest) pos) tb ab) : QE X (.BoolOp .Or (a :: b :: rest) pos) (tOrV ta tb) (aOrV aa ab) := ⟨pe_or ha.pe hb.pe, rd_orV ha.rd hb.rd⟩
theorem q_not (ha : QE X a ta aa) : QE X (.UnaryOp .Not a pos) (tNotV ta) (aNotV aa) := ⟨pe_not ha.pe, rd_notV ha.rd⟩
def aIfE (t : AT) (aa ab : AE) (Γ : Sl) (M : Mem) (Q : Ret → Sl → Mem → Prop) : Prop := t Γ M fun c Γ1 M1 => if c = true then aa Γ1 M1 Q else ab Γ1 M1 Q
theorem q_ifExp {tA : TT} {aA : AT} (hc : QT X c tA aA) (ha : QE X a ta aa) (hb : QE X b tb ab) : QE X (.IfExp c a b pos) (tIf tA ta tb) (aIfE aA aa ab) := ⟨pe_ifExp hc.pe ha.pe hb.pe, by
  intro B σ H G Γ M Q R k h q
  refine hc.rd B σ H G Γ M _ _ k h fun c H1 G1 Γ1 M1 k1 e1 h1 => ?_
  cases c with
  | true => exact ha.rd B σ H1 G1 Γ1 M1 _ _ k1 (by simpa using h1) (q.es e1)
  | false => exact hb.rd B σ H1 G1 Γ1 M1 _ _ k1 (by simpa using h1) (q.es e1)⟩
/-! unary minus -/
def aUn (au : AUn) (aa : AE) (Γ : Sl) (M : Mem) (Q : Ret → Sl → Mem → Prop) : Prop := aa Γ M fun r Γ1 M1 => au r Γ1 M1 Q
theorem q_un {op : UnaryOp} {r : V → Hp → VK → Prop} {au : AUn} (ho : UnR X (unaryOp op) r) (hr : RdV X.K r au) (ha : QE X a ta aa) : QE X (.UnaryOp op a pos) (tUn r ta) (aUn au aa) := ⟨pe_un ho ha.pe, fun B σ H G Γ M Q R k h q =>
  ha.rd B σ H G Γ M _ _ k h fun v H1 G1 Γ1 M1 rr k1 e1 r1 h1 => hr B σ H1 _ G1 Γ1 M1 rr v Q R k1 r1 h1 (q.es e1)⟩
def aNeg (r : Ret) (Γ : Sl) (M : Mem) (Q : Ret → Sl → Mem → Prop) : Prop := match r with
  | .dat (.int i) => Q (.dat (.int (-i))) Γ M
  | _ => False
theorem q_neg (ha : QE X a ta aa) : QE X (.UnaryOp .USub a pos) (tUn (rU fun i => .int (-i)) ta) (aUn aNeg aa) := q_un un_neg (fun B σ H H1 G Γ M rx x Q R k r1 h q => by
  unfold aNeg at h
  split at h
  · rename_i i
    have e1 : x = .int i := by have := r1; simp only [RepR, Rep] at this; exact this
    exact ⟨i, e1, q _ H G Γ M (.dat (.int (-i))) k .refl (by simp only [RepR, Rep]) h⟩
  · exact h.elim) ha

/-! ### data compared -/
mutual
def toPy : D → PyData
  | .non => .none
  | .bl b => .bool b
  | .int i => .int i
  | .str x => .str x
  | .tup ds => .tuple (toPyL ds)
  | .lst ds => .list (toPyL ds)
  | .scr ds => .list (toPyL ds)
  | .ref _ => .none
def toPyL : List D → List PyData
  | [] => []
  | d :: ds => toPy d :: toPyL ds
end
mutual
def plain : D → Bool
  | .tup ds => plainL ds
  | .lst ds => plainL ds
  | .scr ds => plainL ds
  | .ref _ => false
  | .non => true
  | .bl _ => true
  | .int _ => true
  | .str _ => true
def plainL : List D → Bool
  | [] => true
  | d :: ds => plain d && plainL ds
end
mutual
theorem Rep.dp : ∀ {d : D} {v : V}, Rep K H d v → plain d = true → Dp K H v (toPy d)
  | .non, _, h, _ => by rw [Rep] at h; subst h; rw [toPy]; exact .non
  | .bl b, _, h, _ => by rw [Rep] at h; subst h; rw [toPy]; exact .bl b
  | .int i, _, h, _ => by rw [Rep] at h; subst h; rw [toPy]; exact .int i
  | .str x, _, h, _ => by rw [Rep] at h; subst h; rw [toPy]; exact .str x
  | .ref a, _, h, p => by rw [plain] at p; cases p
  | .tup ds, _, h, p => by
    obtain ⟨a, xs, rfl, h1, h2⟩ := rep_tup.mp h
    rw [toPy]; exact .tup h1 (RepL.dp h2 (by rw [plain] at p; exact p))
  | .lst ds, _, h, p => by
    obtain ⟨a, xs, rfl, h1, h2⟩ := rep_lst.mp h
    rw [toPy]; exact .lst (SqL.of h1) (RepL.dp h2 (by rw [plain] at p; exact p))
  | .scr ds, _, h, p => by
    obtain ⟨a, xs, rfl, h1, h2⟩ := rep_scr.mp h
    rw [toPy]; exact .lst h1 (RepL.dp h2 (by rw [plain] at p; exact p))
theorem RepL.dp : ∀ {ds : List D} {vs : List V}, RepL K H ds vs → plainL ds = true → DpAll K H vs (toPyL ds)
  | [], _, h, _ => by rw [repL_nil.mp h, toPyL]; exact .nil
  | d :: ds, _, h, p => by
    obtain ⟨x, r, rfl, h1, h2⟩ := repL_cons.mp h
    rw [plainL, Bool.and_eq_true] at p
    rw [toPyL]; exact .cons (Rep.dp h1 p.1) (RepL.dp h2 p.2)
end
def dOf (r : Ret) (Γ : Sl) (M : Mem) : Option D := match r with
  | .dat (.ref a) => match M.lookup a with
    | some (.lst ds) => some (.lst ds)
    | none => none
  | .dat d => some d
  | .tmp (.lst ds) => some (.lst ds)
  | .var i => match Γ[i]? with
    | some (.dat d) => some d
    | some (.own (.lst ds)) => some (.lst ds)
    | _ => none
theorem dOf_ok {r : Ret} {v : V} {d : D} {H0 : Hp} (o : Ok K B σ H G Γ M) (rr : RepR K B σ H0 H G Γ M r v) (h : dOf r Γ M = some d) : Rep K H d v := by
  have lst : ∀ ds, SqR K H G (.lst ds) v → Rep K H (.lst ds) v := fun ds ⟨a, xs, e, h1, h2⟩ => rep_lst.mpr ⟨a, xs, e, h1, h2.mono o.ex⟩
  cases r with
  | dat d' =>
    cases d' with
    | ref a =>
      simp only [dOf] at h
      split at h
      · rename_i ds e
        cases h
        exact lst ds (sqOf_ok o rr (by simp [sqOf, sqD, e]))
      · cases h
    | _ => cases h; exact Rep.mono o.ex rr
  | tmp c =>
    cases c with
    | lst ds => cases h; exact lst ds (sqOf_ok o rr rfl)
  | var i =>
    simp only [dOf] at h
    split at h
    · rename_i d' e1
      cases h
      obtain ⟨v', h1, h2⟩ := o.dat i d e1
      have : v' = v := by have := (show σ[i]? = some (some v) from rr); rw [h1] at this; cases this; rfl
      subst this
      exact h2.mono o.ex
    · rename_i ds e1
      cases h
      exact lst ds (sqOf_ok o rr (by simp [sqOf, e1]))
    · cases h
def cmpOk (d : D) : Bool := plain d && SeqAt.shaped (toPy d)
def eqD (d e : D) : Bool := PyData.eqv (toPy d) (toPy e)
def aEq (f : Bool → Bool) (x : Ret) (y : Ret) (Γ : Sl) (M : Mem) (Q : Ret → Sl → Mem → Prop) : Prop := match dOf x Γ M, dOf y Γ M with
  | some d, some e => cmpOk d = true ∧ cmpOk e = true ∧ Q (.dat (.bl (f (eqD d e)))) Γ M
  | _, _ => False
theorem rd_eqD : RdO K (rEqD K) (aEq id) := by
  intro B σ H H1 H2 G Γ M rx ry x y Q R k r1 r2 h q
  unfold aEq at h
  split at h
  · rename_i d e hd he
    obtain ⟨c1, c2, h⟩ := h
    simp only [cmpOk, Bool.and_eq_true] at c1 c2
    exact ⟨_, _, (dOf_ok k r1 hd).dp c1.1, (dOf_ok k r2 he).dp c2.1, c1.2, c2.2, q _ H G Γ M (.dat (.bl _)) k .refl (by simp only [RepR, Rep]; rfl) h⟩
  · exact h.elim
theorem rd_neD : RdO K (rNeD K) (aEq not) := by
  intro B σ H H1 H2 G Γ M rx ry x y Q R k r1 r2 h q
  unfold aEq at h
  split at h
  · rename_i d e hd he
    obtain ⟨c1, c2, h⟩ := h
    simp only [cmpOk, Bool.and_eq_true] at c1 c2
    exact ⟨_, _, (dOf_ok k r1 hd).dp c1.1, (dOf_ok k r2 he).dp c2.1, c1.2, c2.2, q _ H G Γ M (.dat (.bl _)) k .refl (by simp only [RepR, Rep]; rfl) h⟩
  · exact h.elim
theorem c_eq (hu : X.A.units + 64 < cLine) (hK : X.K = K := by rfl) : CmpR X .Eq (rEqD K) (aEq id) := by subst hK; exact ⟨op_eqD hu, rd_eqD⟩
theorem c_ne (hu : X.A.units + 64 < cLine) (hK : X.K = K := by rfl) : CmpR X .NotEq (rNeD K) (aEq not) := by subst hK; exact ⟨op_neD hu, rd_neD⟩
/-! membership of flat things -/
def flatD : D → Bool
  | .non => true | .bl _ => true | .int _ => true | .str _ => true
  | _ => false
def inD (d : D) (ds : List D) : Bool := ds.any fun e => eqD e d
theorem Rep.flat {d : D} {v : V} (h : Rep K G d v) (f : flatD d = true) : flatV v = true ∧ ∀ e w, Rep K G e w → flatD e = true → eqV w v = eqD e d := by
  cases d <;> simp [flatD] at f <;> rw [Rep] at h <;> subst h <;> refine ⟨rfl, fun e w he hf => ?_⟩ <;> cases e <;> simp [flatD] at hf <;> rw [Rep] at he <;> subst he <;> simp [eqV, eqD, toPy, PyData.eqv]
theorem RepL.flat {ds : List D} {vs : List V} (h : RepL K G ds vs) (f : ds.all flatD = true) : vs.all flatV = true := by
  rw [List.all_eq_true] at *
  intro v hv
  obtain ⟨i, hi⟩ := List.getElem?_of_mem hv
  obtain ⟨d, e, r⟩ := h.getV hi
  exact (r.flat (f d (List.mem_of_getElem? e))).1
theorem RepL.inV {ds : List D} {vs : List V} {d : D} {v : V} (h : RepL K G ds vs) (f : ds.all flatD = true) (r : Rep K G d v) (fd : flatD d = true) : L2.inV v vs = inD d ds := by
  induction ds generalizing vs with
  | nil => rw [repL_nil.mp h]; rfl
  | cons e ds ih =>
    obtain ⟨x, r', rfl, h1, h2⟩ := repL_cons.mp h
    rw [List.all_cons, Bool.and_eq_true] at f
    show (eqV x v || L2.inV v r') = (eqD e d || inD d ds)
    rw [ih h2 f.2, (r.flat fd).2 e x h1 f.1]
def aIn (f : Bool → Bool) (x : Ret) (y : Ret) (Γ : Sl) (M : Mem) (Q : Ret → Sl → Mem → Prop) : Prop := match x, sqOf y Γ M with
  | .dat d, some s => flatD d = true ∧ s.ds.all flatD = true ∧ Q (.dat (.bl (f (inD d s.ds)))) Γ M
  | _, _ => False
theorem rd_in {neg : Bool} {f : Bool → Bool} (hf : f = if neg then not else id) : RdO K (rIn K neg) (aIn f) := by
  intro B σ H H1 H2 G Γ M rx ry x y Q R k r1 r2 h q
  unfold aIn at h
  split at h
  · rename_i d s hs
    obtain ⟨c1, c2, h⟩ := h
    have hr := sqOf_ok k r2 hs
    have r1' : Rep K G d x := r1
    obtain ⟨a, xs, e, hq', hl⟩ := hr.rd
    have hq : SqL K H a xs ∨ SqT K H a xs := by
      rcases hq' with ⟨_, _, z⟩ | ⟨_, z⟩
      · exact .inr z
      · exact .inl z
    refine ⟨a, xs, e, hq, (r1'.flat c1).1, hl.flat c2, q _ H G Γ M (.dat (.bl _)) k .refl ?_ h⟩
    rw [hl.inV c2 r1' c1]
    subst hf
    cases neg <;> simp [RepR, Rep]
  · exact h.elim
theorem c_in (hK : X.K = K := by rfl) : CmpR X .In (rIn K false) (aIn id) := by subst hK; exact ⟨op_in_seq, rd_in rfl⟩
theorem c_notIn (hK : X.K = K := by rfl) : CmpR X .NotIn (rIn K true) (aIn not) := by subst hK; exact ⟨op_notIn_seq, rd_in rfl⟩
def isNon : D → Bool
  | .non => true
  | _ => false
def aIsN (f : Bool → Bool) (x : Ret) (y : Ret) (Γ : Sl) (M : Mem) (Q : Ret → Sl → Mem → Prop) : Prop := match x, y with
  | .dat d, .dat .non => Q (.dat (.bl (f (isNon d)))) Γ M
  | _, _ => False
theorem Rep.isNon {d : D} {v : V} (h : Rep K G d v) : decide (v = .non) = isNon d := by
  cases d with
  | non => rw [Rep] at h; subst h; rfl
  | bl b => rw [Rep] at h; subst h; rfl
  | int b => rw [Rep] at h; subst h; rfl
  | str b => rw [Rep] at h; subst h; rfl
  | ref b => rw [Rep] at h; subst h; rfl
  | tup b => obtain ⟨a, xs, rfl, _⟩ := rep_tup.mp h; rfl
  | lst b => obtain ⟨a, xs, rfl, _⟩ := rep_lst.mp h; rfl
  | scr b => obtain ⟨a, xs, rfl, _⟩ := rep_scr.mp h; rfl
theorem c_isN : CmpR X .Is (fun x y H Q => y = .non ∧ Q (.bl (decide (x = .non))) H) (aIsN id) := ⟨op_isN, by
  intro B σ H H1 H2 G Γ M rx ry x y Q R k r1 r2 h q
  unfold aIsN at h
  split at h
  · rename_i d
    refine ⟨by have := r2; simp only [RepR, Rep] at this; exact this, q _ H G Γ M (.dat (.bl _)) k .refl ?_ h⟩
    rw [Rep.isNon (show Rep _ _ d x from r1)]; simp [RepR, Rep]
  · exact h.elim⟩
theorem c_notN : CmpR X .IsNot (fun x y H Q => y = .non ∧ Q (.bl (!decide (x = .non))) H) (aIsN not) := ⟨op_notN, by
  intro B σ H H1 H2 G Γ M rx ry x y Q R k r1 r2 h q
  unfold aIsN at h
  split at h
  · rename_i d
    refine ⟨by have := r2; simp only [RepR, Rep] at this; exact this, q _ H G Γ M (.dat (.bl _)) k .refl ?_ h⟩
    rw [Rep.isNon (show Rep _ _ d x from r1)]; simp [RepR, Rep]
  · exact h.elim⟩

/-! ### sequences: items, slices, +, * -/
def aIx (x : Ret) (y : Ret) (Γ : Sl) (M : Mem) (Q : Ret → Sl → Mem → Prop) : Prop := match sqOf x Γ M, y with
  | some s, .dat (.int i) => match atI s.ds i with
    | some d => Q (.dat d) Γ M
    | none => False
  | _, _ => False
theorem atI_rep {ds : List D} {vs : List V} {i : Int} {d : D} (h : RepL K G ds vs) (e : atI ds i = some d) : ∃ v, atI vs i = some v ∧ Rep K G d v := by
  unfold atI at *
  rw [h.length]
  cases hj : ixN ds.length i with
  | none => rw [hj] at e; cases e
  | some j => rw [hj] at e; exact h.get e
theorem rd_ixL : RdO K (fun x y H Q => rIxL K x y H Q ∨ rIxT K x y H Q) aIx := by
  intro B σ H H1 H2 G Γ M rx ry x y Q R k r1 r2 h q
  unfold aIx at h
  split at h
  · rename_i s i hs
    split at h
    · rename_i d hd
      have ey : y = .int i := by have := r2; simp only [RepR, Rep] at this; exact this
      obtain ⟨a, xs, e, hq, h2⟩ := (sqOf_ok k r1 hs).rd
      obtain ⟨v, e', rv⟩ := atI_rep h2 hd
      rcases hq with ⟨_, _, h1⟩ | ⟨_, h1⟩
      · exact .inr ⟨a, xs, i, v, e, ey, h1, e', q _ H G Γ M (.dat d) k .refl rv h⟩
      · exact .inl ⟨a, xs, i, v, e, ey, h1, e', q _ H G Γ M (.dat d) k .refl rv h⟩
    · exact h.elim
  · exact h.elim
end
end Gw

namespace Gw
open PySem L2

section
variable {X : Cx} {a b c : Expr} {ta tb tc te : TE} {aa ab ac ae : AE} {pos : Pos} {K : PySem.W.Frag} {B : Ent} {σ : St} {H G H1 G1 H2 G2 : Hp} {Γ Γ1 Γ2 : Sl} {M M1 M2 : Mem}
theorem q_ixS (ha : QE X a ta aa) (hb : QE X b tb ab) (hs : PlainIx b := by exact fun _ _ => rfl) (hK : X.K = K := by rfl) : QE X (.Subscript a b pos) (tOp (fun x y H Q => rIxL K x y H Q ∨ rIxT K x y H Q) ta tb) (aOp aIx aa ab) := by subst hK; exact q_ix (ix_list.or ix_tup) rd_ixL ha hb hs

/-! ### list + list, list * int, tuple + tuple -/
def aCat (x : Ret) (y : Ret) (Γ : Sl) (M : Mem) (Q : Ret → Sl → Mem → Prop) : Prop := match sqOf x Γ M, sqOf y Γ M with
  | some (.lst ds), some (.lst es) => ds.length + es.length ≤ sizeLine ∧ Q (.tmp (.lst (ds ++ es))) Γ M
  | _, _ => False
theorem rd_cat : RdO K rCat aCat := by
  intro B σ H H1 H2 G Γ M rx ry x y Q R k r1 r2 h q
  unfold aCat at h
  split at h
  · rename_i ds es hd he
    obtain ⟨a, xs, e, h1, h2⟩ := sqOf_ok k r1 hd
    obtain ⟨b, ys, e', h1', h2'⟩ := sqOf_ok k r2 he
    exact ⟨a, b, xs, ys, e, e', h1, h1', by rw [h2.length, h2'.length]; exact h.1, q.newL k (h2.append h2') h.2⟩
  · exact h.elim
theorem q_cat (ha : QE X a ta aa) (hb : QE X b tb ab) : QE X (.BinOp a .Add b pos) (tOp rCat ta tb) (aOp aCat aa ab) := q_op op_cat rd_cat ha hb
def aRep (x : Ret) (y : Ret) (Γ : Sl) (M : Mem) (Q : Ret → Sl → Mem → Prop) : Prop := match sqOf x Γ M, y with
  | some (.lst ds), .dat (.int k) => (-(2 ^ 63) ≤ k ∧ k < 2 ^ 63 ∧ ds.length * k.toNat ≤ sizeLine) ∧ Q (.tmp (.lst (List.replicate k.toNat ds).flatten)) Γ M
  | _, _ => False
theorem RepL.rep {ds : List D} {vs : List V} (h : RepL K G ds vs) : ∀ n : Nat, RepL K G (List.replicate n ds).flatten (List.replicate n vs).flatten
  | 0 => repL_nil.mpr rfl
  | n + 1 => by rw [List.replicate_succ, List.replicate_succ, List.flatten_cons, List.flatten_cons]; exact h.append (RepL.rep h n)
theorem rd_rep : RdO K rRep aRep := by
  intro B σ H H1 H2 G Γ M rx ry x y Q R k r1 r2 h q
  unfold aRep at h
  split at h
  · rename_i ds n hd
    obtain ⟨a, xs, e, h1, h2⟩ := sqOf_ok k r1 hd
    have ey : y = .int n := by have := r2; simp only [RepR, Rep] at this; exact this
    exact ⟨a, n, xs, e, ey, h1, h.1.1, h.1.2.1, by rw [h2.length]; exact h.1.2.2, q.newL k (h2.rep _) h.2⟩
  · exact h.elim
theorem q_rep (ha : QE X a ta aa) (hb : QE X b tb ab) : QE X (.BinOp a .Mult b pos) (tOp rRep ta tb) (aOp aRep aa ab) := q_op op_rep rd_rep ha hb
def aCatT (x : Ret) (y : Ret) (Γ : Sl) (M : Mem) (Q : Ret → Sl → Mem → Prop) : Prop := match x, y with
  | .dat (.tup ds), .dat (.tup es) => ds.length + es.length ≤ sizeLine ∧ Q (.dat (.tup (ds ++ es))) Γ M
  | _, _ => False
theorem rd_catT : RdO K (rCatA K) aCatT := by
  intro B σ H H1 H2 G Γ M rx ry x y Q R k r1 r2 h q
  unfold aCatT at h
  split at h
  · rename_i ds es
    have r1' : Rep K G (.tup ds) x := r1
    have r2' : Rep K G (.tup es) y := r2
    obtain ⟨a, xs, e, h1, h2⟩ := rep_tup.mp r1'
    obtain ⟨b, ys, e', h1', h2'⟩ := rep_tup.mp r2'
    refine ⟨a, b, xs, ys, e, e', ex_t k.ex h1, ex_t k.ex h1', by rw [h2.length, h2'.length]; exact h.1, fun z => ?_, fun _ z => ?_, fun _ _ => q.newT k (h2.append h2') h.2⟩
    · have : ds = [] := by cases ds with | nil => rfl | cons _ _ => obtain ⟨_, _, z', _⟩ := repL_cons.mp h2; rw [z] at z'; cases z'
      subst this; subst e'
      exact q _ H G Γ M (.dat (.tup es)) k .refl r2' h.2
    · have : es = [] := by cases es with | nil => rfl | cons _ _ => obtain ⟨_, _, z', _⟩ := repL_cons.mp h2'; rw [z] at z'; cases z'
      subst this; subst e
      exact q _ H G Γ M (.dat (.tup (ds ++ []))) k .refl (by rw [List.append_nil]; exact r1') h.2
  · exact h.elim
theorem q_catT (ha : QE X a ta aa) (hb : QE X b tb ab) (hK : X.K = K := by rfl) : QE X (.BinOp a .Add b pos) (tOp (rCatA K) ta tb) (aOp aCatT aa ab) := by subst hK; exact q_op op_catA rd_catT ha hb
def aCatS (x : Ret) (y : Ret) (Γ : Sl) (M : Mem) (Q : Ret → Sl → Mem → Prop) : Prop := match x, y with
  | .dat (.str s), .dat (.str t) => s.length + t.length ≤ sizeLine ∧ Q (.dat (.str (s ++ t))) Γ M
  | _, _ => False
/-! slices -/
def cutD (xs : List D) (lo hi : Option Int) : List D := (xs.drop (HT.sIx xs.length 0 lo)).take (HT.sIx xs.length xs.length hi - HT.sIx xs.length 0 lo)
theorem RepL.cut {ds : List D} {vs : List V} {lo hi : Option Int} (h : RepL K G ds vs) : RepL K G (cutD ds lo hi) (cutV vs lo hi) := by
  unfold cutD cutV
  rw [h.length]
  exact (h.drop _).take _
abbrev AO := Sl → Mem → (Option Int → Sl → Mem → Prop) → Prop
structure QO (X : Cx) (e : Option Expr) (to : TO) (ao : AO) : Prop where
  pe : PO X e to
  rd : ∀ B σ H G Γ M (Q : Option Int → Sl → Mem → Prop) (R : Option Int → Hp → Prop), Ok X.K B σ H G Γ M → ao Γ M Q → (∀ o H' G' Γ' M', Ok X.K B σ H' G' Γ' M' → Es σ H G Γ M H' G' Γ' M' → Q o Γ' M' → R o H') → to σ H R
def aON (Γ : Sl) (M : Mem) (Q : Option Int → Sl → Mem → Prop) : Prop := Q none Γ M
def aOS (aa : AE) (Γ : Sl) (M : Mem) (Q : Option Int → Sl → Mem → Prop) : Prop := aa Γ M fun r Γ1 M1 => match r with
  | .dat (.int i) => Q (some i) Γ1 M1
  | _ => False
theorem qo_none : QO X none tNoPart aON := ⟨po_none, fun _ _ H G Γ M _ _ k h q => q none H G Γ M k .refl h⟩
theorem qo_some (h : QE X a ta aa) : QO X (some a) (tPart ta) (aOS aa) := ⟨po_some h.pe, fun B σ H G Γ M Q R k hh q => h.rd B σ H G Γ M _ _ k hh fun v H1 G1 Γ1 M1 r k1 e1 rr h1 => by
  split at h1
  · rename_i i
    have e : v = .int i := by have := rr; simp only [RepR, Rep] at this; exact this
    exact ⟨i, e, q (some i) H1 G1 Γ1 M1 k1 e1 h1⟩
  · exact h1.elim⟩
def aSl (aa : AE) (al ah : AO) (Γ : Sl) (M : Mem) (Q : Ret → Sl → Mem → Prop) : Prop := aa Γ M fun r Γ1 M1 => al Γ1 M1 fun lo Γ2 M2 => ah Γ2 M2 fun hi Γ3 M3 => match sqOf r Γ3 M3 with
  | some (.tup ds) => Q (.dat (.tup (cutD ds lo hi))) Γ3 M3
  | some s => Q (.tmp (.lst (cutD s.ds lo hi))) Γ3 M3
  | none => False
theorem cutD_all {ds : List D} {lo hi : Option Int} (h : HT.sIx ds.length 0 lo = 0 ∧ HT.sIx ds.length ds.length hi = ds.length) : cutD ds lo hi = ds := by
  unfold cutD
  rw [h.1, h.2, Nat.sub_zero, List.drop_zero, List.take_length]
theorem rep_of_sqT {r : Ret} {ds : List D} {v : V} {H0 : Hp} (k : Ok K B σ H G Γ M) (rr : RepR K B σ H0 H G Γ M r v) (h : sqOf r Γ M = some (.tup ds)) : Rep K G (.tup ds) v := by
  have hd : ∀ d, Rep K G d v → sqD M d = some (.tup ds) → Rep K G (.tup ds) v := fun d r e => by
    cases d <;> simp [sqD] at e
    · subst e; exact r
    · split at e <;> simp at e
  cases r with
  | dat d => exact hd d rr h
  | tmp c => cases c; cases h
  | var i =>
    simp only [sqOf] at h
    split at h
    · rename_i d e1
      obtain ⟨v', h1, h2⟩ := k.dat i d e1
      have : v' = v := by have := (show σ[i]? = some (some v) from rr); rw [h1] at this; cases this; rfl
      subst this
      exact hd d h2 h
    · cases h
    · cases h
theorem q_sl {lo hi : Option Expr} {p2 : Pos} {tl th : TO} {al ah : AO} (he : QE X a ta aa) (hl : QO X lo tl al) (hh : QO X hi th ah) (hK : X.K = K := by rfl) :
    QE X (.Subscript a (.Slice lo hi none p2) pos) (tSl (fun x lo hi H Q => rSlL K x lo hi H Q ∨ rSlA K x lo hi H Q) ta tl th) (aSl aa al ah) := by subst hK; exact ⟨pe_slice (sl_list.or sl_tupA) he.pe hl.pe hh.pe, by
  intro B σ H G Γ M Q R k h q
  refine he.rd B σ H G Γ M _ _ k h fun v H1 G1 Γ1 M1 r1 k1 e1 rr1 h1 => ?_
  refine hl.rd B σ H1 G1 Γ1 M1 _ _ k1 h1 fun l H2 G2 Γ2 M2 k2 e2 h2 => ?_
  refine hh.rd B σ H2 G2 Γ2 M2 _ _ k2 h2 fun u H3 G3 Γ3 M3 k3 e3 h3 => ?_
  have rr := (rr1.es e2).es e3
  have q' := q.es ((e1.trans e2).trans e3)
  split at h3
  · rename_i ds hs
    have rp := rep_of_sqT k3 rr hs
    obtain ⟨a, xs, e, h1, h2⟩ := rep_tup.mp rp
    refine .inr ⟨a, xs, e, ex_t k3.ex h1, fun z => ?_, fun _ => q'.newT k3 h2.cut h3⟩
    rw [h2.length] at z
    rw [cutD_all z] at h3
    rw [e] at rp
    exact q' _ H3 G3 Γ3 M3 (.dat (.tup ds)) k3 .refl rp h3
  · rename_i s hn hs
    obtain ⟨a, xs, e, hq, h2⟩ := (sqOf_ok k3 rr hs).rd
    rcases hq with ⟨ds, z, _⟩ | ⟨_, h1⟩
    · exact (hn ds z).elim
    · exact .inl ⟨a, xs, e, h1, q'.newL k3 h2.cut h3⟩
  · exact h3.elim⟩

/-! ### built-ins of one and of two values -/
def aCall1 (au : AUn) (aa : AE) (Γ : Sl) (M : Mem) (Q : Ret → Sl → Mem → Prop) : Prop := aa Γ M fun r Γ1 M1 => au r Γ1 M1 Q
def aCall2 (ao : AOp) (aa ab : AE) (Γ : Sl) (M : Mem) (Q : Ret → Sl → Mem → Prop) : Prop := aa Γ M fun x Γ1 M1 => ab Γ1 M1 fun y Γ2 M2 => ao x y Γ2 M2 Q
theorem rd_call1 {r : List V → Hp → VK → Prop} {au : AUn} (hr : RdU K r au) (ha : RdE K ta aa) : RdE K (tCB r (tCons ta tNil)) (aCall1 au aa) := fun B σ H G Γ M Q R k h q =>
  ha B σ H G Γ M _ _ k h fun v H1 G1 Γ1 M1 rr k1 e1 r1 h1 => hr B σ H1 _ G1 Γ1 M1 rr v Q R k1 r1 h1 (q.es e1)
theorem rd_call2 {r : List V → Hp → VK → Prop} {ao : AOp} (hr : RdU2 K r ao) (ha : RdE K ta aa) (hb : RdE K tb ab) : RdE K (tCB r (tCons ta (tCons tb tNil))) (aCall2 ao aa ab) := fun B σ H G Γ M Q R k h q =>
  ha B σ H G Γ M _ _ k h fun v H1 G1 Γ1 M1 rr k1 e1 r1 h1 => hb B σ H1 G1 Γ1 M1 _ _ k1 h1 fun u H2 G2 Γ2 M2 rr2 k2 e2 r2 h2 => hr B σ H2 _ _ G2 Γ2 M2 rr rr2 v u Q R k2 (r1.es e2) r2 h2 (q.es (e1.trans e2))
theorem q_callB1 {id : String} {x : Str} {p : Pos} {r : List V → Hp → VK → Prop} {au : AUn} (hc : CallR X (.builtin id) r) (hr : RdU X.K r au) (hm : X.mg x = none) (ha : QE X a ta aa) (hg : Gl X x := by rfl) (hv : bootBuiltins x = some (.builtin id) := by decide +kernel) (hn : x ≠ "__name__" := by decide) (hdb : (x == ("__debug__" : Str)) = false := by decide)
    (na : starEach [a] X.env = (false, eval a X.env) :: starEach [] X.env := by rfl) : QE X (.Call (.Name x p) [a] [] pos) (tCB r (tCons ta tNil)) (aCall1 au aa) := ⟨pe_callB hc hg hm hv (pa_cons ha.pe pa_nil na) hn hdb na, rd_call1 hr ha.rd⟩
theorem q_callT1 {T : String} {x : Str} {p : Pos} {r : List V → Hp → VK → Prop} {au : AUn} (hc : CallR X (.type T) r) (hr : RdU X.K r au) (hm : X.mg x = none) (ha : QE X a ta aa) (hg : Gl X x := by rfl) (hv : bootBuiltins x = some (.type T) := by decide +kernel) (hn : x ≠ "__name__" := by decide) (hdb : (x == ("__debug__" : Str)) = false := by decide)
    (na : starEach [a] X.env = (false, eval a X.env) :: starEach [] X.env := by rfl) : QE X (.Call (.Name x p) [a] [] pos) (tCB r (tCons ta tNil)) (aCall1 au aa) := ⟨pe_callTy hc hg hm hv (pa_cons ha.pe pa_nil na) hn hdb na, rd_call1 hr ha.rd⟩
theorem q_callB2 {id : String} {x : Str} {p : Pos} {r : List V → Hp → VK → Prop} {ao : AOp} (hc : CallR X (.builtin id) r) (hr : RdU2 X.K r ao) (hm : X.mg x = none) (ha : QE X a ta aa) (hb : QE X b tb ab) (hg : Gl X x := by rfl) (hv : bootBuiltins x = some (.builtin id) := by decide +kernel) (hn : x ≠ "__name__" := by decide) (hdb : (x == ("__debug__" : Str)) = false := by decide)
    (na : starEach [a, b] X.env = (false, eval a X.env) :: starEach [b] X.env := by rfl) (nb : starEach [b] X.env = (false, eval b X.env) :: starEach [] X.env := by rfl) (hpl : (backTo pos (starEach [b] X.env)).any (·.1) = false := by rfl) : QE X (.Call (.Name x p) [a, b] [] pos) (tCB r (tCons ta (tCons tb tNil))) (aCall2 ao aa ab) :=
  ⟨pe_callB hc hg hm hv (pa_cons ha.pe (pa_cons hb.pe pa_nil nb) na) hn hdb na hpl, rd_call2 hr ha.rd hb.rd⟩

def aLen (r : Ret) (Γ : Sl) (M : Mem) (Q : Ret → Sl → Mem → Prop) : Prop := match sqOf r Γ M with
  | some s => Q (.dat (.int s.ds.length)) Γ M
  | none => False
theorem rd_len : RdU K (fun xs H Q => ∃ p ys, xs = [.ref p] ∧ (SqL K H p ys ∨ SqT K H p ys) ∧ Q (.int ys.length) H) aLen := by
  intro B σ H H1 G Γ M rx x Q R k r1 h q
  unfold aLen at h
  split at h
  · rename_i s hs
    obtain ⟨a, xs, e, hq, h2⟩ := (sqOf_ok k r1 hs).rd
    subst e
    refine ⟨a, xs, rfl, ?_, q _ H G Γ M (.dat (.int _)) k .refl (by simp only [RepR, Rep]; rw [h2.length]) h⟩
    rcases hq with ⟨_, _, z⟩ | ⟨_, z⟩
    · exact .inr z
    · exact .inl z
  · exact h.elim
theorem q_len {p : Pos} (hm : X.mg "len" = none) (ha : QE X a ta aa) (hg : Gl X "len" := by rfl) (na : starEach [a] X.env = (false, eval a X.env) :: starEach [] X.env := by rfl) (hK : X.K = K := by rfl) :
    QE X (.Call (.Name "len" p) [a] [] pos) (tCB (fun xs H Q => ∃ p ys, xs = [.ref p] ∧ (SqL K H p ys ∨ SqT K H p ys) ∧ Q (.int ys.length) H) (tCons ta tNil)) (aCall1 aLen aa) := by subst hK; exact q_callB1 call_len_seq rd_len hm ha hg (na := na)
/-- all, any of a list of truths -/
def blsOf : List D → Option (List Bool)
  | [] => some []
  | .bl b :: ds => (blsOf ds).map (b :: ·)
  | _ :: _ => none
theorem blsOf_ok : ∀ {ds : List D} {bs : List Bool}, blsOf ds = some bs → ds = bs.map .bl
  | [], _, h => by cases h; rfl
  | .bl b :: ds, _, h => by
    simp only [blsOf, Option.map_eq_some_iff] at h
    obtain ⟨bs, h1, rfl⟩ := h
    rw [blsOf_ok h1]; rfl
theorem blsOf_map (bs : List Bool) : blsOf (bs.map .bl) = some bs := by
  induction bs with
  | nil => rfl
  | cons b bs ih => rw [List.map_cons, blsOf, ih]; rfl
def aAllB (f : List Bool → Bool) (r : Ret) (Γ : Sl) (M : Mem) (Q : Ret → Sl → Mem → Prop) : Prop := match sqOf r Γ M with
  | some (.lst ds) => match blsOf ds with
    | some bs => Q (.dat (.bl (f bs))) Γ M
    | none => False
  | _ => False
theorem rd_all : RdU K (rAll K) (aAllB (·.all id)) := by
  intro B σ H H1 G Γ M rx x Q R k r1 h q
  unfold aAllB at h
  split at h
  · rename_i ds hs
    split at h
    · rename_i bs hb
      obtain ⟨a, xs, e, hq, h2⟩ := sqOf_ok k r1 hs
      rw [blsOf_ok hb, repL_map_bl] at h2
      subst e; subst h2
      exact ⟨a, bs, rfl, SqL.of hq, q _ H G Γ M (.dat (.bl _)) k .refl (by simp only [RepR, Rep]) h⟩
    · exact h.elim
  · exact h.elim
theorem rd_any : RdU K (rAny K) (aAllB (·.any id)) := by
  intro B σ H H1 G Γ M rx x Q R k r1 h q
  unfold aAllB at h
  split at h
  · rename_i ds hs
    split at h
    · rename_i bs hb
      obtain ⟨a, xs, e, hq, h2⟩ := sqOf_ok k r1 hs
      rw [blsOf_ok hb, repL_map_bl] at h2
      subst e; subst h2
      exact ⟨a, bs, rfl, SqL.of hq, q _ H G Γ M (.dat (.bl _)) k .refl (by simp only [RepR, Rep]) h⟩
    · exact h.elim
  · exact h.elim
theorem q_all {p : Pos} (hm : X.mg "all" = none) (ha : QE X a ta aa) (hc : X.calm = true := by rfl) (hg : Gl X "all" := by rfl) (na : starEach [a] X.env = (false, eval a X.env) :: starEach [] X.env := by rfl) (hK : X.K = K := by rfl) :
    QE X (.Call (.Name "all" p) [a] [] pos) (tCB (rAll K) (tCons ta tNil)) (aCall1 (aAllB (·.all id)) aa) := by subst hK; exact q_callB1 (cr_all hc) rd_all hm ha hg (na := na)
theorem q_any {p : Pos} (hm : X.mg "any" = none) (ha : QE X a ta aa) (hc : X.calm = true := by rfl) (hg : Gl X "any" := by rfl) (na : starEach [a] X.env = (false, eval a X.env) :: starEach [] X.env := by rfl) (hK : X.K = K := by rfl) :
    QE X (.Call (.Name "any" p) [a] [] pos) (tCB (rAny K) (tCons ta tNil)) (aCall1 (aAllB (·.any id)) aa) := by subst hK; exact q_callB1 (cr_any hc) rd_any hm ha hg (na := na)
def aTuple (r : Ret) (Γ : Sl) (M : Mem) (Q : Ret → Sl → Mem → Prop) : Prop := match sqOf r Γ M with
  | some s => Q (.dat (.tup s.ds)) Γ M
  | none => False
theorem rd_tuple : RdU K (fun xs H Q => ∃ p ys, xs = [.ref p] ∧ ((SqL K H p ys ∧ ∀ l, H l = none → Q (.ref l) (upd H l (.tup ys))) ∨ (SqT K H p ys ∧ Q (.ref p) H))) aTuple := by
  intro B σ H H1 G Γ M rx x Q R k r1 h q
  unfold aTuple at h
  split at h
  · rename_i s hs
    obtain ⟨a, xs, e, hq, h2⟩ := (sqOf_ok k r1 hs).rd
    rcases hq with ⟨ds, z, hq⟩ | ⟨_, hq⟩
    · subst z
      have rp := rep_of_sqT k r1 hs
      subst e
      exact ⟨a, xs, rfl, .inr ⟨hq, q _ H G Γ M (.dat (.tup ds)) k .refl rp h⟩⟩
    · subst e
      exact ⟨a, xs, rfl, .inl ⟨hq, q.newT k h2 h⟩⟩
  · exact h.elim
theorem q_tuple {p : Pos} (hm : X.mg "tuple" = none) (ha : QE X a ta aa) (hg : Gl X "tuple" := by rfl) (na : starEach [a] X.env = (false, eval a X.env) :: starEach [] X.env := by rfl) (hK : X.K = K := by rfl) :
    QE X (.Call (.Name "tuple" p) [a] [] pos) (tCB (fun xs H Q => ∃ p ys, xs = [.ref p] ∧ ((SqL K H p ys ∧ ∀ l, H l = none → Q (.ref l) (upd H l (.tup ys))) ∨ (SqT K H p ys ∧ Q (.ref p) H))) (tCons ta tNil)) (aCall1 aTuple aa) := by subst hK; exact q_callT1 call_tuple_of rd_tuple hm ha hg (na := na)
def aList (r : Ret) (Γ : Sl) (M : Mem) (Q : Ret → Sl → Mem → Prop) : Prop := match sqOf r Γ M with
  | some s => Q (.tmp (.lst s.ds)) Γ M
  | none => False
theorem rd_list : RdU K (fun xs H Q => ∃ p ys, xs = [.ref p] ∧ (SqL K H p ys ∨ SqT K H p ys) ∧ ∀ l, H l = none → Q (.ref l) (upd H l (.lst ys))) aList := by
  intro B σ H H1 G Γ M rx x Q R k r1 h q
  unfold aList at h
  split at h
  · rename_i s hs
    obtain ⟨a, xs, e, hq, h2⟩ := (sqOf_ok k r1 hs).rd
    subst e
    refine ⟨a, xs, rfl, ?_, q.newL k h2 h⟩
    rcases hq with ⟨_, _, z⟩ | ⟨_, z⟩
    · exact .inr z
    · exact .inl z
  · exact h.elim
theorem q_list {p : Pos} (hm : X.mg "list" = none) (ha : QE X a ta aa) (hg : Gl X "list" := by rfl) (na : starEach [a] X.env = (false, eval a X.env) :: starEach [] X.env := by rfl) (hK : X.K = K := by rfl) :
    QE X (.Call (.Name "list" p) [a] [] pos) (tCB (fun xs H Q => ∃ p ys, xs = [.ref p] ∧ (SqL K H p ys ∨ SqT K H p ys) ∧ ∀ l, H l = none → Q (.ref l) (upd H l (.lst ys))) (tCons ta tNil)) (aCall1 aList aa) := by subst hK; exact q_callT1 call_list_of rd_list hm ha hg (na := na)
def aAbs (r : Ret) (Γ : Sl) (M : Mem) (Q : Ret → Sl → Mem → Prop) : Prop := match r with
  | .dat (.int i) => Q (.dat (.int (if i < 0 then -i else i))) Γ M
  | _ => False
theorem q_abs {p : Pos} (hm : X.mg "abs" = none) (ha : QE X a ta aa) (hg : Gl X "abs" := by rfl) (na : starEach [a] X.env = (false, eval a X.env) :: starEach [] X.env := by rfl) :
    QE X (.Call (.Name "abs" p) [a] [] pos) (tCB (fun xs H Q => ∃ i, xs = [.int i] ∧ Q (.int (if i < 0 then -i else i)) H) (tCons ta tNil)) (aCall1 aAbs aa) := q_callB1 call_abs (by
  intro B σ H H1 G Γ M rx x Q R k r1 h q
  unfold aAbs at h
  split at h
  · rename_i i
    have e : x = .int i := by have := r1; simp only [RepR, Rep] at this; exact this
    exact ⟨i, by rw [e], q _ H G Γ M (.dat (.int _)) k .refl (by simp only [RepR, Rep]) h⟩
  · exact h.elim) hm ha hg (na := na)
def aInt (r : Ret) (Γ : Sl) (M : Mem) (Q : Ret → Sl → Mem → Prop) : Prop := match r with
  | .dat (.int i) => Q (.dat (.int i)) Γ M
  | .dat (.bl k) => Q (.dat (.int (if k then 1 else 0))) Γ M
  | _ => False
theorem q_intB {p : Pos} (hm : X.mg "int" = none) (ha : QE X a ta aa) (hg : Gl X "int" := by rfl) (na : starEach [a] X.env = (false, eval a X.env) :: starEach [] X.env := by rfl) :
    QE X (.Call (.Name "int" p) [a] [] pos) (tCB (fun xs H Q => (∃ i, xs = [.int i] ∧ Q (.int i) H) ∨ ∃ k, xs = [.bl k] ∧ Q (.int (if k then 1 else 0)) H) (tCons ta tNil)) (aCall1 aInt aa) := q_callT1 call_int1 (by
  intro B σ H H1 G Γ M rx x Q R k r1 h q
  unfold aInt at h
  split at h
  · rename_i i
    have e : x = .int i := by have := r1; simp only [RepR, Rep] at this; exact this
    exact .inl ⟨i, by rw [e], q _ H G Γ M (.dat (.int _)) k .refl (by simp only [RepR, Rep]) h⟩
  · rename_i i
    have e : x = .bl i := by have := r1; simp only [RepR, Rep] at this; exact this
    exact .inr ⟨i, by rw [e], q _ H G Γ M (.dat (.int _)) k .refl (by simp only [RepR, Rep]) h⟩
  · exact h.elim) hm ha hg (na := na)
theorem rd_2I {g : Int → Int → Int} : RdU2 K (fun xs H Q => ∃ i j, xs = [.int i, .int j] ∧ Q (.int (g i j)) H) (aI0 fun i j => .int (g i j)) := by
  intro B σ H H1 H2 G Γ M rx ry x y Q R k r1 r2 h q
  unfold aI0 at h
  split at h
  · rename_i i j
    have e1 : x = .int i := by have := r1; simp only [RepR, Rep] at this; exact this
    have e2 : y = .int j := by have := r2; simp only [RepR, Rep] at this; exact this
    exact ⟨i, j, by rw [e1, e2], q _ H G Γ M (.dat (.int _)) k .refl (by simp only [RepR, Rep]) h⟩
  · exact h.elim
theorem q_max2 {p : Pos} (hm : X.mg "max" = none) (ha : QE X a ta aa) (hb : QE X b tb ab) (hc : X.calm = true := by rfl) (hg : Gl X "max" := by rfl) (na : starEach [a, b] X.env = (false, eval a X.env) :: starEach [b] X.env := by rfl) (nb : starEach [b] X.env = (false, eval b X.env) :: starEach [] X.env := by rfl) (hpl : (backTo pos (starEach [b] X.env)).any (·.1) = false := by rfl) :
    QE X (.Call (.Name "max" p) [a, b] [] pos) (tCB (fun xs H Q => ∃ i j, xs = [.int i, .int j] ∧ Q (.int (if j > i then j else i)) H) (tCons ta (tCons tb tNil))) (aCall2 (aI0 fun i j => .int (if j > i then j else i)) aa ab) :=
  q_callB2 (call_max2 hc) rd_2I hm ha hb hg (na := na) (nb := nb) (hpl := hpl)
theorem q_min2 {p : Pos} (hm : X.mg "min" = none) (ha : QE X a ta aa) (hb : QE X b tb ab) (hc : X.calm = true := by rfl) (hg : Gl X "min" := by rfl) (na : starEach [a, b] X.env = (false, eval a X.env) :: starEach [b] X.env := by rfl) (nb : starEach [b] X.env = (false, eval b X.env) :: starEach [] X.env := by rfl) (hpl : (backTo pos (starEach [b] X.env)).any (·.1) = false := by rfl) :
    QE X (.Call (.Name "min" p) [a, b] [] pos) (tCB (fun xs H Q => ∃ i j, xs = [.int i, .int j] ∧ Q (.int (if j < i then j else i)) H) (tCons ta (tCons tb tNil))) (aCall2 (aI0 fun i j => .int (if j < i then j else i)) aa ab) :=
  q_callB2 (call_min2 hc) rd_2I hm ha hb hg (na := na) (nb := nb) (hpl := hpl)
/-- sorted of a list of ints -/
def intsOf : List D → Option (List Int)
  | [] => some []
  | .int b :: ds => (intsOf ds).map (b :: ·)
  | _ :: _ => none
theorem intsOf_ok : ∀ {ds : List D} {bs : List Int}, intsOf ds = some bs → ds = bs.map .int
  | [], _, h => by cases h; rfl
  | .int b :: ds, _, h => by
    simp only [intsOf, Option.map_eq_some_iff] at h
    obtain ⟨bs, h1, rfl⟩ := h
    rw [intsOf_ok h1]; rfl
theorem intsOf_map (bs : List Int) : intsOf (bs.map .int) = some bs := by
  induction bs with
  | nil => rfl
  | cons b bs ih => rw [List.map_cons, intsOf, ih]; rfl
def isort (ns : List Int) : List Int := ns.mergeSort (fun a b => decide (a ≤ b))
theorem isort_perm (ns : List Int) : (isort ns).Perm ns := List.mergeSort_perm ns _
theorem isort_sorted (ns : List Int) : (isort ns).Pairwise (· ≤ ·) := by
  have := List.pairwise_mergeSort (le := fun a b : Int => decide (a ≤ b)) (fun a b c h1 h2 => by simp at *; omega) (fun a b => by simp; omega) ns
  exact this.imp fun h => by simpa using h
theorem sorted_uniq {xs ys : List Int} (p : xs.Perm ys) (hx : xs.Pairwise (· ≤ ·)) (hy : ys.Pairwise (· ≤ ·)) : xs = ys := List.Perm.eq_of_pairwise (fun a b _ _ h1 h2 => by omega) hx hy p
def aSortI (r : Ret) (Γ : Sl) (M : Mem) (Q : Ret → Sl → Mem → Prop) : Prop := match sqOf r Γ M with
  | some (.lst ds) => match intsOf ds with
    | some ns => Q (.tmp (.lst ((isort ns).map .int))) Γ M
    | none => False
  | some (.scr ds) => match intsOf ds with
    | some ns => Q (.tmp (.lst ((isort ns).map .int))) Γ M
    | none => False
  | _ => False
theorem rd_sortI : RdU K (rSortedI K) aSortI := by
  intro B σ H H1 G Γ M rx x Q R k r1 h q
  have go : ∀ a ns, x = .ref a → SqL K H a (ns.map V.int) → Q (.tmp (.lst ((isort ns).map .int))) Γ M → rSortedI K [x] H R := fun a ns e hq h => by
    subst e
    refine ⟨a, ns, rfl, hq, fun ns' p hp hs np => ?_⟩
    rw [sorted_uniq (hp.trans (isort_perm ns).symm) hs (isort_sorted ns)]
    exact q.newL k (repL_map_int.mpr rfl) h p np
  unfold aSortI at h
  split at h
  · rename_i ds hs
    split at h
    · rename_i ns hb
      obtain ⟨a, xs, e, hq, h2⟩ := sqOf_ok k r1 hs
      rw [intsOf_ok hb, repL_map_int] at h2
      subst h2
      exact go a ns e (SqL.of hq) h
    · exact h.elim
  · rename_i ds hs
    split at h
    · rename_i ns hb
      obtain ⟨a, xs, e, hq, h2⟩ := sqOf_ok k r1 hs
      rw [intsOf_ok hb, repL_map_int] at h2
      subst h2
      exact go a ns e hq h
    · exact h.elim
  · exact h.elim
theorem q_sortI {p : Pos} (hm : X.mg "sorted" = none) (ha : QE X a ta aa) (hg : Gl X "sorted" := by rfl) (na : starEach [a] X.env = (false, eval a X.env) :: starEach [] X.env := by rfl) (hK : X.K = K := by rfl) :
    QE X (.Call (.Name "sorted" p) [a] [] pos) (tCB (rSortedI K) (tCons ta tNil)) (aCall1 aSortI aa) := by subst hK; exact q_callB1 cr_sortedI rd_sortI hm ha hg (na := na)
end
end Gw

namespace Gw
open PySem L2 PyProof.Rows
/-! ### defs whose callers run no repr: what FnOk says, where the guards around are known to be none -/
structure FnG (P : Program) (w : World) (K : PySem.W.Frag) (mg : Str → Option Value) (base : Heap) (CX : CXT) (k : Nat) (f : Addr) (fd : FuncData) (ps : List Str) (sp : Sp) : Prop where
  arity : ∀ vs H Q E, sp vs H Q E → vs.length = ps.length
  go : ∀ (A : Around) (outer : List Env) (s : Shared) (H : Hp) (args : Args) (us : List Value) (vs : List V) (Q : VK) (E : XK), Room k A → A.guards = some [] → Env0 P w K mg base A outer s H →
    BindsTo s fd args (ps.zip us) → Vals vs us → sp vs H Q E → codeAny (model P w) A (.call (.ref f) args) (CR CX outer P w H s Q E) s
section
variable {P : Program} {w : World} {K : PySem.W.Frag} {mg : Str → Option Value} {base : Heap} {CX : CXT}
theorem FnG.mono {j k : Nat} {f : Addr} {fd : FuncData} {ps : List Str} {sp : Sp} (F : FnG P w K mg base CX j f fd ps sp) (h : j ≤ k) : FnG P w K mg base CX k f fd ps sp :=
  ⟨F.arity, fun A o s H ar us vs Q E r => F.go A o s H ar us vs Q E (r.mono h)⟩
/-- a def by its body -/
theorem fnG_of {k : Nat} {x qual : Str} {st : Stmt} {f : Addr} {fd : FuncData} {N ps : List Str} {sp : Sp} (F : Fun K x qual st f fd) (S : FnScope N ps (defScope st)) (ar : ∀ vs H Q E, sp vs H Q E → vs.length = ps.length)
    (body : ∀ (cd : Value) (A : Around) (outer : List Env) (s : Shared) (H : Hp) (vs : List V) (Q : VK) (E : XK), Room k (A.deeper (envOfC qual (defScope st) s.heap.objs.size f cd)) → A.guards = some [] → sp vs H Q E →
      ∃ t, PSs (cxOf CX P w K mg base N qual (defScope st) f cd A outer s H E) (defBody st) t ∧ t { nx := fun _ H' => Q .non H', rt := Q } (start N vs) H) : FnG P w K mg base CX (k + 1) f fd ps sp := by
  obtain ⟨oc, od, kV, doc, pm, an, cd, ct, osl, rfl, lk, hcode⟩ := F.ex
  refine ⟨ar, fun A outer s H args us vs Q E room gd env bind rel hsp => ?_⟩
  have inK : K.In s.heap := env.mod.kin.keeps fun b o e => (env.bs b o e).1
  have noLim : s.heap.NoLimit := env.mod.nolimit.keeps fun b o e => (env.bs b o e).1
  have kinds : ∀ y ∈ ps.zip us, (defScope st).names.lookup y.1 = some .local ∨ ((defScope st).names.lookup y.1 = some .cell ∧ ((cellsFrom (s.heap.objs.size + 1) (defScope st).names []).lookup y.1).isSome = true) := by
    rintro ⟨nm, vl⟩ hy
    exact (S.par nm (List.of_mem_zip hy).1).imp id fun q => ⟨q, PySem.W.cellsFrom_some _ _ _ (.inl q)⟩
  apply codeAny_call_function room.depth (inK _ _ lk) rfl S.co S.gen rfl (PySem.W.codeRec_of inK hcode)
  apply bind
  apply wpAny_newFunctionEnv_cells S.kind kinds
  rintro env' rfl s1 inCall
  refine ⟨noLim.keeps inCall.toInCall.keep, codeAny_func ?_⟩
  obtain ⟨t, ht, hq⟩ := body cd A outer s H vs Q E (room.deeper _) gd hsp
  have I := inv_start (CX := CX) (E := E) S room.hd env (ar _ _ _ _ hsp) rel inCall
  refine wpAny_mono (ht.run [] s1 _ H _ I hq) (fun fl s' hs => ?_) fun _ _ z => z
  match fl, hs with
  | .ret u, ⟨v, _, H', J, rv, q⟩ => exact ⟨v, H', J.os, J.bare, J.base, J.hok, rv, q⟩
  | .next, ⟨_, H', J, q⟩ => exact ⟨V.non, H', J.os, J.bare, J.base, J.hok, rfl, q⟩
  | .brk, ⟨_, _, _, q⟩ => exact q.elim
  | .cont, ⟨_, _, _, q⟩ => exact q.elim
end
section
variable {X : Cx} {CX : CXT} {k : Nat} {f : Addr} {fd : FuncData} {ps ks : List Str} {sp : Sp} {E : XK} {x : Str} {p pos : Pos} {e : Expr} {es : List Expr} {t : TA}
theorem runG {pins : List (Addr × Obj)} {σ : L2.St} {H : Hp} {s : Shared} {Q : VK} {args : Args} {us : List Value} {vs : List V} (F : FnG X.prog X.w X.K X.mg X.base CX k f fd ps sp) (room : Room k X.A) (gd : X.A.guards = some []) (hx : Passes CX X E)
    (I : Inv X pins σ H s) (bind : BindsTo s fd args (ps.zip us)) (r : Vals vs us) (h : sp vs H Q E) : codeAny (model X.prog X.w) X.A (.call (.ref f) args) (fun r s' => match r with | .ok (.ret u) => EP X pins σ Q u s' | .ok _ => False | .error e => X.xe e s') s :=
  codeAny_mono (F.go X.A X.stack s H args us vs Q E room gd I.env0 bind r h) fun res s' hq => match res, hq with
    | .ok (.ret u), hq => I.after hq
    | .ok .next, hq => hq.elim
    | .ok .brk, hq => hq.elim
    | .ok .cont, hq => hq.elim
    | .error e, hq => hx pins σ H s e s' I hq
theorem callG {pins : List (Addr × Obj)} {σ : L2.St} {H : Hp} {s : Shared} {Q : VK} {us ws : List Value} {zs : List V} {us' : List Value} (F : FnG X.prog X.w X.K X.mg X.base CX k f fd ps sp) (room : Room k X.A) (gd : X.A.guards = some []) (hx : Passes CX X E)
    (I : Inv X pins σ H s) (bind : BindsTo s fd ⟨us, ks.zip ws⟩ (ps.zip us')) (r : Vals zs us') (h : sp zs H Q E) : wpAny (model X.prog X.w) X.A (call (.ref f) us (ks.zip ws)) (EP X pins σ Q) X.xe s :=
  wpAny_call (codeAny_mono (runG F room gd hx I bind r h) fun res s' hq => match res, hq with
    | .ok (.ret u), hq => hq
    | .ok .next, hq => hq.elim
    | .ok .brk, hq => hq.elim
    | .ok .cont, hq => hq.elim
    | .error e, hq => hq)
theorem pe_callG (F : FnG X.prog X.w X.K X.mg X.base CX k f fd ps sp) (room : Room k X.A) (gd : X.A.guards = some []) (hg : Gl X x) (hm : X.mg x = some (.ref f)) (hk : PySem.W.keepIn X.K (.ref f) = true) (hb : Binds X.K fd ps []) (hx : Passes CX X E)
    (ha : PA X (e :: es) t) (hdb : (x == ("__debug__" : Str)) = false) (he : starEach (e :: es) X.env = (false, eval e X.env) :: starEach es X.env) (hpl : (backTo pos (starEach es X.env)).any (·.1) = false) :
    PE X (.Call (.Name x p) (e :: es) [] pos) (tCall sp [] E t) := by
  refine ⟨fun pins s σ H Q I h => wpAny_Call_Name_kw (ld_glob I hg hm ?_ hdb)⟩
  refine PySem.W.callWith_K (h₀ := X.base) I.ok.mod.kin hk (thn (ha.run pos pins s σ H _ I h) ?_) he hpl
  rintro us s1 ⟨vs, H1, I1, r, q⟩
  rw [List.append_nil] at q
  have hl : us.length = ps.length := by rw [← r.length]; exact F.arity _ _ _ _ q
  have b := hb s1 us I1.kIn (by rw [List.append_nil]; exact hl)
  rw [List.append_nil] at b
  exact ⟨I1.kIn, callG (ks := []) (ws := []) F room gd hx I1 b r q⟩
theorem pe_callG0 (F : FnG X.prog X.w X.K X.mg X.base CX k f fd ps sp) (room : Room k X.A) (gd : X.A.guards = some []) (hg : Gl X x) (hm : X.mg x = some (.ref f)) (hk : PySem.W.keepIn X.K (.ref f) = true) (hb : Binds X.K fd ps []) (hx : Passes CX X E)
    (hdb : (x == ("__debug__" : Str)) = false) : PE X (.Call (.Name x p) [] [] pos) (tCall sp [] E tNil) := by
  refine ⟨fun pins s σ H Q I h => wpAny_Call_Name_kw (ld_glob I hg hm ?_ hdb)⟩
  have q : sp [] H Q E := h
  have hl : ([] : List Value).length = ps.length := F.arity _ _ _ _ q
  have b := hb s [] I.kIn (by rw [List.append_nil]; exact hl)
  exact PySem.W.callWith_K0 I.kIn hk (callG (ks := []) (ws := []) F room gd hx I b .nil q)
theorem pe_callGK {kws : List Keyword} {tk : TA} {g : List Value → List Value → List Value} {gV : List V → List V → List V} (F : FnG X.prog X.w X.K X.mg X.base CX k f fd ps sp) (room : Room k X.A) (gd : X.A.guards = some []) (hg : Gl X x) (hm : X.mg x = some (.ref f)) (hk : PySem.W.keepIn X.K (.ref f) = true) (hb : KBinds X.K fd ps ks g gV) (hx : Passes CX X E)
    (hkw : PK X kws tk) (hall : (backToKw pos (keywordEach kws X.env)).all (·.1.isSome) = true) (hks : (backToKw pos (keywordEach kws X.env)).filterMap (·.1) = ks)
    (hdb : (x == ("__debug__" : Str)) = false) (hpl : ((backTo pos (starEach [] X.env)).any (·.1) || (backToKw pos (keywordEach kws X.env)).any (·.1.isNone)) = false) :
    PE X (.Call (.Name x p) [] kws pos) (tCallK sp gV E tNil tk) := by
  refine ⟨fun pins s σ H Q I h => wpAny_Call_Name_kw (ld_glob I hg hm ?_ hdb)⟩
  refine PySem.W.callWith_KW0 (h₀ := X.base) I.ok.mod.kin hk hall (thn (hkw.run pos pins s σ H _ I h) ?_) hpl
  rintro ws s2 ⟨zs, H2, I2, rz, q⟩
  have r2 := hb.rel (.nil : Vals [] []) rz
  rw [hks]
  exact ⟨I2.kIn, callG F room gd hx I2 (hb.to s2 [] ws I2.kIn (by rw [← r2.length]; exact F.arity _ _ _ _ q)) r2 q⟩
end
/-! ### repr of data -/
section
variable {X : Cx}
mutual
theorem Dp.noDict {K : PySem.W.Frag} {H : Hp} : ∀ {v : V} {d : PyData}, Dp K H v d → d.hasDict = false
  | _, _, .non => by simp [PyData.hasDict]
  | _, _, .bl _ => by simp [PyData.hasDict]
  | _, _, .int _ => by simp [PyData.hasDict]
  | _, _, .str _ => by simp [PyData.hasDict]
  | _, _, .lst _ h => by rw [PyData.hasDict]; exact DpAll.noDict h
  | _, _, .tup _ h => by rw [PyData.hasDict]; exact DpAll.noDict h
theorem DpAll.noDict {K : PySem.W.Frag} {H : Hp} : ∀ {vs : List V} {ds : List PyData}, DpAll K H vs ds → PyData.hasDictAll ds = false
  | _, _, .nil => by simp [PyData.hasDictAll]
  | _, _, .cons h1 h2 => by rw [PyData.hasDictAll, Dp.noDict h1, DpAll.noDict h2]; rfl
end
theorem call_reprD (gd : X.A.guards = some []) (hu : X.A.units + 100 < cLine) : CallR X (.builtin "repr") (fun xs H Q => ∃ v d, xs = [v] ∧ Dp X.K H v d ∧ d.showable = true ∧ d.depth ≤ 64 ∧ d.shown.length ≤ sizeLine ∧ Q (.str d.shown) H) := by
  intro pins s σ H xs us Q I rv h
  obtain ⟨v, d, rfl, hd, hs, hdep, hlen, q⟩ := h
  obtain ⟨u, rfl, ru⟩ := rv.one
  obtain ⟨as, r⟩ := Dp.reads I d v u hd ru
  have nd : d.hasDict = true → sysModules ∉ as := fun z => by rw [Dp.noDict hd] at z; cases z
  cases hd with
  | non =>
    cases ru
    exact PySem.P.repr_of_none ⟨.str _, H, I.tok _, ⟨_, rfl⟩, q⟩
  | bl b =>
    cases ru
    exact PySem.P.repr_of_bool ⟨.str _, H, I.tok _, ⟨_, rfl⟩, q⟩
  | int i =>
    obtain ⟨t, rfl⟩ := ru
    exact PySem.P.repr_of_int (by simpa [PyData.showable] using hs) ⟨.str _, H, I.tok _, ⟨_, rfl⟩, q⟩
  | str z =>
    obtain ⟨t, rfl⟩ := ru
    exact PySem.P.repr_of_str ⟨.str _, H, I.tok _, ⟨_, rfl⟩, q⟩ (by simpa [PyData.shown] using hlen)
  | lst h1 h2 =>
    cases ru
    exact repr_of_reads' r hs nd gd (by omega) (fun _ _ e => e) (fun h' u tk hk => ⟨.str _, H, I.kept hk, ⟨_, rfl⟩, q⟩) hlen
  | tup h1 h2 =>
    cases ru
    exact repr_of_reads' r hs nd gd (by omega) (fun _ _ e => e) (fun h' u tk hk => ⟨.str _, H, I.kept hk, ⟨_, rfl⟩, q⟩) hlen
end
end Gw

namespace Gw
open PySem L2

/-! ### calls of the program's own defs -/
abbrev ASp := List D → Mem → (Ret → Mem → Prop) → Prop
def Post (K : PySem.W.Frag) (H G : Hp) (M : Mem) (H' G' : Hp) (M' : Mem) : Prop :=
  Stp ⟨H, G, dom M⟩ H' G' M' ∧ Ex G' H' ∧ (dom M').Nodup ∧ ∀ a c, (a, c) ∈ M' → Cel K H' G' a c
def RetOk (K : PySem.W.Frag) (H H' G' : Hp) (M' : Mem) : Ret → V → Prop
  | .dat d, v => Rep K G' d v
  | .tmp c, v => ∃ p, v = .ref p ∧ H p = none ∧ Cel K H' G' p c ∧ p ∉ dom M'
  | .var _, _ => False
def spA (K : PySem.W.Frag) (n : Nat) (S : ASp) : Sp := fun vs H Q _ => ∃ G M ds, vs.length = n ∧ Ex G H ∧ (dom M).Nodup ∧ (∀ a c, (a, c) ∈ M → Cel K H G a c) ∧ RepL K G ds vs ∧
  ∃ Qa : Ret → Mem → Prop, S ds M Qa ∧ ∀ r M' v H' G', Qa r M' → Post K H G M H' G' M' → RetOk K H H' G' M' r v → Q v H'
section
variable {X : Cx} {a b c : Expr} {ta tb tc te : TE} {aa ab ac ae : AE} {pos : Pos} {K : PySem.W.Frag} {B : Ent} {σ : St} {H G H1 G1 H2 G2 : Hp} {Γ Γ1 Γ2 : Sl} {M M1 M2 : Mem}
theorem not_both {H : Hp} {x : Addr} {o : HO} (h : H x = some o) (z : H x = none) : False := by rw [h] at z; cases z
theorem Stp.trans (a : Stp B H1 G1 M1) (b : Stp ⟨H1, G1, dom M1⟩ H2 G2 M2) : Stp B H2 G2 M2 where
  g := a.g.trans b.g
  fr := fun x o h n => b.fr x o (a.fr x o h n) fun m => (a.mn x m).elim n (not_both h)
  gn := fun x o h => (b.gn x o h).elim (fun z => a.gn x o z) fun z => .inr (a.nn x z)
  mn := fun x h => (b.mn x h).elim (fun z => a.mn x z) fun z => .inr (a.nn x z)
  nn := fun x h => a.nn x (b.nn x h)
/-- behind a call -/
theorem Ok.call {H' G' : Hp} {M' : Mem} {r : Ret} {v : V} (k : Ok K B σ H G Γ M) (p : Post K H G M H' G' M') (rr : RetOk K H H' G' M' r v) :
    Ok K B σ H' G' Γ M' ∧ Es σ H G Γ M H' G' Γ M' ∧ RepR K B σ H H' G' Γ M' r v := by
  obtain ⟨st, ex, nd, ms⟩ := p
  have keep : ∀ x o, H x = some o → G x = none → x ∉ dom M → H' x = some o ∧ G' x = none ∧ x ∉ dom M' := fun x o h g m => by
    refine ⟨st.fr x o h m, ?_, fun z => (st.mn x z).elim m (not_both h)⟩
    cases e : G' x with
    | none => rfl
    | some u =>
      rcases st.gn x u e with z | z
      · exact (not_both z g).elim
      · exact (not_both h z).elim
  have k' : Ok K B σ H' G' Γ M' := ⟨k.st.trans st, ex, nd, ms, fun i d h => let ⟨w, h1, h2⟩ := k.dat i d h; ⟨w, h1, h2.mono st.g⟩, fun i c h => by
    obtain ⟨q, h1, h2, h3, hg, o, ho, hc⟩ := k.own i c h
    obtain ⟨b1, b2, b3⟩ := keep q o ho hg h3
    exact ⟨q, h1, h2, b3, b2, o, b1, hc.mono st.g⟩, k.dis, k.len⟩
  refine ⟨k', ⟨st.g, fun x o h g m n => let ⟨b1, b2, b3⟩ := keep x o h g m; ⟨b1, b2, b3, n⟩, st.nn⟩, ?_⟩
  cases r with
  | dat d => exact rr
  | tmp c =>
    obtain ⟨q, e, hq, hc, hm⟩ := rr
    refine ⟨q, e, hq, k.st.nn q hq, hc, hm, fun ⟨i, c', h1, h2⟩ => ?_⟩
    obtain ⟨q', h3, _, _, _, o, ho, _⟩ := k.own i c' h1
    rw [h2] at h3; cases h3; rw [hq] at ho; cases ho
  | var i => exact rr.elim
/-- a promise taken at its arguments; what follows is kept from the simplifier -/
structure Wit (Q : Ret → Mem → Prop) : Type where
def ap (S : ASp) (ds : List D) (M : Mem) (Q : Ret → Mem → Prop) (_ : Wit Q) : Prop := S ds M Q
def aCall (S : ASp) (aa : AA) (Γ : Sl) (M : Mem) (Q : Ret → Sl → Mem → Prop) : Prop := aa Γ M fun ds Γ1 M1 => ap S ds M1 (fun r M2 => Q r Γ1 M2) ⟨⟩
/-- a spec of n arguments -/
def Ar (n : Nat) (S : ASp) : Prop := ∀ ds M Q, S ds M Q → ds.length = n
theorem rd_call {n : Nat} {S : ASp} {E : XK} {tr : TA} {ar : AA} (hn : Ar n S) (ha : RdA K tr ar) : RdE K (tCall (spA K n S) [] E tr) (aCall S ar) := by
  intro B σ H G Γ M Q R k h q
  refine ha B σ H G Γ M _ _ k h fun vs H1 G1 Γ1 M1 ds k1 e1 rl h1 => ?_
  refine ⟨G1, M1, ds, by rw [List.append_nil, rl.length]; exact hn _ _ _ h1, k1.ex, k1.nd, k1.ms, by rw [List.append_nil]; exact rl, _, h1, fun r M' v H' G' hq p rr => ?_⟩
  obtain ⟨k2, e2, r2⟩ := k1.call p rr
  exact q _ H' G' Γ1 M' r k2 (e1.trans e2) (r2.old e1.nn) hq
section
variable {CX : CXT} {k n : Nat} {f : Addr} {fd : FuncData} {ps ks : List Str} {S : ASp} {x : Str} {p : Pos} {es : List Expr} {tr : TA} {ar : AA}
theorem q_call (F : FnG X.prog X.w X.K X.mg X.base CX0 k f fd ps (spA X.K n S)) (hr : Room k X.A) (gd : X.A.guards = some []) (hm : X.mg x = some (.ref f)) (hk : PySem.W.keepIn X.K (.ref f) = true) (hb : Binds X.K fd ps []) (hn : Ar n S)
    (ha : QA X (a :: es) tr ar) (hg : Gl X x := by rfl) (hdb : (x == ("__debug__" : Str)) = false := by decide) (he : starEach (a :: es) X.env = (false, eval a X.env) :: starEach es X.env := by rfl) (hpl : (backTo pos (starEach es X.env)).any (·.1) = false := by rfl) :
    QE X (.Call (.Name x p) (a :: es) [] pos) (tCall (spA X.K n S) [] E0 tr) (aCall S ar) := ⟨pe_callG F hr gd hg hm hk hb pass0 ha.pe hdb he hpl, rd_call hn ha.rd⟩
theorem q_call0 (F : FnG X.prog X.w X.K X.mg X.base CX0 k f fd ps (spA X.K n S)) (hr : Room k X.A) (gd : X.A.guards = some []) (hm : X.mg x = some (.ref f)) (hk : PySem.W.keepIn X.K (.ref f) = true) (hb : Binds X.K fd ps []) (hn : Ar n S)
    (hg : Gl X x := by rfl) (hdb : (x == ("__debug__" : Str)) = false := by decide) :
    QE X (.Call (.Name x p) [] [] pos) (tCall (spA X.K n S) [] E0 tNil) (aCall S aNil) := ⟨pe_callG0 F hr gd hg hm hk hb pass0 hdb, rd_call hn rd_nil⟩
/-! with keywords alone: gV puts what is given in the parameters' order -/
structure QK (X : Cx) (kws : List Keyword) (tk : TA) (ak : AA) : Prop where
  pe : PK X kws tk
  rd : RdA X.K tk ak
theorem qk_nil : QK X [] tNil aNil := ⟨pk_nil, rd_nil⟩
theorem qk_cons {kws : List Keyword} {nm : Option Str} {kpos : Pos} {tk : TA} {ak : AA} (ha : QE X a ta aa) (hr : QK X kws tk ak) : QK X (⟨nm, a, kpos⟩ :: kws) (tCons ta tk) (aCons aa ak) := ⟨pk_cons ha.pe hr.pe, rd_cons ha.rd hr.rd⟩
/-- one order of the parameters for values, the model's and data -/
structure Ord (gV : List V → List V → List V) (gD : List D → List D) : Prop where
  rep : ∀ {K G vs ds}, RepL K G ds vs → RepL K G (gD ds) (gV [] vs)
def aCallK (S : ASp) (gD : List D → List D) (ak : AA) (Γ : Sl) (M : Mem) (Q : Ret → Sl → Mem → Prop) : Prop := ak Γ M fun ds Γ1 M1 => ap S (gD ds) M1 (fun r M2 => Q r Γ1 M2) ⟨⟩
theorem q_callK0 {kws : List Keyword} {tk : TA} {ak : AA} {g : List Value → List Value → List Value} {gV : List V → List V → List V} {gD : List D → List D} (F : FnG X.prog X.w X.K X.mg X.base CX0 k f fd ps (spA X.K n S)) (hr : Room k X.A) (gd : X.A.guards = some []) (hm : X.mg x = some (.ref f)) (hk : PySem.W.keepIn X.K (.ref f) = true) (hb : KBinds X.K fd ps ks g gV) (ho : Ord gV gD) (hn : Ar n S)
    (hkw : QK X kws tk ak) (hg : Gl X x := by rfl) (hall : (backToKw pos (keywordEach kws X.env)).all (·.1.isSome) = true := by rfl) (hks : (backToKw pos (keywordEach kws X.env)).filterMap (·.1) = ks := by rfl)
    (hdb : (x == ("__debug__" : Str)) = false := by decide) (hpl : ((backTo pos (starEach [] X.env)).any (·.1) || (backToKw pos (keywordEach kws X.env)).any (·.1.isNone)) = false := by rfl) :
    QE X (.Call (.Name x p) [] kws pos) (tCallK (spA X.K n S) gV E0 tNil tk) (aCallK S gD ak) := ⟨pe_callGK F hr gd hg hm hk hb pass0 hkw.pe hall hks hdb hpl, by
  intro B σ H G Γ M Q R k h q
  refine hkw.rd B σ H G Γ M _ _ k h fun vs H1 G1 Γ1 M1 ds k1 e1 rl h1 => ?_
  refine ⟨G1, M1, gD ds, by rw [(ho.rep rl).length]; exact hn _ _ _ h1, k1.ex, k1.nd, k1.ms, ho.rep rl, _, h1, fun r M' v H' G' hq p rr => ?_⟩
  obtain ⟨k2, e2, r2⟩ := k1.call p rr
  exact q _ H' G' Γ1 M' r k2 (e1.trans e2) (r2.old e1.nn) hq⟩
end

/-! ### statements -/
structure Sim (K : PySem.W.Frag) (B : Ent) (A : AEnds) (E : Ends) : Prop where
  nx : ∀ σ H G Γ M, Ok K B σ H G Γ M → A.nx Γ M → E.nx σ H
  rt : ∀ σ H0 H G Γ M r v, Ok K B σ H G Γ M → RepR K B σ H0 H G Γ M r v → A.rt r Γ M → E.rt v H
  bk : ∀ σ H G Γ M, Ok K B σ H G Γ M → A.bk Γ M → E.bk σ H
  ct : ∀ σ H G Γ M, Ok K B σ H G Γ M → A.ct Γ M → E.ct σ H
def RdS (K : PySem.W.Frag) (ts : TS) (as : AS) : Prop := ∀ B σ H G Γ M A E, Ok K B σ H G Γ M → as A Γ M → Sim K B A E → ts E σ H
structure QS (X : Cx) (st : Stmt) (ts : TS) (as : AS) : Prop where
  pe : PS X st ts
  rd : RdS X.K ts as
structure QSs (X : Cx) (st : List Stmt) (ts : TS) (as : AS) : Prop where
  pe : PSs X st ts
  rd : RdS X.K ts as
def aNext (A : AEnds) (Γ : Sl) (M : Mem) : Prop := A.nx Γ M
def aSeq (s t : AS) (A : AEnds) (Γ : Sl) (M : Mem) : Prop := s { A with nx := t A } Γ M
theorem Sim.seq {A : AEnds} {E : Ends} {t : AS} {tt : TS} (s : Sim K B A E) (h : RdS K tt t) : Sim K B { A with nx := t A } { E with nx := tt E } :=
  ⟨fun σ H G Γ M k q => h B σ H G Γ M A E k q s, s.rt, s.bk, s.ct⟩
theorem qss_nil : QSs X [] tNext aNext := ⟨pss_nil, fun _ σ H G Γ M _ _ k h s => s.nx σ H G Γ M k h⟩
theorem qss_cons {st : Stmt} {rest : List Stmt} {ts tr : TS} {as ar : AS} (h1 : QS X st ts as) (h2 : QSs X rest tr ar) : QSs X (st :: rest) (tSeq ts tr) (aSeq as ar) :=
  ⟨pss_cons h1.pe h2.pe, fun B σ H G Γ M A E k h s => h1.rd B σ H G Γ M _ _ k h (s.seq h2.rd)⟩
theorem qss_one {st : Stmt} {ts : TS} {as : AS} (h1 : QS X st ts as) : QSs X [st] ts as := ⟨pss_one h1.pe, h1.rd⟩
theorem qs_pass : QS X (.Pass pos) tNext aNext := ⟨ps_pass, fun _ σ H G Γ M _ _ k h s => s.nx σ H G Γ M k h⟩
def aBrk (A : AEnds) (Γ : Sl) (M : Mem) : Prop := A.bk Γ M
def aCnt (A : AEnds) (Γ : Sl) (M : Mem) : Prop := A.ct Γ M
theorem qs_break : QS X (.Break pos) tBreak aBrk := ⟨ps_break, fun _ σ H G Γ M _ _ k h s => s.bk σ H G Γ M k h⟩
theorem qs_continue : QS X (.Continue pos) tCont aCnt := ⟨ps_continue, fun _ σ H G Γ M _ _ k h s => s.ct σ H G Γ M k h⟩
def aDrop (aa : AE) (A : AEnds) (Γ : Sl) (M : Mem) : Prop := aa Γ M fun _ Γ1 M1 => A.nx Γ1 M1
theorem qs_expr (h : QE X a ta aa) (hs : swapsWith a none pos.line X.env = pure false := by rfl) : QS X (.Expr a pos) (tDrop ta) (aDrop aa) :=
  ⟨ps_expr h.pe hs, fun B σ H G Γ M A E k hh s => h.rd B σ H G Γ M _ _ k hh fun v H1 G1 Γ1 M1 r k1 _ _ q => s.nx σ H1 G1 Γ1 M1 k1 q⟩
def aRet (aa : AE) (A : AEnds) (Γ : Sl) (M : Mem) : Prop := aa Γ M fun r Γ1 M1 => A.rt r Γ1 M1
theorem qs_ret (h : QE X a ta aa) : QS X (.Return (some a) pos) (tRet ta) (aRet aa) :=
  ⟨ps_ret h.pe, fun B σ H G Γ M A E k hh s => h.rd B σ H G Γ M _ _ k hh fun v H1 G1 Γ1 M1 r k1 _ rr q => s.rt σ H H1 G1 Γ1 M1 r v k1 rr q⟩
def aIfS (t : AT) (s u : AS) (A : AEnds) (Γ : Sl) (M : Mem) : Prop := t Γ M fun b Γ1 M1 => if b = true then s A Γ1 M1 else u A Γ1 M1
theorem qs_if {tt : TT} {at' : AT} {s1 s2 : List Stmt} {ts tu : TS} {as au : AS} (hc : QT X c tt at') (h1 : QSs X s1 ts as) (h2 : QSs X s2 tu au) : QS X (.If c s1 s2 pos) (tIfS tt ts tu) (aIfS at' as au) :=
  ⟨ps_if hc.pe h1.pe h2.pe, fun B σ H G Γ M A E k h s => hc.rd B σ H G Γ M _ _ k h fun b H1 G1 Γ1 M1 k1 _ q => by
    cases b with
    | true => exact h1.rd B σ H1 G1 Γ1 M1 A E k1 (by simpa using q) s
    | false => exact h2.rd B σ H1 G1 Γ1 M1 A E k1 (by simpa using q) s⟩

/-! ### stores -/
theorem set_get {α : Type} {l : List α} {i j : Nat} {s t : α} (h : (l.set i s)[j]? = some t) : (j = i ∧ t = s) ∨ (j ≠ i ∧ l[j]? = some t) := by
  rw [List.getElem?_set] at h
  by_cases e : i = j
  · rw [if_pos e] at h
    split at h
    · cases h; exact .inl ⟨e.symm, rfl⟩
    · cases h
  · rw [if_neg e] at h; exact .inr ⟨fun q => e q.symm, h⟩
theorem lt_of_set {α : Type} {l : List α} {i : Nat} {s t : α} (h : (l.set i s)[i]? = some t) : i < l.length := by
  have := (List.getElem?_eq_some_iff.mp h).1
  rwa [List.length_set] at this
theorem owned_set {i : Nat} {v : V} {s : Slot} {x : Addr} (hs : ∀ c, s ≠ .own c) (h : owned (σ.set i (some v)) (Γ.set i s) x) : owned σ Γ x := by
  obtain ⟨j, c, h1, h2⟩ := h
  rcases set_get h1 with ⟨_, e⟩ | ⟨ne, e⟩
  · exact (hs c e.symm).elim
  · refine ⟨j, c, e, ?_⟩
    rw [List.getElem?_set_ne (fun q => ne q.symm)] at h2; exact h2
theorem Ok.setD {i : Nat} {d : D} {v : V} (k : Ok K B σ H G Γ M) (r : Rep K G d v) : Ok K B (σ.set i (some v)) H G (Γ.set i (.dat d)) M := by
  refine ⟨k.st, k.ex, k.nd, k.ms, fun j e h => ?_, fun j c h => ?_, fun j l c c' q h h' a b => ?_, by rw [List.length_set, List.length_set]; exact k.len⟩
  · rcases set_get h with ⟨e1, e2⟩ | ⟨ne, e1⟩
    · cases e2; subst e1
      refine ⟨v, ?_, r⟩
      rw [List.getElem?_set_self]
      rw [← k.len]; exact lt_of_set h
    · rw [List.getElem?_set_ne (fun q => ne q.symm)]; exact k.dat j e e1
  · rcases set_get h with ⟨_, e2⟩ | ⟨ne, e1⟩
    · cases e2
    · rw [List.getElem?_set_ne (fun q => ne q.symm)]; exact k.own j c e1
  · rcases set_get h with ⟨_, e2⟩ | ⟨ne, e1⟩
    · cases e2
    rcases set_get h' with ⟨_, e2⟩ | ⟨ne', e1'⟩
    · cases e2
    rw [List.getElem?_set_ne (fun q => ne q.symm)] at a
    rw [List.getElem?_set_ne (fun q => ne' q.symm)] at b
    exact k.dis j l c c' q e1 e1' a b
theorem Ok.setO {i : Nat} {c : Cell} {p : Addr} (k : Ok K B σ H G Γ M) (hb : B.H p = none) (hc : Cel K H G p c) (hm : p ∉ dom M) (hn : ¬ owned σ Γ p) : Ok K B (σ.set i (some (.ref p))) H G (Γ.set i (.own c)) M := by
  refine ⟨k.st, k.ex, k.nd, k.ms, fun j e h => ?_, fun j c h => ?_, fun j l cj cl q h h' a b => ?_, by rw [List.length_set, List.length_set]; exact k.len⟩
  · rcases set_get h with ⟨_, e2⟩ | ⟨ne, e1⟩
    · cases e2
    · rw [List.getElem?_set_ne (fun q => ne q.symm)]; exact k.dat j e e1
  · rcases set_get h with ⟨e1, e2⟩ | ⟨ne, e1⟩
    · cases e2; subst e1
      refine ⟨p, ?_, hb, hm, hc⟩
      rw [List.getElem?_set_self]
      rw [← k.len]; exact lt_of_set h
    · rw [List.getElem?_set_ne (fun q => ne q.symm)]; exact k.own j c e1
  · rcases set_get h with ⟨ei, e2⟩ | ⟨ne, e1⟩ <;> rcases set_get h' with ⟨ei', e2'⟩ | ⟨ne', e1'⟩
    · rw [ei, ei']
    · exfalso
      subst ei
      rw [List.getElem?_set_self (by rw [← k.len]; exact lt_of_set h)] at a
      cases a
      rw [List.getElem?_set_ne (fun q => ne' q.symm)] at b
      exact hn ⟨l, cl, e1', b⟩
    · exfalso
      subst ei'
      rw [List.getElem?_set_self (by rw [← k.len]; exact lt_of_set h')] at b
      cases b
      rw [List.getElem?_set_ne (fun q => ne q.symm)] at a
      exact hn ⟨j, cj, e1, a⟩
    · rw [List.getElem?_set_ne (fun q => ne q.symm)] at a
      rw [List.getElem?_set_ne (fun q => ne' q.symm)] at b
      exact k.dis j l cj cl q e1 e1' a b
/-- x = e: a new list is owned -/
def aAsg (aa : AE) (i : Nat) (A : AEnds) (Γ : Sl) (M : Mem) : Prop := aa Γ M fun r Γ1 M1 => match r with
  | .tmp c => A.nx (Γ1.set i (.own c)) M1
  | r => frz r Γ1 fun d Γ2 => A.nx (Γ2.set i (.dat d)) M1
/-- x = e: a new list is frozen -/
def aAsgF (aa : AE) (i : Nat) (A : AEnds) (Γ : Sl) (M : Mem) : Prop := aa Γ M fun r Γ1 M1 => frz r Γ1 fun d Γ2 => A.nx (Γ2.set i (.dat d)) M1
theorem rd_asgF {i : Nat} (ha : RdE K ta aa) : RdS K (tAsg ta (gName i)) (aAsgF aa i) := fun B σ H G Γ M A E k h s => ha B σ H G Γ M _ _ k h fun v H1 G1 Γ1 M1 r k1 e1 rr h1 => by
  obtain ⟨G2, Γ2, d, k2, e2, rp, h2⟩ := frz_ok (H0 := H) k1 e1 rr h1
  exact s.nx _ H1 G2 _ M1 (k2.setD rp) h2
theorem rd_asg {i : Nat} (ha : RdE K ta aa) : RdS K (tAsg ta (gName i)) (aAsg aa i) := fun B σ H G Γ M A E k h s => ha B σ H G Γ M _ _ k h fun v H1 G1 Γ1 M1 r k1 e1 rr h1 => by
  cases r with
  | tmp c =>
    obtain ⟨p, rfl, h0, hb, hc, hm, hn⟩ := rr
    exact s.nx _ H1 G1 _ M1 (k1.setO hb hc hm hn) h1
  | dat d =>
    obtain ⟨G2, Γ2, d, k2, e2, rp, h2⟩ := frz_ok (H0 := H) k1 e1 rr h1
    exact s.nx _ H1 G2 _ M1 (k2.setD rp) h2
  | var j =>
    obtain ⟨G2, Γ2, d, k2, e2, rp, h2⟩ := frz_ok (H0 := H) k1 e1 rr h1
    exact s.nx _ H1 G2 _ M1 (k2.setD rp) h2
section
variable {i : Nat} {x : Str} {pos' : Pos}
theorem qs_set (i : Nat) (hN : X.N.Nodup) (h : QE X a ta aa) (hi : X.N[i]? = some x := by rfl) (hx : Loc X.env.scope x := by first | exact Or.inl rfl | exact Or.inr rfl) (hs : swapsWith a (some (.Name x pos')) pos.line X.env = pure false := by rfl) (hf : X.fn x = true ∨ X.env.scope.names.lookup x = some .local := by first | exact .inl rfl | exact .inr rfl | assumption) :
    QS X (.Assign [.Name x pos'] a pos) (tAsg ta (gName i)) (aAsg aa i) := ⟨ps_set hN hi hx h.pe hs hf, rd_asg h.rd⟩
theorem qs_setF (i : Nat) (hN : X.N.Nodup) (h : QE X a ta aa) (hi : X.N[i]? = some x := by rfl) (hx : Loc X.env.scope x := by first | exact Or.inl rfl | exact Or.inr rfl) (hs : swapsWith a (some (.Name x pos')) pos.line X.env = pure false := by rfl) (hf : X.fn x = true ∨ X.env.scope.names.lookup x = some .local := by first | exact .inl rfl | exact .inr rfl | assumption) :
    QS X (.Assign [.Name x pos'] a pos) (tAsg ta (gName i)) (aAsgF aa i) := ⟨ps_set hN hi hx h.pe hs hf, rd_asgF h.rd⟩
end
/-! targets -/
abbrev AG := D → Sl → (Sl → Prop) → Prop
abbrev AGs := List D → Sl → (Sl → Prop) → Prop
def RdG (K : PySem.W.Frag) (tg : TG) (ag : AG) (is : List Nat) : Prop := ∀ B σ H G Γ M d v (Q : Sl → Prop) (R : St → Hp → Prop), Ok K B σ H G Γ M → Rep K G d v → ag d Γ Q →
  (∀ σ' Γ', Ok K B σ' H G Γ' M → (∀ ws : List Nat, (∀ j ∈ is, j ∈ ws) → wipe σ' ws = wipe σ ws) → (∀ x, owned σ' Γ' x → owned σ Γ x) → Q Γ' → R σ' H) → tg v σ H R
def RdGs (K : PySem.W.Frag) (tg : TGs) (ag : AGs) (is : List Nat) : Prop := ∀ B σ H G Γ M ds vs (Q : Sl → Prop) (R : St → Hp → Prop), Ok K B σ H G Γ M → RepL K G ds vs → ag ds Γ Q →
  (∀ σ' Γ', Ok K B σ' H G Γ' M → (∀ ws : List Nat, (∀ j ∈ is, j ∈ ws) → wipe σ' ws = wipe σ ws) → (∀ x, owned σ' Γ' x → owned σ Γ x) → Q Γ' → R σ' H) → tg vs σ H R
structure QG (X : Cx) (tg : Expr) (t : TG) (ag : AG) (is : List Nat) : Prop where
  pe : PG X tg t
  rd : RdG X.K t ag is
structure QGs (X : Cx) (tgs : List Expr) (t : TGs) (ag : AGs) (is : List Nat) : Prop where
  pe : PGs X tgs t
  rd : RdGs X.K t ag is
def agN (i : Nat) (d : D) (Γ : Sl) (Q : Sl → Prop) : Prop := Q (Γ.set i (.dat d))
def agNil (ds : List D) (Γ : Sl) (Q : Sl → Prop) : Prop := match ds with
  | [] => Q Γ
  | _ => False
def agCons (g : AG) (u : AGs) (ds : List D) (Γ : Sl) (Q : Sl → Prop) : Prop := match ds with
  | d :: r => g d Γ fun Γ1 => u r Γ1 Q
  | _ => False
def agT (n : Nat) (u : AGs) (d : D) (Γ : Sl) (Q : Sl → Prop) : Prop := match d with
  | .tup ds => ds.length = n ∧ u ds Γ Q
  | _ => False
theorem wipe_set {i : Nat} {v : Option V} : ∀ (ws : List Nat) (σ : St), i ∈ ws → wipe (σ.set i v) ws = wipe σ ws
  | [], _, h => by simp at h
  | w :: ws, σ, h => by
    unfold wipe
    by_cases hi : i ∈ ws
    · rw [wipe_set ws σ hi]
    · have e : i = w := by simpa [hi] using h
      subst e
      have comm : ∀ (us : List Nat) (σ : St), i ∉ us → wipe (σ.set i v) us = (wipe σ us).set i v := by
        intro us
        induction us with
        | nil => intro σ _; rfl
        | cons u us ih =>
          intro σ hu
          rw [List.mem_cons, not_or] at hu
          unfold wipe
          rw [ih σ hu.2, List.set_comm _ _ (fun e => hu.1 e)]
      rw [comm ws σ hi, List.set_set]
theorem rd_gN {i : Nat} : RdG K (gName i) (agN i) [i] := fun B σ H G Γ M d v Q R k r h q => q _ _ (k.setD r) (fun ws hw => wipe_set ws σ (hw i (by simp))) (fun x h => owned_set (fun c e => by cases e) h) h
theorem rd_gNil : RdGs K gNil agNil [] := fun B σ H G Γ M ds vs Q R k r h q => by
  unfold agNil at h
  split at h
  · exact ⟨repL_nil.mp r, q σ Γ k (fun _ _ => rfl) (fun _ z => z) h⟩
  · exact h.elim
theorem rd_gCons {t : TG} {u : TGs} {g : AG} {ag : AGs} {is js : List Nat} (h1 : RdG K t g is) (h2 : RdGs K u ag js) : RdGs K (gCons t u) (agCons g ag) (is ++ js) := fun B σ H G Γ M ds vs Q R k r h q => by
  unfold agCons at h
  split at h
  · rename_i d ds
    obtain ⟨x, xs, rfl, r1, r2⟩ := repL_cons.mp r
    refine ⟨x, xs, rfl, h1 B σ H G Γ M d x _ _ k r1 h fun σ1 Γ1 k1 w1 o1 q1 => ?_⟩
    exact h2 B σ1 H G Γ1 M ds xs _ _ k1 r2 q1 fun σ2 Γ2 k2 w2 o2 q2 => q σ2 Γ2 k2 (fun ws hw => (w2 ws fun j hj => hw j (List.mem_append_right _ hj)).trans (w1 ws fun j hj => hw j (List.mem_append_left _ hj))) (fun x z => o1 x (o2 x z)) q2
  · exact h.elim
theorem rd_gT {n : Nat} {u : TGs} {ag : AGs} {is : List Nat} (h2 : RdGs K u ag is) : RdG K (gTup K n u) (agT n ag) is := fun B σ H G Γ M d v Q R k r h q => by
  unfold agT at h
  split at h
  · rename_i ds
    obtain ⟨a, xs, e, hq, rl⟩ := rep_tup.mp r
    exact ⟨a, xs, e, ex_t k.ex hq, by rw [rl.length]; exact h.1, h2 B σ H G Γ M ds xs Q R k rl h.2 q⟩
  · exact h.elim
section
variable {i : Nat} {x : Str} {pos' : Pos}
theorem qg_name (i : Nat) (hN : X.N.Nodup) (hi : X.N[i]? = some x := by rfl) (hx : Loc X.env.scope x := by first | exact Or.inl rfl | exact Or.inr rfl) (hf : X.fn x = true ∨ X.env.scope.names.lookup x = some .local := by first | exact .inl rfl | exact .inr rfl | assumption) : QG X (.Name x pos) (gName i) (agN i) [i] := ⟨pg_name hN hi hx hf, rd_gN⟩
theorem qgs_nil : QGs X [] gNil agNil [] := ⟨pgs_nil, rd_gNil⟩
theorem qgs_cons {es : List Expr} {t : TG} {u : TGs} {g : AG} {ag : AGs} {is js : List Nat} (h1 : QG X a t g is) (h2 : QGs X es u ag js) (hs : (assignEach (a :: es) X.env).map (·.2) = assign a X.env :: (assignEach es X.env).map (·.2) := by rfl) : QGs X (a :: es) (gCons t u) (agCons g ag) (is ++ js) := ⟨pgs_cons h1.pe h2.pe hs, rd_gCons h1.rd h2.rd⟩
theorem qg_tup {es : List Expr} {kk n : Nat} {u : TGs} {ag : AGs} {is : List Nat} (h : QGs X es u ag is) (hc : X.calm = true := by rfl) (hn : (assignEach es X.env).length = n := by rfl) (hst : (assignEach es X.env).findIdx? (·.1) = none := by rfl) (hK : X.K = K := by rfl) : QG X (.Tuple es kk pos) (gTup K n u) (agT n ag) is := by subst hK; exact ⟨pg_tup hc h.pe hn hst, rd_gT h.rd⟩
end
/-- a, b, .. = e -/
def aUnp (aa : AE) (g : AG) (A : AEnds) (Γ : Sl) (M : Mem) : Prop := aa Γ M fun r Γ1 M1 => frz r Γ1 fun d Γ2 => g d Γ2 fun Γ3 => A.nx Γ3 M1
theorem qs_unp {tg : Expr} {t : TG} {g : AG} {is : List Nat} (h : QE X a ta aa) (hg : QG X tg t g is) (hs : swapsWithSole [tg] a pos.line X.env = pure false := by rfl) (hw : swappedStores [tg] a X.env = pure none := by rfl) (h1 : (assignEach [tg] X.env).map (·.2) = [assign tg X.env] := by rfl) : QS X (.Assign [tg] a pos) (tAsg ta t) (aUnp aa g) :=
  ⟨ps_asg h.pe hg.pe hs hw h1, fun B σ H G Γ M A E k hh s => h.rd B σ H G Γ M _ _ k hh fun v H1 G1 Γ1 M1 r k1 e1 rr h1 => by
    obtain ⟨G2, Γ2, d, k2, e2, rp, h2⟩ := frz_ok (H0 := H) k1 e1 rr h1
    exact hg.rd B σ H1 G2 Γ2 M1 d v _ _ k2 rp h2 fun σ' Γ' k3 _ _ q => s.nx σ' H1 G2 Γ' M1 k3 q⟩
end
end Gw

namespace Gw
open PySem L2
section
variable {X : Cx} {a b c : Expr} {ta tb tc te : TE} {aa ab ac ae : AE} {pos : Pos} {K : PySem.W.Frag} {B : Ent} {σ : St} {H G H1 G1 H2 G2 : Hp} {Γ Γ1 Γ2 : Sl} {M M1 M2 : Mem}

/-! ### lists that are changed -/
def lget (r : Ret) (Γ : Sl) (M : Mem) : Option (List D) := match r with
  | .var i => match Γ[i]? with
    | some (.own (.lst ds)) => some ds
    | _ => none
  | .dat (.ref a) => match M.lookup a with
    | some (.lst ds) => some ds
    | _ => none
  | _ => none
def mput (M : Mem) (a : Addr) (c : Cell) : Mem := M.map fun x => if x.1 = a then (a, c) else x
def lput (r : Ret) (ds : List D) (Γ : Sl) (M : Mem) (k : Sl → Mem → Prop) : Prop := match r with
  | .var i => k (Γ.set i (.own (.lst ds))) M
  | .dat (.ref a) => k Γ (mput M a (.lst ds))
  | _ => False
theorem dom_mput (M : Mem) (a : Addr) (c : Cell) : dom (mput M a c) = dom M := by
  unfold dom mput
  rw [List.map_map]
  apply List.map_congr_left
  intro x _
  show (if x.1 = a then (a, c) else x).1 = x.1
  split
  · rename_i e; exact e.symm
  · rfl
theorem lget_ok {r : Ret} {v : V} {ds : List D} {H0 : Hp} (k : Ok K B σ H G Γ M) (rr : RepR K B σ H0 H G Γ M r v) (h : lget r Γ M = some ds) : ∃ l xs, v = .ref l ∧ H l = some (.lst xs) ∧ RepL K G ds xs := by
  cases r with
  | var i =>
    simp only [lget] at h
    split at h
    · rename_i ds' e1
      cases h
      obtain ⟨p, s1, hb, hm, hg, u, ho, vs, rfl, hr⟩ := k.own i _ e1
      have : v = .ref p := by have := (show σ[i]? = some (some v) from rr); rw [s1] at this; cases this; rfl
      exact ⟨p, vs, this, ho, hr⟩
    · cases h
  | dat d =>
    cases d with
    | ref a =>
      simp only [lget] at h
      split at h
      · rename_i ds' e1
        cases h
        obtain ⟨hg, u, ho, vs, rfl, hr⟩ := k.ms a _ (lookup_mem e1)
        exact ⟨a, vs, by have := rr; simp only [RepR, Rep] at this; exact this, ho, hr⟩
      · cases h
    | _ => cases h
  | tmp c => cases h
theorem lput_ok {r : Ret} {l : Addr} {ds ds' : List D} {xs' : List V} {H0 : Hp} {kk : Sl → Mem → Prop} (k : Ok K B σ H G Γ M) (rr : RepR K B σ H0 H G Γ M r (.ref l)) (h : lget r Γ M = some ds) (rl : RepL K G ds' xs') (hp : lput r ds' Γ M kk) :
    ∃ Γ' M', Ok K B σ (upd H l (.lst xs')) G Γ' M' ∧ Es σ H G Γ M (upd H l (.lst xs')) G Γ' M' ∧ kk Γ' M' := by
  have updN : ∀ x, upd H l (.lst xs') x = none → H x = none := fun x e => by
    by_cases z : x = l
    · subst z; rw [upd_same] at e; cases e
    · rw [upd_ne z] at e; exact e
  cases r with
  | tmp c => cases h
  | var i =>
    simp only [lget] at h
    split at h
    · rename_i dd e1
      cases h
      obtain ⟨p, s1, hb, hm, hg, u, ho, vs, rfl, hr⟩ := k.own i _ e1
      have e : p = l := by have := (show σ[i]? = some (some (.ref l)) from rr); rw [s1] at this; cases this; rfl
      subst e
      have exG : Ex G (upd H p (.lst xs')) := fun x o z => by
        have ne : x ≠ p := fun e => by subst e; rw [hg] at z; cases z
        rw [upd_ne ne]; exact k.ex x o z
      have cel : ∀ x c, x ≠ p → Cel K H G x c → Cel K (upd H p (.lst xs')) G x c := fun x c ne ⟨z1, o, z2, z3⟩ => ⟨z1, o, by rw [upd_ne ne]; exact z2, z3⟩
      refine ⟨_, _, ⟨⟨k.st.g, fun x o z n => ?_, k.st.gn, k.st.mn, fun x z => k.st.nn x (updN x z)⟩, exG, k.nd, fun x c z => cel x c (fun e => hm (e ▸ List.mem_map.mpr ⟨_, z, rfl⟩)) (k.ms x c z), fun j d z => ?_, fun j c z => ?_, fun j m cj cm q z z' a b => ?_, by rw [List.length_set]; exact k.len⟩, ⟨Ex.refl G, fun x o z g m n => ?_, updN⟩, hp⟩
      · have ne : x ≠ p := fun e => by subst e; rw [hb] at z; cases z
        rw [upd_ne ne]; exact k.st.fr x o z n
      · rcases set_get z with ⟨_, e⟩ | ⟨_, e⟩
        · cases e
        · exact k.dat j d e
      · rcases set_get z with ⟨e, e2⟩ | ⟨ne, e⟩
        · cases e2; subst e
          exact ⟨p, s1, hb, hm, hg, _, upd_same, xs', rfl, rl⟩
        · obtain ⟨q, y1, y2, y3, y4⟩ := k.own j c e
          exact ⟨q, y1, y2, y3, cel q c (fun eq => ne (k.dis j i _ _ p e e1 (eq ▸ y1) s1)) y4⟩
      · have own' : ∀ (j : Nat) (c : Cell), (Γ.set i (Slot.own (.lst ds')))[j]? = some (Slot.own c) → ∃ c', Γ[j]? = some (Slot.own c') := fun j c z => by
          rcases set_get z with ⟨e, _⟩ | ⟨_, e⟩
          · subst e; exact ⟨_, e1⟩
          · exact ⟨_, e⟩
        obtain ⟨c1, z1⟩ := own' j cj z
        obtain ⟨c2, z2⟩ := own' m cm z'
        exact k.dis j m c1 c2 q z1 z2 a b
      · have ne : x ≠ p := fun e => n ⟨i, _, e1, e ▸ s1⟩
        refine ⟨by rw [upd_ne ne]; exact z, g, m, fun ⟨j, c, y1, y2⟩ => n ?_⟩
        rcases set_get y1 with ⟨e, _⟩ | ⟨_, e⟩
        · subst e; exact ⟨_, _, e1, y2⟩
        · exact ⟨j, c, e, y2⟩
    · cases h
  | dat d =>
    cases d with
    | ref a =>
      simp only [lget] at h
      split at h
      · rename_i dd e1
        cases h
        obtain ⟨hg, u, ho, vs, rfl, hr⟩ := k.ms a _ (lookup_mem e1)
        have e : l = a := by have := rr; simp only [RepR, Rep] at this; cases this; rfl
        subst e
        have exG : Ex G (upd H l (.lst xs')) := fun x o z => by
          have ne : x ≠ l := fun e => by subst e; rw [hg] at z; cases z
          rw [upd_ne ne]; exact k.ex x o z
        have cel : ∀ x c, x ≠ l → Cel K H G x c → Cel K (upd H l (.lst xs')) G x c := fun x c ne ⟨z1, o, z2, z3⟩ => ⟨z1, o, by rw [upd_ne ne]; exact z2, z3⟩
        have inM : l ∈ dom M := List.mem_map.mpr ⟨_, lookup_mem e1, rfl⟩
        refine ⟨_, _, ⟨⟨k.st.g, fun x o z n => ?_, k.st.gn, ?_, fun x z => k.st.nn x (updN x z)⟩, exG, by rw [dom_mput]; exact k.nd, fun x c z => ?_, k.dat, fun j c z => ?_, k.dis, k.len⟩, ⟨Ex.refl G, fun x o z g m n => ?_, updN⟩, hp⟩
        · have ne : x ≠ l := fun e => by
            subst e
            rcases k.st.mn x inM with z' | z'
            · exact n z'
            · rw [z] at z'; cases z'
          rw [upd_ne ne]; exact k.st.fr x o z n
        · rw [dom_mput]; exact k.st.mn
        · unfold mput at z
          obtain ⟨y, hy, e⟩ := List.mem_map.mp z
          split at e
          · cases e; exact ⟨hg, _, upd_same, xs', rfl, rl⟩
          · rename_i ne
            obtain ⟨y1, y2⟩ := y
            cases e
            exact cel x c ne (k.ms x c hy)
        · obtain ⟨q, y1, y2, y3, y4⟩ := k.own j c z
          exact ⟨q, y1, y2, by rw [dom_mput]; exact y3, cel q c (fun e => y3 (e ▸ inM)) y4⟩
        · have ne : x ≠ l := fun e => m (e ▸ inM)
          exact ⟨by rw [upd_ne ne]; exact z, g, by rw [dom_mput]; exact m, n⟩
      · cases h
    | _ => cases h
/-- a list's method by what it does to the data -/
abbrev AM := List D → List D → (List D → D → Prop) → Prop
def RdM (r : V → List V → Hp → VK → Prop) (am : AM) : Prop := ∀ (K : PySem.W.Frag) (H G : Hp) (l : Addr) (xs vs : List V) (ds es : List D) (Q : List D → D → Prop) (R : VK), Ex G H → H l = some (.lst xs) → RepL K G ds xs → RepL K G es vs → am ds es Q →
  (∀ ds' d xs' v, RepL K G ds' xs' → Rep K G d v → Q ds' d → R v (upd H l (.lst xs'))) → r (.ref l) vs H R
def aMeth (am : AM) (ao : AE) (aa : AA) (Γ : Sl) (M : Mem) (Q : Ret → Sl → Mem → Prop) : Prop := ao Γ M fun r Γ1 M1 => (lget r Γ1 M1).isSome = true ∧ aa Γ1 M1 fun es Γ2 M2 => match lget r Γ2 M2 with
  | some ds => am ds es fun ds' d => lput r ds' Γ2 M2 fun Γ3 M3 => Q (.dat d) Γ3 M3
  | none => False
theorem rd_meth {r : V → List V → Hp → VK → Prop} {am : AM} {to : TE} {ao : AE} {tr : TA} {ar : AA} (hm : RdM r am) (ho : RdE K to ao) (ha : RdA K tr ar) : RdE K (tBM K "list" r to tr) (aMeth am ao ar) := by
  intro B σ H G Γ M Q R k h q
  refine ho B σ H G Γ M _ _ k h fun v H1 G1 Γ1 M1 r1 k1 e1 rr1 h1 => ?_
  obtain ⟨hs, h1⟩ := h1
  obtain ⟨ds1, hds⟩ := Option.isSome_iff_exists.mp hs
  obtain ⟨l1, xs1, ev, hl1, _⟩ := lget_ok k1 rr1 hds
  subst ev
  refine ⟨.inl ⟨rfl, xs1, SqL.of hl1⟩, ha B σ H1 G1 Γ1 M1 _ _ k1 h1 fun vs H2 G2 Γ2 M2 es k2 e2 rl h2 => ?_⟩
  have rr2 := rr1.es e2
  split at h2
  · rename_i ds hd
    obtain ⟨l, xs, ev, hl, hx⟩ := lget_ok k2 rr2 hd
    cases ev
    refine hm K H2 G2 l1 xs vs ds es _ _ k2.ex hl hx rl h2 fun ds' d xs' v rl' rd hq => ?_
    obtain ⟨Γ3, M3, k3, e3, hq⟩ := lput_ok k2 rr2 hd rl' hq
    exact q v _ G2 Γ3 M3 (.dat d) k3 ((e1.trans e2).trans e3) rd hq
  · exact h2.elim
def aMeth0 (am : AM) (ao : AE) (Γ : Sl) (M : Mem) (Q : Ret → Sl → Mem → Prop) : Prop := ao Γ M fun r Γ1 M1 => match lget r Γ1 M1 with
  | some ds => am ds [] fun ds' d => lput r ds' Γ1 M1 fun Γ3 M3 => Q (.dat d) Γ3 M3
  | none => False
theorem rd_meth0 {r : V → List V → Hp → VK → Prop} {am : AM} {to : TE} {ao : AE} (hm : RdM r am) (ho : RdE K to ao) : RdE K (tBM0 K "list" r to) (aMeth0 am ao) := by
  intro B σ H G Γ M Q R k h q
  refine ho B σ H G Γ M _ _ k h fun v H1 G1 Γ1 M1 r1 k1 e1 rr1 h1 => ?_
  split at h1
  · rename_i ds hd
    obtain ⟨l, xs, ev, hl, hx⟩ := lget_ok k1 rr1 hd
    subst ev
    refine ⟨.inl ⟨rfl, xs, SqL.of hl⟩, hm K H1 G1 l xs [] ds [] _ _ k1.ex hl hx (repL_nil.mpr rfl) h1 fun ds' d xs' v rl' rd hq => ?_⟩
    obtain ⟨Γ3, M3, k3, e3, hq⟩ := lput_ok k1 rr1 hd rl' hq
    exact q v _ G1 Γ3 M3 (.dat d) k3 (e1.trans e3) rd hq
  · exact h1.elim
section
variable {o e : Expr} {es : List Expr} {to : TE} {ao : AE} {tr : TA} {ar : AA} {apos cpos : Pos}
theorem q_bm {name : Str} {id : String} {r : V → List V → Hp → VK → Prop} {am : AM} (slot : PySem.Slot "list" name id) (hty : typeOf (.builtin id) = pure (.type "method_descriptor")) (hm : MtR X id r) (hd : RdM r am) (ho : QE X o to ao) (ha : QA X (e :: es) tr ar)
    (hbase : attributeBase o name X.env (eval o X.env) = eval o X.env)
    (hfew : ((backTo cpos (starEach (e :: es) X.env)).all (fun x => !x.1) && (backToKw cpos (keywordEach [] X.env)).all (fun x => x.1.isSome)
      && decide ((e :: es).length + ([] : List Keyword).length + (if ([] : List Keyword).isEmpty then 0 else 1) < 30)) = true)
    (hline : (apos.endLine == cpos.line) = true) (hs : starEach (e :: es) X.env = (false, eval e X.env) :: starEach es X.env) (hplain : (backTo cpos (starEach es X.env)).any (·.1) = false) :
    QE X (.Call (.Attribute o name apos) (e :: es) [] cpos) (tBM X.K "list" r to tr) (aMeth am ao ar) := ⟨pe_bm PySem.F.plainAttrs_list slot hty hm ho.pe ha.pe hbase hfew hline hs hplain, rd_meth hd ho.rd ha.rd⟩
def amApp (ds : List D) (es : List D) (Q : List D → D → Prop) : Prop := match es with
  | [d] => ds.length < sizeLine ∧ Q (ds ++ [d]) .non
  | _ => False
theorem rm_app : RdM rAppend amApp := by
  intro K H G l xs vs ds es Q R hG hl hx hv h q
  unfold amApp at h
  split at h
  · rename_i d
    obtain ⟨y, r, rfl, ry, rn⟩ := repL_cons.mp hv
    have := repL_nil.mp rn; subst this
    exact ⟨l, xs, y, rfl, rfl, hl, by rw [hx.length]; exact h.1, q _ .non _ .non (hx.append (RepL.one ry)) (by rw [Rep]) h.2⟩
  · exact h.elim
def amExt (ds : List D) (es : List D) (Q : List D → D → Prop) : Prop := match es with
  | [.lst fs] => ds.length + fs.length ≤ sizeLine ∧ Q (ds ++ fs) .non
  | _ => False
theorem rm_ext : RdM rExtend amExt := by
  intro K H G l xs vs ds es Q R hG hl hx hv h q
  unfold amExt at h
  split at h
  · rename_i fs
    obtain ⟨y, r, rfl, ry, rn⟩ := repL_cons.mp hv
    have := repL_nil.mp rn; subst this
    obtain ⟨b, zs, rfl, hb, hz⟩ := rep_lst.mp ry
    exact ⟨l, b, xs, zs, rfl, rfl, hl, hG _ _ hb, by rw [hx.length, hz.length]; exact h.1, q _ .non _ .non (hx.append hz) (by rw [Rep]) h.2⟩
  · exact h.elim
def amPop (ds : List D) (es : List D) (Q : List D → D → Prop) : Prop := match es with
  | [] => match ds[ds.length - 1]? with
    | some d => Q ds.dropLast d
    | none => False
  | _ => False
theorem rm_pop : RdM rPop amPop := by
  intro K H G l xs vs ds es Q R hG hl hx hv h q
  unfold amPop at h
  split at h
  · split at h
    · rename_i d hd
      have := repL_nil.mp hv; subst this
      obtain ⟨y, hy, ry⟩ := hx.get hd
      refine ⟨l, xs, y, rfl, rfl, hl, by rw [hx.length]; exact hy, q _ d _ y ?_ ry h⟩
      rw [List.dropLast_eq_take, List.dropLast_eq_take, hx.length]; exact hx.take _
    · exact h.elim
  · exact h.elim
theorem RepL.erase {ds : List D} {vs : List V} (n : Nat) (h : RepL K G ds vs) : RepL K G (ds.eraseIdx n) (vs.eraseIdx n) := by
  rw [List.eraseIdx_eq_take_drop_succ, List.eraseIdx_eq_take_drop_succ]; exact (h.take _).append (h.drop _)
def amPopAt (ds : List D) (es : List D) (Q : List D → D → Prop) : Prop := match es with
  | [.int i] => (-(2 ^ 63) ≤ i ∧ i < 2 ^ 63) ∧ match seqIndex? i ds.length with
    | some k => match ds[k]? with
      | some d => Q (ds.eraseIdx k) d
      | none => False
    | none => False
  | _ => False
theorem rm_popAt : RdM rPopAt amPopAt := by
  intro K H G l xs vs ds es Q R hG hl hx hv h q
  unfold amPopAt at h
  split at h
  · rename_i i
    obtain ⟨hi, h⟩ := h
    obtain ⟨y, r, rfl, ry, rn⟩ := repL_cons.mp hv
    have := repL_nil.mp rn; subst this
    have ey : y = .int i := by rw [Rep] at ry; exact ry
    split at h
    · rename_i k hk
      split at h
      · rename_i d hd
        obtain ⟨z, hz, rz⟩ := hx.get hd
        exact ⟨l, xs, i, k, z, rfl, by rw [ey], hl, hi.1, hi.2, by rw [hx.length]; exact hk, hz, q _ d _ z (hx.erase k) rz h⟩
      · exact h.elim
    · exact h.elim
  · exact h.elim
def amIns (ds : List D) (es : List D) (Q : List D → D → Prop) : Prop := match es with
  | [.int i, d] => (ds.length < sizeLine ∧ 0 ≤ i ∧ i < 2 ^ 63) ∧ Q (ds.take i.toNat ++ [d] ++ ds.drop i.toNat) .non
  | _ => False
def rIns : V → List V → Hp → VK → Prop := fun x vs H Q => ∃ (l : Addr) (xs : List V) (i : Int) (y : V), x = .ref l ∧ vs = [.int i, y] ∧ H l = some (.lst xs) ∧ xs.length < sizeLine ∧ 0 ≤ i ∧ i < 2 ^ 63 ∧
    Q .non (upd H l (.lst (xs.take i.toNat ++ [y] ++ xs.drop i.toNat)))
theorem rm_ins : RdM rIns amIns := by
  intro K H G l xs vs ds es Q R hG hl hx hv h q
  unfold amIns at h
  split at h
  · rename_i i d
    obtain ⟨y, r, rfl, ry, rn⟩ := repL_cons.mp hv
    obtain ⟨z, r', rfl, rz, rn'⟩ := repL_cons.mp rn
    have := repL_nil.mp rn'; subst this
    have ey : y = .int i := by rw [Rep] at ry; exact ry
    subst ey
    exact ⟨l, xs, i, z, rfl, rfl, hl, by rw [hx.length]; exact h.1.1, h.1.2.1, h.1.2.2, q _ .non _ .non (((hx.take _).append (RepL.one rz)).append (hx.drop _)) (by rw [Rep]) h.2⟩
  · exact h.elim
theorem q_append (ho : QE X o to ao) (ha : QA X (e :: es) tr ar) (hbase : attributeBase o "append" X.env (eval o X.env) = eval o X.env := by rfl)
    (hfew : ((backTo cpos (starEach (e :: es) X.env)).all (fun x => !x.1) && (backToKw cpos (keywordEach [] X.env)).all (fun x => x.1.isSome)
      && decide ((e :: es).length + ([] : List Keyword).length + (if ([] : List Keyword).isEmpty then 0 else 1) < 30)) = true := by rfl)
    (hline : (apos.endLine == cpos.line) = true := by rfl) (hs : starEach (e :: es) X.env = (false, eval e X.env) :: starEach es X.env := by rfl) (hplain : (backTo cpos (starEach es X.env)).any (·.1) = false := by rfl) (hK : X.K = K := by rfl) :
    QE X (.Call (.Attribute o "append" apos) (e :: es) [] cpos) (tBM K "list" rAppend to tr) (aMeth amApp ao ar) := by subst hK; exact q_bm PySem.F.slot_list_append PySem.F.type_list_append mt_append rm_app ho ha hbase hfew hline hs hplain
theorem q_extend (ho : QE X o to ao) (ha : QA X (e :: es) tr ar) (hbase : attributeBase o "extend" X.env (eval o X.env) = eval o X.env := by rfl)
    (hfew : ((backTo cpos (starEach (e :: es) X.env)).all (fun x => !x.1) && (backToKw cpos (keywordEach [] X.env)).all (fun x => x.1.isSome)
      && decide ((e :: es).length + ([] : List Keyword).length + (if ([] : List Keyword).isEmpty then 0 else 1) < 30)) = true := by rfl)
    (hline : (apos.endLine == cpos.line) = true := by rfl) (hs : starEach (e :: es) X.env = (false, eval e X.env) :: starEach es X.env := by rfl) (hplain : (backTo cpos (starEach es X.env)).any (·.1) = false := by rfl) (hK : X.K = K := by rfl) :
    QE X (.Call (.Attribute o "extend" apos) (e :: es) [] cpos) (tBM K "list" rExtend to tr) (aMeth amExt ao ar) := by subst hK; exact q_bm PySem.F.slot_list_extend PySem.F.type_list_extend mt_extend rm_ext ho ha hbase hfew hline hs hplain
theorem q_popAt (ho : QE X o to ao) (ha : QA X (e :: es) tr ar) (hbase : attributeBase o "pop" X.env (eval o X.env) = eval o X.env := by rfl)
    (hfew : ((backTo cpos (starEach (e :: es) X.env)).all (fun x => !x.1) && (backToKw cpos (keywordEach [] X.env)).all (fun x => x.1.isSome)
      && decide ((e :: es).length + ([] : List Keyword).length + (if ([] : List Keyword).isEmpty then 0 else 1) < 30)) = true := by rfl)
    (hline : (apos.endLine == cpos.line) = true := by rfl) (hs : starEach (e :: es) X.env = (false, eval e X.env) :: starEach es X.env := by rfl) (hplain : (backTo cpos (starEach es X.env)).any (·.1) = false := by rfl) (hK : X.K = K := by rfl) :
    QE X (.Call (.Attribute o "pop" apos) (e :: es) [] cpos) (tBM K "list" rPopAt to tr) (aMeth amPopAt ao ar) := by subst hK; exact q_bm PySem.F.slot_list_pop PySem.F.type_list_pop mt_popAt rm_popAt ho ha hbase hfew hline hs hplain
theorem q_insert (ho : QE X o to ao) (ha : QA X (e :: es) tr ar) (hbase : attributeBase o "insert" X.env (eval o X.env) = eval o X.env := by rfl)
    (hfew : ((backTo cpos (starEach (e :: es) X.env)).all (fun x => !x.1) && (backToKw cpos (keywordEach [] X.env)).all (fun x => x.1.isSome)
      && decide ((e :: es).length + ([] : List Keyword).length + (if ([] : List Keyword).isEmpty then 0 else 1) < 30)) = true := by rfl)
    (hline : (apos.endLine == cpos.line) = true := by rfl) (hs : starEach (e :: es) X.env = (false, eval e X.env) :: starEach es X.env := by rfl) (hplain : (backTo cpos (starEach es X.env)).any (·.1) = false := by rfl) (hK : X.K = K := by rfl) :
    QE X (.Call (.Attribute o "insert" apos) (e :: es) [] cpos) (tBM K "list" rIns to tr) (aMeth amIns ao ar) := by subst hK; exact q_bm PySem.F.slot_list_insert PySem.F.type_list_insert mt_insert rm_ins ho ha hbase hfew hline hs hplain
theorem q_pop (ho : QE X o to ao) (hbase : attributeBase o "pop" X.env (eval o X.env) = eval o X.env := by rfl) (hline : (apos.endLine == cpos.line) = true := by rfl) (hK : X.K = K := by rfl) :
    QE X (.Call (.Attribute o "pop" apos) [] [] cpos) (tBM0 K "list" rPop to) (aMeth0 amPop ao) := by subst hK; exact ⟨pe_bm0 PySem.F.plainAttrs_list PySem.F.slot_list_pop PySem.F.type_list_pop mt_pop ho.pe hbase hline, rd_meth0 rm_pop ho.rd⟩
end
/-! ### x[i] = e -/
def aSetI (ae ao ai : AE) (A : AEnds) (Γ : Sl) (M : Mem) : Prop := ae Γ M fun r Γ0 M0 => frz r Γ0 fun d Γ1 => ao Γ1 M0 fun ro Γ2 M2 => ai Γ2 M2 fun ri Γ3 M3 => match ri, lget ro Γ3 M3 with
  | .dat (.int i), some ds => match ixN ds.length i with
    | some j => lput ro (ds.set j d) Γ3 M3 fun Γ4 M4 => A.nx Γ4 M4
    | none => False
  | _, _ => False
theorem qs_setI {o i : Expr} {to ti : TE} {ao ai : AE} {pos' : Pos} (h : QE X a ta aa) (ho : QE X o to ao) (hi : QE X i ti ai)
    (has : ∀ v, assign (.Subscript o i pos') X.env v = (do
      let ov ← holding [v] (eval o X.env)
      let iv ← holding [v, ov] (eval i X.env)
      standAt pos'
      holding [v, ov, iv] (setItem ov iv v)
      release [v, ov, iv] []) := by intro _; rfl)
    (hs : swapsWithSole [.Subscript o i pos'] a pos.line X.env = pure false := by rfl) (hw : swappedStores [.Subscript o i pos'] a X.env = pure none := by rfl) (h1 : (assignEach [.Subscript o i pos'] X.env).map (·.2) = [assign (.Subscript o i pos') X.env] := by rfl) :
    QS X (.Assign [.Subscript o i pos'] a pos) (tAsg ta (gSub to ti rSetL)) (aSetI aa ao ai) :=
  ⟨ps_asg h.pe (pg_sub ho.pe hi.pe set_list has) hs hw h1, fun B σ H G Γ M A E k hh s => h.rd B σ H G Γ M _ _ k hh fun v H1 G1 Γ1 M1 r k1 e1 rr h1 => by
    obtain ⟨G2, Γ2, d, k2, e2, rp, h2⟩ := frz_ok (H0 := H) k1 e1 rr h1
    refine ho.rd B σ H1 G2 Γ2 M1 _ _ k2 h2 fun ov H3 G3 Γ3 M3 ro k3 e3 rro h3 => ?_
    refine hi.rd B σ H3 G3 Γ3 M3 _ _ k3 h3 fun iv H4 G4 Γ4 M4 ri k4 e4 rri h4 => ?_
    split at h4
    · rename_i i ds hd
      split at h4
      · rename_i j hj
        have rro' := rro.es e4
        obtain ⟨l, xs, rfl, hl, hx⟩ := lget_ok k4 rro' hd
        have ei : iv = .int i := by have := rri; simp only [RepR, Rep] at this; exact this
        have rp4 : Rep X.K G4 d v := (rp.mono e3.g).mono e4.g
        obtain ⟨Γ5, M5, k5, e5, hq⟩ := lput_ok k4 rro' hd (hx.set j rp4) h4
        exact ⟨l, xs, i, j, rfl, ei, hl, by rw [hx.length]; exact hj, s.nx σ _ G4 Γ5 M5 k5 hq⟩
      · exact h4.elim
    · exact h4.elim⟩
/-! ### x op= e -/
def aAugI (i : Nat) (f : Int → Int → Int) (aa : AE) (A : AEnds) (Γ : Sl) (M : Mem) : Prop := match Γ[i]? with
  | some (.dat (.int n)) => aa Γ M fun r Γ1 M1 => match r with
    | .dat (.int m) => A.nx (Γ1.set i (.dat (.int (f n m)))) M1
    | _ => False
  | _ => False
theorem rd_augI {i : Nat} {f : Int → Int → Int} (ha : RdE K ta aa) : RdS K (tAug i ta (ipI f)) (aAugI i f aa) := fun B σ H G Γ M A E k h s => by
  unfold aAugI at h
  split at h
  · rename_i n e1
    obtain ⟨v, h1, h2⟩ := k.dat i _ e1
    have ev : v = .int n := by rw [Rep] at h2; exact h2
    refine ⟨v, h1, ha B σ H G Γ M _ _ k h fun u H1 G1 Γ1 M1 r k1 e2 rr hq => ?_⟩
    split at hq
    · rename_i m
      have eu : u = .int m := by have := rr; simp only [RepR, Rep] at this; exact this
      exact ⟨n, m, ev, eu, s.nx _ H1 G1 _ M1 (k1.setD (by rw [Rep])) hq⟩
    · exact hq.elim
  · exact h.elim
section
variable {x : Str} {pos' : Pos}
theorem qs_augA (i : Nat) (hN : X.N.Nodup) (h : QE X a ta aa) (hi : X.N[i]? = some x := by rfl) (hx : Loc X.env.scope x := by first | exact Or.inl rfl | exact Or.inr rfl) (hf : X.fn x = true ∨ X.env.scope.names.lookup x = some .local := by first | exact .inl rfl | exact .inr rfl | assumption) :
    QS X (.AugAssign (.Name x pos') .Add a pos) (tAug i ta (ipI fun i j => i + j)) (aAugI i (fun i j => i + j) aa) := ⟨ps_aug hN hi hx h.pe ip_add hf, rd_augI h.rd⟩
theorem qs_augS (i : Nat) (hN : X.N.Nodup) (h : QE X a ta aa) (hi : X.N[i]? = some x := by rfl) (hx : Loc X.env.scope x := by first | exact Or.inl rfl | exact Or.inr rfl) (hf : X.fn x = true ∨ X.env.scope.names.lookup x = some .local := by first | exact .inl rfl | exact .inr rfl | assumption) :
    QS X (.AugAssign (.Name x pos') .Sub a pos) (tAug i ta (ipI fun i j => i - j)) (aAugI i (fun i j => i - j) aa) := ⟨ps_aug hN hi hx h.pe ip_sub hf, rd_augI h.rd⟩
end
/-- a list grown by another one: the name's own list -/
def aAugL (i : Nat) (aa : AE) (A : AEnds) (Γ : Sl) (M : Mem) : Prop := aa Γ M fun r Γ1 M1 => match sqOf r Γ1 M1, Γ1[i]? with
  | some (.lst es), some (.own (.lst ds)) => ds.length + es.length ≤ sizeLine ∧ A.nx (Γ1.set i (.own (.lst (ds ++ es)))) M1
  | _, _ => False
theorem rd_augL {i : Nat} (ha : RdE K ta aa) (hown : ∀ Γ M Q, aa Γ M Q → True) : RdS K (fun D σ H => ∃ x, σ[i]? = some (some x) ∧ ta σ H fun y H1 => rExt2 x y H1 fun z H2 => D.nx (σ.set i (some z)) H2) (fun A Γ M => (∃ ds, Γ[i]? = some (.own (.lst ds))) ∧ aAugL i aa A Γ M) := fun B σ H G Γ M A E k h s => by
  obtain ⟨⟨ds0, e0⟩, h⟩ := h
  obtain ⟨p, s1, _⟩ := k.own i _ e0
  refine ⟨.ref p, s1, ha B σ H G Γ M _ _ k h fun u H1 G1 Γ1 M1 r k1 e2 rr hq => ?_⟩
  split at hq
  · rename_i es ds he e1
    obtain ⟨b, zs, rfl, hb, hz⟩ := sqOf_ok k1 rr he
    have lg : lget (.var i) Γ1 M1 = some ds := by simp only [lget, e1]
    obtain ⟨l, xs, ev, hl, hx⟩ := lget_ok (K := K) k1 (show RepR K B σ H H1 G1 Γ1 M1 (.var i) (.ref p) from s1) lg
    cases ev
    obtain ⟨Γ5, M5, k5, e5, hq5⟩ := lput_ok (K := K) (kk := fun Γ5 M5 => Γ5 = Γ1.set i (.own (.lst (ds ++ es))) ∧ M5 = M1) k1 (show RepR K B σ H H1 G1 Γ1 M1 (.var i) (.ref p) from s1) lg (hx.append hz) ⟨rfl, rfl⟩
    obtain ⟨rfl, rfl⟩ := hq5
    refine ⟨p, b, xs, zs, rfl, rfl, hl, hb, by rw [hx.length, hz.length]; exact hq.1, ?_⟩
    have : σ.set i (some (.ref p)) = σ := by
      apply List.ext_getElem?
      intro j
      rw [List.getElem?_set]
      split
      · rename_i ej
        subst ej
        rw [if_pos ((List.getElem?_eq_some_iff.mp s1).1), s1]
      · rfl
    show E.nx (List.set σ i (some (V.ref p))) _
    rw [this]
    exact s.nx σ _ G1 _ _ k5 hq.2
  · exact hq.elim
section
variable {x : Str} {pos' : Pos}
theorem qs_augL (i : Nat) (hN : X.N.Nodup) (h : QE X a ta aa) (hi : X.N[i]? = some x := by rfl) (hx : Loc X.env.scope x := by first | exact Or.inl rfl | exact Or.inr rfl) (hf : X.fn x = true ∨ X.env.scope.names.lookup x = some .local := by first | exact .inl rfl | exact .inr rfl | assumption) :
    QS X (.AugAssign (.Name x pos') .Add a pos) (tAug i ta rExt2) (fun A Γ M => (∃ ds, Γ[i]? = some (.own (.lst ds))) ∧ aAugL i aa A Γ M) := ⟨ps_aug hN hi hx h.pe iop_ext hf, rd_augL h.rd fun _ _ _ _ => trivial⟩
end
end
end Gw

namespace Gw
open PySem L2
/-! ### what is walked -/
def Yld (K : PySem.W.Frag) (G H H' : Hp) (d : D) (x : V) : Prop :=
  (H' = H ∧ Rep K G d x) ∨ ∃ T xs ds, x = .ref T ∧ H T = none ∧ H' = upd H T (.tup xs) ∧ d = .tup ds ∧ RepL K G ds xs
structure WalkD (K : PySem.W.Frag) (J : It) (G : Hp) (ds : List D) : Prop where
  w : ∃ GG Y, Walk J ds.length GG Y ∧ (∀ H, Ex G H → GG H) ∧ ∀ (i : Nat) H x H' d, ds[i]? = some d → Ex G H → Y i H x H' → Yld K G H H' d x
abbrev AI := Sl → Mem → (List D → Sl → Mem → Prop) → Prop
def RdI (K : PySem.W.Frag) (wi : TI) (ai : AI) : Prop := ∀ B σ H G Γ M (Q : List D → Sl → Mem → Prop) (R : It → Hp → Prop), Ok K B σ H G Γ M → ai Γ M Q →
  (∀ J H' G' Γ' M' ds, Ok K B σ H' G' Γ' M' → Es σ H G Γ M H' G' Γ' M' → WalkD K J G' ds → Q ds Γ' M' → R J H') → wi σ H R
structure QI (X : Cx) (tg iter : Expr) (wi : TI) (ai : AI) : Prop where
  pe : PI X tg iter wi
  rd : RdI X.K wi ai
section
variable {X : Cx} {tg a b c : Expr} {ta tb tc te : TE} {aa ab ac ae : AE} {pos : Pos} {K : PySem.W.Frag} {B : Ent} {σ : St} {H G H' H1 G1 H2 G2 : Hp} {Γ Γ1 Γ2 : Sl} {M M1 M2 : Mem}
theorem Yld.ok {d : D} {x : V} {G0 : Hp} (y : Yld K G0 H H' d x) (k : Ok K B σ H G Γ M) (e : Ex G0 G) : ∃ G', Ok K B σ H' G' Γ M ∧ Es σ H G Γ M H' G' Γ M ∧ Rep K G' d x := by
  rcases y with ⟨rfl, r⟩ | ⟨T, xs, ds, rfl, hT, rfl, rfl, r⟩
  · exact ⟨G, k, .refl, r.mono e⟩
  · obtain ⟨k2, e2⟩ := k.new (o := .tup xs) hT
    exact ⟨_, k2, e2, rep_tup.mpr ⟨T, xs, rfl, SqT.of upd_same, r.mono (e.trans e2.g)⟩⟩
def aISeq (aa : AE) (Γ : Sl) (M : Mem) (Q : List D → Sl → Mem → Prop) : Prop := aa Γ M fun r Γ1 M1 => frz r Γ1 fun d Γ2 => match d with
  | .lst ds => Q ds Γ2 M1
  | .scr ds => Q ds Γ2 M1
  | _ => False
def aITup (aa : AE) (Γ : Sl) (M : Mem) (Q : List D → Sl → Mem → Prop) : Prop := aa Γ M fun r Γ1 M1 => frz r Γ1 fun d Γ2 => match d with
  | .tup ds => Q ds Γ2 M1
  | _ => False
theorem walkD_list {p : Addr} {xs : List V} {ds : List D} (h : SqL K G p xs) (r : RepL K G ds xs) : WalkD K (Itl K p) G ds := by
  refine ⟨fun H => SqL K H p xs, YAt xs, r.length ▸ walk_list, fun H e => ex_l e h, fun i H x H' d hd e y => .inl ⟨y.1, ?_⟩⟩
  obtain ⟨v, hv, rv⟩ := r.get hd
  have e2 := hv.symm.trans y.2
  cases e2
  exact rv
theorem walkD_tup {p : Addr} {xs : List V} {ds : List D} (h : SqT K G p xs) (r : RepL K G ds xs) : WalkD K (Itt K p) G ds := by
  refine ⟨fun H => SqT K H p xs, YAt xs, r.length ▸ walk_tup, fun H e => ex_t e h, fun i H x H' d hd e y => .inl ⟨y.1, ?_⟩⟩
  obtain ⟨v, hv, rv⟩ := r.get hd
  have e2 := hv.symm.trans y.2
  cases e2
  exact rv
theorem qi_list (h : QE X a ta aa) (hK : X.K = K := by rfl) : QI X tg a (iList K ta) (aISeq aa) := by subst hK; exact ⟨pi_list h.pe, fun B σ H G Γ M Q R k hh q => h.rd B σ H G Γ M _ _ k hh fun v H1 G1 Γ1 M1 r k1 e1 rr h1 => by
  obtain ⟨G2, Γ2, d, k2, e2, rp, h2⟩ := frz_ok (H0 := H) k1 e1 rr h1
  split at h2
  · rename_i ds
    obtain ⟨p, xs, rfl, hp, rl⟩ := rep_lst.mp rp
    exact ⟨p, rfl, ⟨xs, SqL.of (k2.ex _ _ hp)⟩, q _ H1 G2 Γ2 M1 ds k2 e2 (walkD_list (SqL.of hp) rl) h2⟩
  · rename_i ds
    obtain ⟨p, xs, rfl, hp, rl⟩ := rep_scr.mp rp
    exact ⟨p, rfl, ⟨xs, ex_l k2.ex hp⟩, q _ H1 G2 Γ2 M1 ds k2 e2 (walkD_list hp rl) h2⟩
  · exact h2.elim⟩
theorem qi_tup (h : QE X a ta aa) (hK : X.K = K := by rfl) : QI X tg a (iTup K ta) (aITup aa) := by subst hK; exact ⟨pi_tup h.pe, fun B σ H G Γ M Q R k hh q => h.rd B σ H G Γ M _ _ k hh fun v H1 G1 Γ1 M1 r k1 e1 rr h1 => by
  obtain ⟨G2, Γ2, d, k2, e2, rp, h2⟩ := frz_ok (H0 := H) k1 e1 rr h1
  split at h2
  · rename_i ds
    obtain ⟨p, xs, rfl, hp, rl⟩ := rep_tup.mp rp
    exact ⟨p, rfl, ⟨xs, ex_t k2.ex hp⟩, q _ H1 G2 Γ2 M1 ds k2 e2 (walkD_tup hp rl) h2⟩
  · exact h2.elim⟩
def rngD (lo : Int) (n : Nat) : List D := (List.range n).map fun i => .int (lo + (i : Nat))
theorem walkD_rng {lo : Int} {n : Nat} : WalkD K (Itr lo n) G (rngD lo n) := by
  have hl : (rngD lo n).length = n := by simp [rngD]
  refine ⟨fun _ => True, YFn fun i => .int (lo + i), by rw [hl]; exact walk_range, fun _ _ => trivial, fun i H x H' d hd e y => .inl ⟨y.1, ?_⟩⟩
  rw [y.2]
  have hi : i < n := by rw [← hl]; exact (List.getElem?_eq_some_iff.mp hd).1
  simp only [rngD, List.getElem?_map, List.getElem?_range hi, Option.map_some, Option.some.injEq] at hd
  subst hd
  rw [Rep]
def aRng1 (aa : AA) (Γ : Sl) (M : Mem) (Q : List D → Sl → Mem → Prop) : Prop := aa Γ M fun ds Γ1 M1 => match ds with
  | [.int n] => (-(2 ^ 62) ≤ n ∧ n < 2 ^ 62) ∧ Q (rngD 0 n.toNat) Γ1 M1
  | _ => False
def aRng2 (aa : AA) (Γ : Sl) (M : Mem) (Q : List D → Sl → Mem → Prop) : Prop := aa Γ M fun ds Γ1 M1 => match ds with
  | [.int m, .int n] => (-(2 ^ 62) ≤ m ∧ m < 2 ^ 62 ∧ -(2 ^ 62) ≤ n ∧ n < 2 ^ 62) ∧ Q (rngD m (n - m).toNat) Γ1 M1
  | _ => False
theorem qi_range1 {tr : TA} {ar : AA} {p : Pos} (hm : X.mg "range" = none) (ha : QA X [a] tr ar) (hg : Gl X "range" := by rfl) (hs : starEach [a] X.env = [(false, eval a X.env)] := by rfl) : QI X tg (.Call (.Name "range" p) [a] [] pos) (iRng1 tr) (aRng1 ar) := ⟨pi_range1 hg hm ha.pe hs, fun B σ H G Γ M Q R k hh q => ha.rd B σ H G Γ M _ _ k hh fun vs H1 G1 Γ1 M1 ds k1 e1 rl h1 => by
  split at h1
  · rename_i n
    obtain ⟨y, r, rfl, ry, rn⟩ := repL_cons.mp rl
    have := repL_nil.mp rn; subst this
    rw [Rep] at ry; subst ry
    exact ⟨n, rfl, h1.1.1, h1.1.2, q _ H1 G1 Γ1 M1 _ k1 e1 walkD_rng h1.2⟩
  · exact h1.elim⟩
theorem qi_range2 {tr : TA} {ar : AA} {p : Pos} (hm : X.mg "range" = none) (ha : QA X [a, b] tr ar) (hg : Gl X "range" := by rfl) (hs : starEach [a, b] X.env = [(false, eval a X.env), (false, eval b X.env)] := by rfl) (hs2 : starEach [b] X.env = [(false, eval b X.env)] := by rfl) :
    QI X tg (.Call (.Name "range" p) [a, b] [] pos) (iRng2 tr) (aRng2 ar) := ⟨pi_range2 hg hm ha.pe hs hs2, fun B σ H G Γ M Q R k hh q => ha.rd B σ H G Γ M _ _ k hh fun vs H1 G1 Γ1 M1 ds k1 e1 rl h1 => by
  split at h1
  · rename_i m n
    obtain ⟨y, r, rfl, ry, rn⟩ := repL_cons.mp rl
    obtain ⟨z, r', rfl, rz, rn'⟩ := repL_cons.mp rn
    have := repL_nil.mp rn'; subst this
    rw [Rep] at ry rz; subst ry; subst rz
    exact ⟨m, n, rfl, h1.1, q _ H1 G1 Γ1 M1 _ k1 e1 walkD_rng h1.2⟩
  · exact h1.elim⟩

/-! ### for -/
def aForL (g : AG) (body : AS) : List D → AS
  | [] => fun A Γ M => A.nx Γ M
  | d :: ds => fun A Γ M => g d Γ fun Γ1 => body { A with nx := aForL g body ds A, ct := aForL g body ds A, bk := A.nx } Γ1 M
structure WitA (A : AEnds) : Type where
def forW (g : AG) (body : AS) (ds : List D) (A : AEnds) (_ : WitA A) (Γ : Sl) (M : Mem) : Prop := aForL g body ds A Γ M
def aFor (ai : AI) (g : AG) (body : AS) (A : AEnds) (Γ : Sl) (M : Mem) : Prop := ai Γ M fun ds Γ1 M1 => forW g body ds A ⟨⟩ Γ1 M1
theorem Ok.to (k : Ok K B σ H G Γ M) (e : Ex G1 G) (e0 : Ex B.G G1) : Ok K ⟨B.H, G1, B.A⟩ σ H G Γ M :=
  ⟨⟨e, k.st.fr, fun a o h => (k.st.gn a o h).imp (fun z => e0 a o z) id, k.st.mn, k.st.nn⟩, k.ex, k.nd, k.ms, k.dat, k.own, k.dis, k.len⟩
theorem Ok.back (k : Ok K ⟨B.H, G1, B.A⟩ σ H G Γ M) (e0 : Ex B.G G1) (gn : ∀ a o, G1 a = some o → B.G a = some o ∨ B.H a = none) : Ok K B σ H G Γ M ∧ Ex G1 G :=
  ⟨⟨⟨e0.trans k.st.g, k.st.fr, fun a o h => (k.st.gn a o h).elim (fun z => gn a o z) .inr, k.st.mn, k.st.nn⟩, k.ex, k.nd, k.ms, k.dat, k.own, k.dis, k.len⟩, k.st.g⟩
theorem rd_for {wi : TI} {ai : AI} {g : TG} {ag : AG} {is : List Nat} {tb : TS} {ab : AS} (hi : RdI K wi ai) (hg : RdG K g ag is) (hb : RdS K tb ab) : RdS K (tFor wi g tb) (aFor ai ag ab) := fun B σ H G Γ M A E k h s => by
  refine hi B σ H G Γ M _ _ k h fun J H1 G1 Γ1 M1 ds k1 e1 w h1 => ?_
  obtain ⟨GG, Y, wk, hGG, hY⟩ := w.w
  have e0 : Ex B.G G1 := k1.st.g
  have gn := k1.st.gn
  have sim : ∀ i, Sim K ⟨B.H, G1, B.A⟩ { A with nx := aForL ag ab (ds.drop (i + 1)) A, ct := aForL ag ab (ds.drop (i + 1)) A, bk := A.nx }
      { E with nx := fun σ H => ∃ G2 Γ2 M2, Ok K B σ H G2 Γ2 M2 ∧ Ex G1 G2 ∧ aForL ag ab (ds.drop (i + 1)) A Γ2 M2, ct := fun σ H => ∃ G2 Γ2 M2, Ok K B σ H G2 Γ2 M2 ∧ Ex G1 G2 ∧ aForL ag ab (ds.drop (i + 1)) A Γ2 M2, bk := E.nx } := fun i =>
    ⟨fun σ H G Γ M k q => let ⟨k', e'⟩ := k.back e0 gn; ⟨G, Γ, M, k', e', q⟩, fun σ H0 H G Γ M r v k rr q => s.rt σ H0 H G Γ M r v (k.back e0 gn).1 rr q, fun σ H G Γ M k q => s.nx σ H G Γ M (k.back e0 gn).1 q, fun σ H G Γ M k q => let ⟨k', e'⟩ := k.back e0 gn; ⟨G, Γ, M, k', e', q⟩⟩
  refine for_it wk (fun i σ H => ∃ G2 Γ2 M2, Ok K B σ H G2 Γ2 M2 ∧ Ex G1 G2 ∧ aForL ag ab (ds.drop i) A Γ2 M2) ⟨G1, Γ1, M1, k1, Ex.refl _, h1⟩ (fun i σ H _ ⟨G2, Γ2, M2, k2, e2, _⟩ => hGG H (e2.trans k2.ex)) ?_ ?_
  · rintro i x σ H H' hin ⟨G2, Γ2, M2, k2, e2, h2⟩ y
    rw [List.drop_eq_getElem_cons hin] at h2
    obtain ⟨G3, k3, e3, rp⟩ := (hY i H x H' _ (List.getElem?_eq_getElem hin) (e2.trans k2.ex) y).ok k2 e2
    refine hg B σ H' G3 Γ2 M2 _ x _ _ k3 rp h2 fun σ' Γ' k4 _ _ h4 => ?_
    exact hb ⟨B.H, G1, B.A⟩ σ' H' G3 Γ' M2 _ _ (k4.to (e2.trans e3.g) e0) h4 (sim i)
  · rintro σ H ⟨G2, Γ2, M2, k2, e2, h2⟩
    rw [List.drop_length] at h2
    exact s.nx σ H G2 Γ2 M2 k2 h2
theorem qs_for {iter : Expr} {body : List Stmt} {wi : TI} {ai : AI} {g : TG} {ag : AG} {is : List Nat} {tb : TS} {ab : AS} (hi : QI X tg iter wi ai) (hg : QG X tg g ag is) (hb : QSs X body tb ab) (hc : X.calm = true := by rfl)
    (hp : PassesOwn (model X.prog X.w) X.A X.env X.xe := by exact PassesOwn.never) (hs : ∀ x, foldedSetIterable iter X.env x = pure x := by intro _; rfl) : QS X (.For tg iter body [] pos) (tFor wi g tb) (aFor ai ag ab) := ⟨ps_for hp hc hi.pe hg.pe hb.pe hs, rd_for hi.rd hg.rd hb.rd⟩
/-! ### while -/
def aWhile (t : AT) (body : AS) (A : AEnds) (Γ : Sl) (M : Mem) : Prop := ∃ W : Nat → Sl → Mem → Prop, (∃ m, W m Γ M) ∧ ∀ m Γ M, W m Γ M →
  t Γ M fun b Γ1 M1 => if b = true then body { A with nx := fun Γ M => ∃ m', m' < m ∧ W m' Γ M, ct := fun Γ M => ∃ m', m' < m ∧ W m' Γ M, bk := A.nx } Γ1 M1 else A.nx Γ1 M1
theorem rd_while {tt : TT} {at' : AT} {tb : TS} {ab : AS} (hc : RdT K tt at') (hb : RdS K tb ab) : RdS K (tWhile tt tb) (aWhile at' ab) := fun B σ H G Γ M A E k h s => by
  obtain ⟨W, ⟨m0, w0⟩, hw⟩ := h
  refine ⟨fun m σ H => ∃ G Γ M, Ok K B σ H G Γ M ∧ W m Γ M, ⟨m0, G, Γ, M, k, w0⟩, ?_⟩
  rintro m σ H ⟨G1, Γ1, M1, k1, w1⟩
  refine hc B σ H G1 Γ1 M1 _ _ k1 (hw m Γ1 M1 w1) fun b H2 G2 Γ2 M2 k2 e2 h2 => ?_
  cases b with
  | true =>
    refine ⟨fun σ H => ∃ G Γ M, Ok K B σ H G Γ M ∧ ∃ m', m' < m ∧ W m' Γ M, fun σ' H' ⟨G, Γ, M, k, m', l, w⟩ => ⟨m', l, G, Γ, M, k, w⟩, ?_⟩
    have h3 : ab { A with nx := fun Γ M => ∃ m', m' < m ∧ W m' Γ M, ct := fun Γ M => ∃ m', m' < m ∧ W m' Γ M, bk := A.nx } Γ2 M2 := by simpa using h2
    exact hb B σ H2 G2 Γ2 M2 _ _ k2 h3 ⟨fun σ H G Γ M k q => ⟨G, Γ, M, k, q⟩, s.rt, s.nx, fun σ H G Γ M k q => ⟨G, Γ, M, k, q⟩⟩
  | false => exact s.nx σ H2 G2 Γ2 M2 k2 (by simpa using h2)
theorem qs_while {body : List Stmt} {tt : TT} {at' : AT} {tb : TS} {ab : AS} (hc : QT X c tt at') (hb : QSs X body tb ab) (hp : PassesOwn (model X.prog X.w) X.A X.env X.xe := by exact PassesOwn.never) : QS X (.While c body [] pos) (tWhile tt tb) (aWhile at' ab) := ⟨ps_while hp hc.pe hb.pe, rd_while hc.rd hb.rd⟩

/-! ### comprehensions -/
def wipeS (Γ : Sl) : List Nat → Sl
  | [] => Γ
  | v :: vs => (wipeS Γ vs).set v .non
theorem wipeS_some {i : Nat} {s : Slot} : ∀ {vs : List Nat}, (wipeS Γ vs)[i]? = some s → s ≠ .non → Γ[i]? = some s ∧ i ∉ vs
  | [], h, _ => ⟨h, by simp⟩
  | v :: vs, h, hn => by
    unfold wipeS at h
    rcases set_get h with ⟨_, e⟩ | ⟨ne, e⟩
    · exact (hn e).elim
    · obtain ⟨h1, h2⟩ := wipeS_some e hn
      exact ⟨h1, by simp only [List.mem_cons, not_or]; exact ⟨ne, h2⟩⟩
theorem wipeS_length : ∀ vs : List Nat, (wipeS Γ vs).length = Γ.length
  | [] => rfl
  | v :: vs => by unfold wipeS; rw [List.length_set, wipeS_length vs]
theorem wipe_wipe (σ : St) : ∀ vs : List Nat, wipe (wipe σ vs) vs = wipe σ vs := fun vs => by
  apply List.ext_getElem?
  intro i
  by_cases hi : i ∈ vs
  · have key : ∀ (ws : List Nat) (τ : St), i ∈ ws → i < τ.length → (wipe τ ws)[i]? = some none := by
      intro ws
      induction ws with
      | nil => intro τ h; simp at h
      | cons w ws ih =>
        intro τ h hl
        unfold wipe
        by_cases e : w = i
        · subst e; rw [List.getElem?_set_self (by rw [wipe_length]; exact hl)]
        · rw [List.getElem?_set_ne e]; exact ih τ (by simpa [show ¬ i = w from fun q => e q.symm] using h) hl
    by_cases hl : i < σ.length
    · rw [key vs _ hi (by rw [wipe_length]; exact hl), key vs σ hi hl]
    · rw [List.getElem?_eq_none (by rw [wipe_length, wipe_length]; omega), List.getElem?_eq_none (by rw [wipe_length]; omega)]
  · rw [wipe_out hi]
/-- slots that agree where something is said -/
theorem Ok.agree {σ' : St} {Γ' : Sl} (k : Ok K B σ H G Γ M) (hs : ∀ (i : Nat) (s : Slot), Γ'[i]? = some s → s ≠ .non → Γ[i]? = some s ∧ σ'[i]? = σ[i]?) (hl : Γ'.length = σ'.length) : Ok K B σ' H G Γ' M ∧ ∀ x, owned σ' Γ' x → owned σ Γ x := by
  refine ⟨⟨k.st, k.ex, k.nd, k.ms, fun i d h => ?_, fun i c h => ?_, fun i j ci cj p h h' a b => ?_, hl⟩, fun x ⟨i, c, h1, h2⟩ => ?_⟩
  · obtain ⟨h1, h2⟩ := hs i _ h (by intro e; cases e)
    rw [h2]; exact k.dat i d h1
  · obtain ⟨h1, h2⟩ := hs i _ h (by intro e; cases e)
    rw [h2]; exact k.own i c h1
  · obtain ⟨h1, h2⟩ := hs i _ h (by intro e; cases e)
    obtain ⟨h1', h2'⟩ := hs j _ h' (by intro e; cases e)
    rw [h2] at a; rw [h2'] at b
    exact k.dis i j ci cj p h1 h1' a b
  · obtain ⟨g1, g2⟩ := hs i _ h1 (by intro e; cases e)
    exact ⟨i, c, g1, by rw [← g2]; exact h2⟩
theorem Ok.updTmp {p : Addr} {xs ys : List V} (k : Ok K B σ H G Γ M) (hp : H p = some (.lst xs)) (hb : B.H p = none) (hg : G p = none) (hm : p ∉ dom M) (hn : ¬ owned σ Γ p) : Ok K B σ (upd H p (.lst ys)) G Γ M := by
  have cel : ∀ x c, x ≠ p → Cel K H G x c → Cel K (upd H p (.lst ys)) G x c := fun x c ne ⟨z1, o, z2, z3⟩ => ⟨z1, o, by rw [upd_ne ne]; exact z2, z3⟩
  refine ⟨⟨k.st.g, fun x o z n => ?_, k.st.gn, k.st.mn, fun x z => k.st.nn x ?_⟩, fun x o z => ?_, k.nd, fun x c z => cel x c (fun e => hm (e ▸ List.mem_map.mpr ⟨_, z, rfl⟩)) (k.ms x c z), k.dat, fun i c z => ?_, k.dis, k.len⟩
  · rw [upd_ne (ne_of_none z hb)]; exact k.st.fr x o z n
  · by_cases e : x = p
    · subst e; rw [upd_same] at z; cases z
    · rw [upd_ne e] at z; exact z
  · rw [upd_ne (ne_of_none z hg)]; exact k.ex x o z
  · obtain ⟨q, h1, h2, h3, h4⟩ := k.own i c z
    exact ⟨q, h1, h2, h3, cel q c (fun e => hn ⟨i, c, z, e ▸ h1⟩) h4⟩
def aLcL (g : AG) (tt : AT) (ae : AE) (vs : List Nat) (k : List D → Sl → Mem → Prop) : List D → List D → Sl → Mem → Prop
  | [], acc, Γ, M => k acc Γ M
  | d :: ds, acc, Γ, M => g d Γ fun Γ1 => tt Γ1 M fun b Γ2 M2 => if b = true then ae Γ2 M2 fun r Γ3 M3 => frz r Γ3 fun y Γ4 => acc.length < sizeLine ∧ aLcL g tt ae vs k ds (acc ++ [y]) (wipeS Γ4 vs) M3
      else aLcL g tt ae vs k ds acc (wipeS Γ2 vs) M2
structure WitL (k : List D → Sl → Mem → Prop) : Type where
def lcW (g : AG) (tt : AT) (ae : AE) (vs : List Nat) (k : List D → Sl → Mem → Prop) (_ : WitL k) (ds acc : List D) (Γ : Sl) (M : Mem) : Prop := aLcL g tt ae vs k ds acc Γ M
def aLc (ai : AI) (g : AG) (tt : AT) (ae : AE) (vs : List Nat) (Γ : Sl) (M : Mem) (Q : Ret → Sl → Mem → Prop) : Prop := ai Γ M fun ds Γ1 M1 => lcW g tt ae vs (fun acc Γ2 M2 => Q (.tmp (.lst acc)) Γ2 M2) ⟨⟩ ds [] (wipeS Γ1 vs) M1
def aYes (Γ : Sl) (M : Mem) (Q : Bool → Sl → Mem → Prop) : Prop := Q true Γ M
theorem rd_yes : RdT K tYes aYes := fun _ _ H G Γ M _ _ k h q => q true H G Γ M k .refl h
theorem rd_lc {wi : TI} {ai : AI} {g : TG} {ag : AG} {is vs : List Nat} {tt : TT} {at' : AT} (hi : RdI K wi ai) (hg : RdG K g ag is) (hsub : ∀ j ∈ is, j ∈ vs) (ht : RdT K tt at') (he : RdE K te ae) : RdE K (tLc wi g tt te vs) (aLc ai ag at' ae vs) := by
  intro B σ H G Γ M Q R k h q
  refine hi B σ H G Γ M _ _ k h fun J H1 G1 Γ1 M1 ds k1 e1 w h1 p hp => ?_
  obtain ⟨GG, Y, wk, hGG, hY⟩ := w.w
  have h0p : H p = none := e1.nn p hp
  -- the state with the block's names wiped
  have wS : ∀ (Δ : Sl) (i : Nat) (s : Slot), (wipeS Δ vs)[i]? = some s → s ≠ .non → Δ[i]? = some s ∧ i ∉ vs := fun Δ i s a b => wipeS_some a b
  obtain ⟨k1t, e1t, hm1, hn1, hb1, hg1⟩ := k1.tmp (o := .lst []) hp
  obtain ⟨k1w, o1w⟩ := k1t.agree (σ' := σ) (Γ' := wipeS Γ1 vs) (fun i s a b => ⟨(wS Γ1 i s a b).1, rfl⟩) (by rw [wipeS_length]; exact k1.len)
  have upN : ∀ {H2 : Hp} {o : HO} x, upd H2 p o x = none → H2 x = none := fun {H2 o} x z => by
    by_cases e : x = p
    · subst e; rw [upd_same] at z; cases z
    · rw [upd_ne e] at z; exact z
  refine lc_it wk (fun i H2 => ∃ G2 Γ2 M2 acc xs, Ok K B σ H2 G2 Γ2 M2 ∧ Es σ H1 G1 Γ1 M1 H2 G2 Γ2 M2 ∧ (∀ (j : Nat) (s : Slot), Γ2[j]? = some s → s ≠ .non → j ∉ vs) ∧ H2 p = some (.lst xs) ∧ RepL K G2 acc xs ∧ G2 p = none ∧ p ∉ dom M2 ∧ ¬ owned σ Γ2 p ∧
      aLcL ag at' ae vs (fun acc Γ2 M2 => Q (.tmp (.lst acc)) Γ2 M2) (ds.drop i) acc Γ2 M2) ?_ ?_ ?_ ?_
  · refine ⟨G1, wipeS Γ1 vs, M1, [], [], k1w, ⟨Ex.refl _, fun a o h g m n => ?_, fun a z => upN a z⟩, fun j s a b => (wS Γ1 j s a b).2, upd_same, repL_nil.mpr rfl, hg1, hm1, fun z => hn1 (o1w _ z), h1⟩
    exact ⟨by rw [upd_ne (ne_of_none h hp)]; exact h, g, m, fun z => n (o1w _ z)⟩
  · rintro i H2 _ ⟨G2, Γ2, M2, acc, xs, k2, e2, _⟩
    exact hGG H2 (e2.g.trans k2.ex)
  · rintro i x H2 H2' hin ⟨G2, Γ2, M2, acc, xs, k2, e2, hv2, hp2, ra2, hg2, hm2, hn2, h2⟩ y
    rw [List.drop_eq_getElem_cons hin] at h2
    obtain ⟨G3, k3, e3, rp⟩ := (hY i H2 x H2' _ (List.getElem?_eq_getElem hin) (e2.g.trans k2.ex) y).ok k2 e2.g
    obtain ⟨hp3, hg3, hm3, hn3⟩ := e3.tmp p _ hp2 hg2 hm2 hn2
    obtain ⟨k3w, o3w⟩ := k3.agree (σ' := wipe σ vs) (Γ' := Γ2) (fun j s a b => ⟨a, wipe_out (hv2 j s a b)⟩) (by rw [wipe_length]; exact k3.len)
    have o3b : ∀ x, owned σ Γ2 x → owned (wipe σ vs) Γ2 x := fun x ⟨j, c, z1, z2⟩ => ⟨j, c, z1, by rw [wipe_out (hv2 j _ z1 (by intro e; cases e))]; exact z2⟩
    refine hg B (wipe σ vs) H2' G3 Γ2 M2 _ x _ _ k3w rp h2 fun σ2 Γ3 k4 w4 o4 h4 => ⟨?_, ?_⟩
    · rw [w4 vs hsub, wipe_wipe]
    have hw2 : wipe σ2 vs = wipe σ vs := by rw [w4 vs hsub, wipe_wipe]
    have ag2 : ∀ j, j ∉ vs → σ[j]? = σ2[j]? := fun j hj => by rw [← wipe_out (σ := σ2) hj, hw2, wipe_out hj]
    have hl2 : σ2.length = σ.length := by rw [← wipe_length σ2 vs, hw2, wipe_length]
    -- what stands at the end of a turn
    have fin : ∀ {H5 G5 : Hp} {Γ5 : Sl} {M5 : Mem}, Ok K B σ2 H5 G5 Γ5 M5 → Es σ2 H2' G3 Γ3 M2 H5 G5 Γ5 M5 → Ok K B σ H5 G5 (wipeS Γ5 vs) M5 ∧ Es σ H1 G1 Γ1 M1 H5 G5 (wipeS Γ5 vs) M5 ∧ H5 p = some (.lst xs) ∧ G5 p = none ∧ p ∉ dom M5 ∧ ¬ owned σ2 Γ5 p ∧ ¬ owned σ (wipeS Γ5 vs) p := fun {H5 G5 Γ5 M5} k5 e5 => by
      obtain ⟨k6, o6⟩ := k5.agree (σ' := σ) (Γ' := wipeS Γ5 vs) (fun j s a b => ⟨(wS Γ5 j s a b).1, ag2 j (wS Γ5 j s a b).2⟩) (by rw [wipeS_length, k5.len, hl2])
      have through : ∀ a o, H2 a = some o → G2 a = none → a ∉ dom M2 → ¬ owned σ Γ2 a → H5 a = some o ∧ G5 a = none ∧ a ∉ dom M5 ∧ ¬ owned σ2 Γ5 a := fun a o h g m n => by
        obtain ⟨a1, a2, a3, a4⟩ := e3.tmp a o h g m n
        exact e5.tmp a o a1 a2 a3 fun z => a4 (o3w _ (o4 _ z))
      obtain ⟨b1, b2, b3, b4⟩ := through p _ hp2 hg2 hm2 hn2
      refine ⟨k6, ⟨(e2.g.trans e3.g).trans e5.g, fun a o h g m n => ?_, fun a z => e2.nn a (e3.nn a (e5.nn a z))⟩, b1, b2, b3, b4, fun z => b4 (o6 _ z)⟩
      obtain ⟨a1, a2, a3, a4⟩ := e2.tmp a o h g m n
      obtain ⟨c1, c2, c3, c4⟩ := through a o a1 a2 a3 a4
      exact ⟨c1, c2, c3, fun z => c4 (o6 _ z)⟩
    refine ht B σ2 H2' G3 Γ3 M2 _ _ k4 h4 fun b H5 G5 Γ5 M5 k5 e5 h5 => ?_
    cases b with
    | false =>
      obtain ⟨k6, e6, p6, g6, m6, _, n6⟩ := fin k5 e5
      exact ⟨G5, wipeS Γ5 vs, M5, acc, xs, k6, e6, fun j s a b => (wS Γ5 j s a b).2, p6, (ra2.mono e3.g).mono e5.g, g6, m6, n6, by simpa using h5⟩
    | true =>
      refine he B σ2 H5 G5 Γ5 M5 _ _ k5 (by simpa using h5) fun v H6 G6 Γ6 M6 r k6 e6 rr h6 => ?_
      obtain ⟨G7, Γ7, y, k7, e7, rp7, hlen, h7⟩ := frz_ok (H0 := H5) k6 e6 rr h6
      obtain ⟨k8, e8, p8, g8, m8, n8', n8⟩ := fin k7 (e5.trans e7)
      have ra : RepL K G7 acc xs := (ra2.mono e3.g).mono (e5.trans e7).g
      refine ⟨xs, p8, by rw [ra.length]; exact hlen, G7, wipeS Γ7 vs, M6, acc ++ [y], xs ++ [v], k8.updTmp p8 hb1 g8 m8 n8, ⟨e8.g, fun a o h g m n => ?_, fun a z => e8.nn a (upN a z)⟩, fun j s a b => (wS Γ7 j s a b).2, upd_same, ra.append (RepL.one rp7), g8, m8, n8, h7⟩
      obtain ⟨a1, a2, a3, a4⟩ := e8.tmp a o h g m n
      exact ⟨by rw [upd_ne (ne_of_none h hp)]; exact a1, a2, a3, a4⟩
  · rintro H2 ⟨G2, Γ2, M2, acc, xs, k2, e2, _, hp2, ra2, hg2, hm2, hn2, h2⟩
    rw [List.drop_length] at h2
    exact q _ H2 G2 Γ2 M2 (.tmp (.lst acc)) k2 (e1.trans e2) ⟨p, rfl, h0p, hb1, ⟨hg2, _, hp2, xs, rfl, ra2⟩, hm2, hn2⟩ h2
structure QTs (X : Cx) (ifs : List Expr) (tt : TT) (at' : AT) : Prop where
  pe : PTs X ifs tt
  rd : RdT X.K tt at'
theorem qts_nil : QTs X [] tYes aYes := ⟨pts_nil, rd_yes⟩
theorem qts_one {tt : TT} {at' : AT} (h : QT X c tt at') : QTs X [c] tt at' := ⟨pts_one h.pe, h.rd⟩
theorem q_lc {elt iter : Expr} {ifs : List Expr} {scope : Scope} {own : List (Str × Nat)} {wi : TI} {ai : AI} {g : TG} {ag : AG} {is : List Nat} {tt : TT} {at' : AT} (own' : List (Str × Nat)) (hown : own = own') (hN : X.N.Nodup) (hi : QI X tg iter wi ai) (ok : BlkOk X.N X.env.scope scope own)
    (hg : ∀ (s : Shared) (H : Hp) (C : Addr) (cl : List (Str × Addr)) (fp : List Addr), QG (X.blk s H scope (compEnvC scope cl C X.env) fp) tg g ag is) (ht : ∀ (s : Shared) (H : Hp) (C : Addr) (cl : List (Str × Addr)) (fp : List Addr), QTs (X.blk s H scope (compEnvC scope cl C X.env) fp) ifs tt at')
    (he : ∀ (s : Shared) (H : Hp) (C : Addr) (cl : List (Str × Addr)) (fp : List Addr), QE (X.blk s H scope (compEnvC scope cl C X.env) fp) elt te ae) (hsub : ∀ j ∈ is, j ∈ own.map (·.2)) (s0 : Shared) (hc : X.calm = true := by rfl) (hs : ∀ x, foldedSetIterable iter X.env x = pure x := by intro _; rfl) :
    QE X (.ListComp elt [⟨tg, iter, ifs, 0⟩] scope pos) (tLc wi g tt te (own.map (·.2))) (aLc ai ag at' ae (own.map (·.2))) :=
  ⟨pe_lc hc hN hi.pe ok (fun s H C cl fp => (hg s H C cl fp).pe) (fun s H C cl fp => (ht s H C cl fp).pe) (fun s H C cl fp => (he s H C cl fp).pe) hs,
   rd_lc hi.rd (hg s0 X.H_0 0 [] []).rd hsub (ht s0 X.H_0 0 [] []).rd (he s0 X.H_0 0 [] []).rd⟩
end
end Gw

namespace Gw
open PySem L2 PyProof.Rows
/-! ### a def by its abstract body -/
def ret (r : Ret) (Γ : Sl) (k : Ret → Prop) : Prop := match r with
  | .dat d => k (.dat d)
  | .tmp c => k (.tmp c)
  | .var i => match Γ[i]? with
    | some (.own c) => k (.tmp c)
    | some (.dat d) => k (.dat d)
    | _ => False
def endsOf (Q : Ret → Mem → Prop) : AEnds := ⟨fun _ M => Q (.dat .non) M, fun r Γ M => ret r Γ fun r' => Q r' M, fun _ _ => False, fun _ _ => False⟩
def slots (n : Nat) (ds : List D) : Sl := ds.map .dat ++ List.replicate (n - ds.length) .non
section
variable {P : Program} {w : World} {K : PySem.W.Frag} {mg : Str → Option Value} {base : Heap}
theorem ok_start {N : List Str} {vs : List V} {ds : List D} {H G : Hp} {M : Mem} (ex : Ex G H) (nd : (dom M).Nodup) (ms : ∀ a c, (a, c) ∈ M → Cel K H G a c) (rl : RepL K G ds vs) : Ok K ⟨H, G, dom M⟩ (L2.start N vs) H G (slots N.length ds) M := by
  have hdat : ∀ (i : Nat) (s : Slot), (slots N.length ds)[i]? = some s → s ≠ .non → ∃ d, ds[i]? = some d ∧ s = .dat d := fun i s h hn => by
    unfold slots at h
    by_cases hi : i < ds.length
    · rw [List.getElem?_append_left (by rw [List.length_map]; exact hi), List.getElem?_map, List.getElem?_eq_getElem hi] at h
      cases h
      exact ⟨_, List.getElem?_eq_getElem hi, rfl⟩
    · rw [List.getElem?_append_right (by rw [List.length_map]; omega)] at h
      have := List.mem_of_getElem? h
      rw [List.mem_replicate] at this
      exact (hn this.2).elim
  refine ⟨⟨Ex.refl _, fun _ _ h _ => h, fun _ _ h => .inl h, fun _ h => .inl h, fun _ h => h⟩, ex, nd, ms, fun i d h => ?_, fun i c h => ?_, fun i j ci cj p h _ _ _ => ?_, ?_⟩
  · obtain ⟨d', e, z⟩ := hdat i _ h (by intro e; cases e)
    cases z
    obtain ⟨v, hv, r⟩ := rl.get e
    refine ⟨v, ?_, r⟩
    unfold L2.start
    rw [List.getElem?_append_left (by rw [List.length_map]; exact (List.getElem?_eq_some_iff.mp hv).1), List.getElem?_map, hv]
    rfl
  · obtain ⟨d', e, z⟩ := hdat i _ h (by intro e; cases e)
    cases z
  · obtain ⟨d', e, z⟩ := hdat i _ h (by intro e; cases e)
    cases z
  · unfold slots L2.start
    rw [List.length_append, List.length_append, List.length_map, List.length_map, List.length_replicate, List.length_replicate, rl.length]
theorem fn_ok {k : Nat} {x qual : Str} {st : Stmt} {f : Addr} {fd : FuncData} {N ps : List Str} {S : ASp} (F : Fun K x qual st f fd) (sc : FnScope N ps (defScope st)) (hn : Ar ps.length S) {as : AS}
    (hb : ∀ (cd : Value) (A : Around) (outer : List Env) (s : Shared) (H : Hp) (E : XK), Room k (A.deeper (envOfC qual (defScope st) s.heap.objs.size f cd)) → A.guards = some [] → ∃ ts, QSs (cxOf CX0 P w K mg base N qual (defScope st) f cd A outer s H E).nox (defBody st) ts as)
    (hr : ∀ ds M Q, S ds M Q → as (endsOf Q) (slots N.length ds) M) : FnG P w K mg base CX0 (k + 1) f fd ps (spA K ps.length S) := by
  refine fnG_of F sc (fun vs H Q E h => ?_) fun cd A outer s H vs Q E room gd h => ?_
  · obtain ⟨G, M, ds, hl, _⟩ := h; exact hl
  · obtain ⟨G, M, ds, hl, ex, nd, ms, rl, Qa, hS, fin⟩ := h
    obtain ⟨ts, q⟩ := hb cd A outer s H E room gd
    refine ⟨ts, q.pe.nox, q.rd ⟨H, G, dom M⟩ (L2.start N vs) H G (slots N.length ds) M (endsOf Qa) _ (ok_start ex nd ms rl) (hr ds M Qa hS) ⟨fun σ H' G' Γ' M' k' z => ?_, fun σ H0 H' G' Γ' M' r v k' rr z => ?_, fun _ _ _ _ _ _ z => z.elim, fun _ _ _ _ _ _ z => z.elim⟩⟩
    · exact fin (.dat .non) M' .non H' G' z ⟨k'.st, k'.ex, k'.nd, k'.ms⟩ (by simp only [RetOk, Rep])
    · have post : Post K H G M H' G' M' := ⟨k'.st, k'.ex, k'.nd, k'.ms⟩
      cases r with
      | dat d => exact fin (.dat d) M' v H' G' z post rr
      | tmp c =>
        obtain ⟨p, e, _, hb, hc, hm, _⟩ := rr
        exact fin (.tmp c) M' v H' G' z post ⟨p, e, hb, hc, hm⟩
      | var i =>
        simp only [endsOf, ret] at z
        split at z
        · rename_i c e1
          obtain ⟨p, s1, hb, hm, hc⟩ := k'.own i c e1
          have : v = .ref p := by have := (show (_ : L2.St)[i]? = some (some v) from rr); rw [s1] at this; cases this; rfl
          exact fin (.tmp c) M' v H' G' z post ⟨p, this, hb, hc, hm⟩
        · rename_i d e1
          obtain ⟨v', h1, h2⟩ := k'.dat i d e1
          have : v' = v := by have := (show (_ : L2.St)[i]? = some (some v) from rr); rw [h1] at this; cases this; rfl
          subst this
          exact fin (.dat d) M' _ H' G' z post h2
        · exact z.elim
end
/-! ### repr -/
section
variable {X : Cx} {a : Expr} {ta : TE} {aa : AE} {pos : Pos} {K : PySem.W.Frag}
def shOk (d : D) : Bool := plain d && (toPy d).showable && decide ((toPy d).depth ≤ 64) && decide ((toPy d).shown.length ≤ sizeLine)
def shD (d : D) : Str := (toPy d).shown
def aRepr (r : Ret) (Γ : Sl) (M : Mem) (Q : Ret → Sl → Mem → Prop) : Prop := match dOf r Γ M with
  | some d => shOk d = true ∧ Q (.dat (.str (shD d))) Γ M
  | none => False
def rReprD (K : PySem.W.Frag) : List V → Hp → VK → Prop := fun xs H Q => ∃ v d, xs = [v] ∧ Dp K H v d ∧ d.showable = true ∧ d.depth ≤ 64 ∧ d.shown.length ≤ sizeLine ∧ Q (.str d.shown) H
theorem rd_repr : RdU K (rReprD K) aRepr := by
  intro B σ H H1 G Γ M rx x Q R k r1 h q
  unfold aRepr at h
  split at h
  · rename_i d hd
    obtain ⟨c, h⟩ := h
    simp only [shOk, Bool.and_eq_true, decide_eq_true_eq] at c
    exact ⟨x, _, rfl, (dOf_ok k r1 hd).dp c.1.1.1, c.1.1.2, c.1.2, c.2, q _ H G Γ M (.dat (.str _)) k .refl (by simp only [RepR, Rep]; rfl) h⟩
  · exact h.elim
theorem q_repr {p : Pos} (gd : X.A.guards = some []) (hu : X.A.units + 100 < cLine) (hm : X.mg "repr" = none) (ha : QE X a ta aa) (hg : Gl X "repr" := by rfl) (na : starEach [a] X.env = (false, eval a X.env) :: starEach [] X.env := by rfl) (hK : X.K = K := by rfl) :
    QE X (.Call (.Name "repr" p) [a] [] pos) (tCB (rReprD K) (tCons ta tNil)) (aCall1 aRepr aa) := by subst hK; exact q_callB1 (call_reprD gd hu) rd_repr hm ha hg (na := na)
end
/-! ### the law's end -/
section
variable {P : Program} {w : World} {K : PySem.W.Frag} {mg mb : Str → Option Value}
/-- what stands at the law's call where only the script is told of -/
theorem env_script {s : Shared} {H : Hp} {a : Addr} {vs : List Value} (KX : K.In s.heap) (hns : s.heap.Ns mainGlobals mg) (hb : s.heap.Ns builtinsNs mb) (hbb : ∀ x : Str, x ≠ "__name__" → mb x = bootBuiltins x) (lim : s.heap.NoLimit) (hg : s.gens = #[])
    (ha : s.heap.get? a = some { cls := .type "list", data := .seq vs.toArray }) (hok : HOk P w H s.heap) (one : ∀ b, H b ≠ none → b = a) (hK : H a ≠ none → K.lookup a = none) :
    K.In (hidT s.heap H) ∧ (hidT s.heap H).Ns mainGlobals mg ∧ Env0 P w K mg (hidT s.heap H) callerA [] s H := by
  have free : ∀ b, b ≠ a → H b = none := fun b ne => Classical.byContradiction fun z => ne (one b z)
  have nsOf : ∀ {b : Addr} {m : Str → Option Value}, s.heap.Ns b m → (hidT s.heap H).Ns b m := by
    rintro b m ⟨o, es, ep, e, d, r⟩
    refine ⟨o, es, ep, hidT_get e (free b fun z => ?_), d, r⟩
    rw [z, ha] at e
    have e' := Option.some.inj e
    rw [← e'] at d
    cases d
  have kin : K.In (hidT s.heap H) := by
    intro b o e
    refine hidT_get (KX b o e) (Classical.byContradiction fun z => ?_)
    have eb := one b z
    subst eb
    rw [hK z] at e
    cases e
  obtain ⟨mc, l1, l2⟩ := lim
  refine ⟨kin, nsOf hns, ⟨rfl, ⟨kin, nsOf hns, ⟨mb, nsOf hb, hbb⟩, ⟨mc, nsOf l1, l2⟩⟩, fun b o e => of_hidT e, ?_, trivial, ?_, hok, .of_eq hg⟩⟩
  · rw [hidT_size]; exact Nat.le_refl _
  · intro b hb'; cases hb'
def spLaw (K : PySem.W.Frag) (S : List Int → Prop) : Sp := fun vs H Q _ => ∃ (a : Addr) (ns : List Int), vs = [.ref a] ∧ SqL K H a (ns.map V.int) ∧ S ns ∧ ∀ H', Q (.bl true) H'
theorem law_end {S : List Int → Prop} {k : Nat} {fa a : Addr} {fd : FuncData} {x : Str} {s₁ : Shared} {vs : List Value} {ns : List Int} (KX : K.In s₁.heap) (hns : s₁.heap.Ns mainGlobals mg) (hb : s₁.heap.Ns builtinsNs mb) (hbb : ∀ x : Str, x ≠ "__name__" → mb x = bootBuiltins x) (lim : s₁.heap.NoLimit) (hg : s₁.gens = #[])
    (ha : s₁.heap.get? a = some { cls := .type "list", data := .seq vs.toArray }) (hi : IntsAre vs ns) (hl : ns.length ≤ sizeLine) (hr : Room k callerA) (hS : S ns)
    (F : ∀ base : Heap, K.In base → base.Ns mainGlobals mg → FnG P w K mg base CX0 k fa fd [x] (spLaw K S)) (bind : ∀ (s : Shared) (u : Value), BindsTo s fd ⟨[u], []⟩ [(x, u)]) :
    codeAny (model P w) callerA (.call (.ref fa) ⟨[.ref a], []⟩) (fun r s' => r = .ok (.ret (.bool true)) ∧ PySem.OldK s₁.heap s'.heap ∧ s'.os = s₁.os ∧ AllBare s'.gens) s₁ := by
  have go : ∀ H : Hp, (∀ b, H b = none ∨ ∃ o xs, H b = some (.frz o (.lst xs))) → SqL K H a (ns.map V.int) → HOk P w H s₁.heap → (∀ b, H b ≠ none → b = a) → (H a ≠ none → K.lookup a = none) →
      codeAny (model P w) callerA (.call (.ref fa) ⟨[.ref a], []⟩) (fun r s' => r = .ok (.ret (.bool true)) ∧ PySem.OldK s₁.heap s'.heap ∧ s'.os = s₁.os ∧ AllBare s'.gens) s₁ := by
    intro H only sq hok one hK
    obtain ⟨kin, nsb, e0⟩ := env_script (P := P) (w := w) KX hns hb hbb lim hg ha hok one hK
    have run := (F _ kin nsb).go callerA [] s₁ H ⟨[.ref a], []⟩ [.ref a] [.ref a] (fun v _ => v = .bl true) (fun _ _ _ => False) hr rfl e0 (bind s₁ (.ref a)) (.cons rfl .nil) ⟨a, ns, rfl, sq, hS, fun _ => rfl⟩
    refine codeAny_mono run fun r s' h => ?_
    match r, h with
    | .error _, h => exact h.elim
    | .ok .next, h => exact h.elim
    | .ok .brk, h => exact h.elim
    | .ok .cont, h => exact h.elim
    | .ok (.ret u), ⟨v, H', os, bare, un, hok', rv, q⟩ =>
      have q' : v = .bl true := q
      subst q'
      have eu : u = Value.bool true := rv
      subst eu
      refine ⟨rfl, PySem.OldK.of_keep fun b o e => ?_, os, bare⟩
      rcases only b with z | ⟨ob, xs, z⟩
      · exact un.keep b o e z (fun m => by cases m) (fun m => by cases m)
      · obtain ⟨e1, _⟩ := hok b _ z
        obtain ⟨e2, _⟩ := hok' b _ (un.frzs b ob _ z)
        rw [e1] at e
        cases e
        exact e2
  have rv : Vals (ns.map V.int) vs := vals_ints hi
  by_cases hk : ∃ o, K.lookup a = some o
  · obtain ⟨o, hk⟩ := hk
    have e := KX a o hk
    rw [ha] at e
    cases e
    refine go (fun _ => none) (fun _ => .inl rfl) (.inr ⟨_, vs.toArray, _, hk, rfl, rfl, rfl, ?_, ?_⟩) (fun b u z => nomatch z) (fun b z => (z rfl).elim) (fun z => (z rfl).elim)
    · rw [List.size_toArray, hi.length]; exact hl
    · simpa using rv
  · have hk' : K.lookup a = none := by cases z : K.lookup a with | none => rfl | some o => exact (hk ⟨o, z⟩).elim
    let ob : Obj := { cls := .type "list", data := .seq vs.toArray }
    refine go (fun b => if b = a then some (.frz ob (.lst (ns.map V.int))) else none) (fun b => ?_) (.inl (.inr ⟨ob, if_pos rfl⟩)) (fun b u z => ?_) (fun b z => ?_) (fun _ => hk')
    · by_cases eb : b = a
      · exact .inr ⟨_, _, if_pos eb⟩
      · exact .inl (if_neg eb)
    · by_cases eb : b = a
      · subst eb
        have z' : u = .frz ob (.lst (ns.map V.int)) := by simpa using z.symm
        subst z'
        exact ⟨ha, by rw [List.length_map]; exact hl, vs, _, rv, ha⟩
      · simp [eb] at z
    · exact Classical.byContradiction fun eb => z (if_neg eb)
end
theorem law_walk {l : PySem.W.OpenLaw} {n k : Nat} {q : Program} {loose : List Str} {XP : (Str → Option Value) → Heap → Prop} {YP : World → Heap → Prop} {d : DefRec} {K : Params → PySem.W.Frag} {x : Str} {S : List Int → Prop}
    (hn : l.most = some n) (hn2 : n ≤ sizeLine) (hdf : d.params.defaults = []) (hr : Room k callerA) (hY : ∀ (w : World) (h : Heap), YP w h → (K w.params).In h)
    (F : ∀ (w : World) (mg : Str → Option Value) (fa : Addr) (h : Heap), (K w.params).In h → h.Ns mainGlobals mg → mg d.name = some (.ref fa) →
      ∃ fd : FuncData, (∀ (s : Shared) (u : Value), BindsTo s fd ⟨[u], []⟩ [(x, u)]) ∧ ∀ base : Heap, (K w.params).In base → base.Ns mainGlobals mg → FnG l.prog w (K w.params) mg base CX0 k fa fd [x] (spLaw (K w.params) S))
    (hS : ∀ ns : List Int, ns.length ≤ n → (∀ z ∈ ns, Builtin.Int.intBits z ≤ 1048576) → S ns) : PySem.W.WalkO q loose XP YP l.row.toRowW d [] (fun f vs => PySem.call f vs) :=
  Att.attach_callB hn hdf fun w s₀ s₁ mg mb fa o pm cd doc a vs ns G Y ho hd hcd hmg hobj hints hlen hbits hg => by
    have kx := hY w _ Y
    obtain ⟨fd, hb, hF⟩ := F w mg fa _ kx G.T.g hmg
    exact law_end kx G.T.g G.T.b G.T.builtins G.T.nolimit hg hobj hints (Nat.le_trans hlen hn2) hr (hS ns hlen hbits) hF hb
end Gw

namespace Gw
open PySem L2
section
variable {X : Cx} {tg a b c : Expr} {ta tb tc te : TE} {aa ab ac ae : AE} {pos : Pos} {K : PySem.W.Frag} {i : Nat} {x : Str} {pos' : Pos}
/-- name = [..] -/
theorem qs_setLcG {elt iter : Expr} {ifs : List Expr} {scope : Scope} {own : List (Str × Nat)} {wi : TI} {ai : AI} {g : TG} {ag : AG} {is : List Nat} {tt : TT} {at' : AT} {spos : Pos} {as : AS} (i : Nat)
    (has : ∀ {te' : TE} {ae' : AE}, RdE X.K te' ae' → ae' = aLc ai ag at' ae (own.map (·.2)) → RdS X.K (tAsg te' (gName i)) as)
    (hN : X.N.Nodup) (hi : QI X tg iter wi ai) (ok : BlkOk X.N X.env.scope scope own)
    (hg : ∀ (s : Shared) (H : Hp) (C : Addr) (cl : List (Str × Addr)) (fp : List Addr), QG (X.blk s H scope (compEnvC scope cl C X.env) fp) tg g ag is) (ht : ∀ (s : Shared) (H : Hp) (C : Addr) (cl : List (Str × Addr)) (fp : List Addr), QTs (X.blk s H scope (compEnvC scope cl C X.env) fp) ifs tt at')
    (he : ∀ (s : Shared) (H : Hp) (C : Addr) (cl : List (Str × Addr)) (fp : List Addr), QE (X.blk s H scope (compEnvC scope cl C X.env) fp) elt te ae) (hsub : ∀ j ∈ is, j ∈ own.map (·.2)) (s0 : Shared)
    (hy : X.N[i]? = some x) (hyl : X.env.scope.names.lookup x = some .local) (hsw : swapsWith (.ListComp elt [⟨tg, iter, ifs, 0⟩] scope pos) (some (.Name x pos')) spos.line X.env = pure true) (hc : X.calm = true) (hs : ∀ x, foldedSetIterable iter X.env x = pure x) :
    QS X (.Assign [.Name x pos'] (.ListComp elt [⟨tg, iter, ifs, 0⟩] scope pos) spos) (tAsg (tLc wi g tt te (own.map (·.2))) (gName i)) as :=
  ⟨ps_setLc hc hN hy hyl hsw hi.pe ok (fun s H C cl fp => (hg s H C cl fp).pe) (fun s H C cl fp => (ht s H C cl fp).pe) (fun s H C cl fp => (he s H C cl fp).pe) hs,
   has (rd_lc hi.rd (hg s0 X.H_0 0 [] []).rd hsub (ht s0 X.H_0 0 [] []).rd (he s0 X.H_0 0 [] []).rd) rfl⟩
theorem qs_setLc {elt iter : Expr} {ifs : List Expr} {scope : Scope} {own : List (Str × Nat)} {wi : TI} {ai : AI} {g : TG} {ag : AG} {is : List Nat} {tt : TT} {at' : AT} {spos : Pos} (i : Nat) (hN : X.N.Nodup) (hi : QI X tg iter wi ai) (ok : BlkOk X.N X.env.scope scope own)
    (hg : ∀ (s : Shared) (H : Hp) (C : Addr) (cl : List (Str × Addr)) (fp : List Addr), QG (X.blk s H scope (compEnvC scope cl C X.env) fp) tg g ag is) (ht : ∀ (s : Shared) (H : Hp) (C : Addr) (cl : List (Str × Addr)) (fp : List Addr), QTs (X.blk s H scope (compEnvC scope cl C X.env) fp) ifs tt at')
    (he : ∀ (s : Shared) (H : Hp) (C : Addr) (cl : List (Str × Addr)) (fp : List Addr), QE (X.blk s H scope (compEnvC scope cl C X.env) fp) elt te ae) (s0 : Shared) (hsub : ∀ j ∈ is, j ∈ own.map (·.2) := by decide)
    (hy : X.N[i]? = some x := by rfl) (hyl : X.env.scope.names.lookup x = some .local := by rfl) (hsw : swapsWith (.ListComp elt [⟨tg, iter, ifs, 0⟩] scope pos) (some (.Name x pos')) spos.line X.env = pure true := by exact sw_true rfl rfl rfl (by decide +kernel)) (hc : X.calm = true := by rfl) (hs : ∀ x, foldedSetIterable iter X.env x = pure x := by intro _; rfl) :
    QS X (.Assign [.Name x pos'] (.ListComp elt [⟨tg, iter, ifs, 0⟩] scope pos) spos) (tAsg (tLc wi g tt te (own.map (·.2))) (gName i)) (aAsg (aLc ai ag at' ae (own.map (·.2))) i) :=
  qs_setLcG i (fun h e => by subst e; exact rd_asg h) hN hi ok hg ht he hsub s0 hy hyl hsw hc hs
theorem qs_setLcF {elt iter : Expr} {ifs : List Expr} {scope : Scope} {own : List (Str × Nat)} {wi : TI} {ai : AI} {g : TG} {ag : AG} {is : List Nat} {tt : TT} {at' : AT} {spos : Pos} (i : Nat) (hN : X.N.Nodup) (hi : QI X tg iter wi ai) (ok : BlkOk X.N X.env.scope scope own)
    (hg : ∀ (s : Shared) (H : Hp) (C : Addr) (cl : List (Str × Addr)) (fp : List Addr), QG (X.blk s H scope (compEnvC scope cl C X.env) fp) tg g ag is) (ht : ∀ (s : Shared) (H : Hp) (C : Addr) (cl : List (Str × Addr)) (fp : List Addr), QTs (X.blk s H scope (compEnvC scope cl C X.env) fp) ifs tt at')
    (he : ∀ (s : Shared) (H : Hp) (C : Addr) (cl : List (Str × Addr)) (fp : List Addr), QE (X.blk s H scope (compEnvC scope cl C X.env) fp) elt te ae) (s0 : Shared) (hsub : ∀ j ∈ is, j ∈ own.map (·.2) := by decide)
    (hy : X.N[i]? = some x := by rfl) (hyl : X.env.scope.names.lookup x = some .local := by rfl) (hsw : swapsWith (.ListComp elt [⟨tg, iter, ifs, 0⟩] scope pos) (some (.Name x pos')) spos.line X.env = pure true := by exact sw_true rfl rfl rfl (by decide +kernel)) (hc : X.calm = true := by rfl) (hs : ∀ x, foldedSetIterable iter X.env x = pure x := by intro _; rfl) :
    QS X (.Assign [.Name x pos'] (.ListComp elt [⟨tg, iter, ifs, 0⟩] scope pos) spos) (tAsg (tLc wi g tt te (own.map (·.2))) (gName i)) (aAsgF (aLc ai ag at' ae (own.map (·.2))) i) :=
  qs_setLcG i (fun h e => by subst e; exact rd_asgF h) hN hi ok hg ht he hsub s0 hy hyl hsw hc hs
theorem q_comp {elt iter : Expr} {ifs : List Expr} {scope : Scope} {own : List (Str × Nat)} {wi : TI} {ai : AI} {g : TG} {ag : AG} {is : List Nat} {tt : TT} {at' : AT} (hN : X.N.Nodup) (hi : QI X tg iter wi ai) (ok : BlkOk X.N X.env.scope scope own)
    (hg : ∀ (s : Shared) (H : Hp) (C : Addr) (cl : List (Str × Addr)) (fp : List Addr), QG (X.blk s H scope (compEnvC scope cl C X.env) fp) tg g ag is) (ht : ∀ (s : Shared) (H : Hp) (C : Addr) (cl : List (Str × Addr)) (fp : List Addr), QTs (X.blk s H scope (compEnvC scope cl C X.env) fp) ifs tt at')
    (he : ∀ (s : Shared) (H : Hp) (C : Addr) (cl : List (Str × Addr)) (fp : List Addr), QE (X.blk s H scope (compEnvC scope cl C X.env) fp) elt te ae) (s0 : Shared) (hsub : ∀ j ∈ is, j ∈ own.map (·.2) := by decide) (hc : X.calm = true := by rfl) (hs : ∀ x, foldedSetIterable iter X.env x = pure x := by intro _; rfl) :
    QE X (.ListComp elt [⟨tg, iter, ifs, 0⟩] scope pos) (tLc wi g tt te (own.map (·.2))) (aLc ai ag at' ae (own.map (·.2))) := q_lc own rfl hN hi ok hg ht he hsub s0 hc hs
/-! a, b = e1, e2 -/
def sto (r : Ret) (Γ : Sl) (i : Nat) (k : Sl → Prop) : Prop := match r with
  | .tmp c => k (Γ.set i (.own c))
  | r => frz r Γ fun d Γ2 => k (Γ2.set i (.dat d))
/-- both made first; data alone -/
def aPar (aa : AA) (i j : Nat) (A : AEnds) (Γ : Sl) (M : Mem) : Prop := aa Γ M fun ds Γ1 M1 => match ds with
  | [d, e] => A.nx ((Γ1.set i (.dat d)).set j (.dat e)) M1
  | _ => False
theorem qs_par {y : Str} {tr : TA} {ar : AA} {px py pt spos : Pos} {kt k2 pt2} (i j : Nat) (hN : X.N.Nodup) (ha : QA X [a, b] tr ar) (hi : X.N[i]? = some x := by rfl) (hj : X.N[j]? = some y := by rfl) (hij : i ≠ j := by decide)
    (hx : X.env.scope.names.lookup x = some .local := by rfl) (hy : X.env.scope.names.lookup y = some .local := by rfl) (hw : swappedStores [.Tuple [.Name x px, .Name y py] kt pt] (.Tuple [a, b] k2 pt2) X.env = pure (some [x, y]) := by rfl)
    (hs : swapsWithSole [.Tuple [.Name x px, .Name y py] kt pt] (.Tuple [a, b] k2 pt2) spos.line X.env = pure false := by rfl) (hc : X.calm = true := by rfl) : QS X (.Assign [.Tuple [.Name x px, .Name y py] kt pt] (.Tuple [a, b] k2 pt2) spos) (tPar i j tr) (aPar ar i j) :=
  ⟨ps_par hc hN hi hj hij hx hy ha.pe hw hs, fun B σ H G Γ M A E k h s => ha.rd B σ H G Γ M _ _ k h fun vs H1 G1 Γ1 M1 ds k1 e1 rl h1 => by
    split at h1
    · rename_i d e
      obtain ⟨v, r, rfl, rv, rn⟩ := repL_cons.mp rl
      obtain ⟨u, r', rfl, ru, rn'⟩ := repL_cons.mp rn
      have := repL_nil.mp rn'; subst this
      exact ⟨v, u, rfl, s.nx _ H1 G1 _ M1 ((k1.setD rv).setD ru) h1⟩
    · exact h1.elim⟩
/-- the second a new list of its own -/
def aParO (aa ab : AE) (i j : Nat) (A : AEnds) (Γ : Sl) (M : Mem) : Prop := aa Γ M fun r Γ1 M1 => frz r Γ1 fun d Γ2 => ab Γ2 M1 fun r2 Γ3 M3 => match r2 with
  | .tmp c => A.nx ((Γ3.set i (.dat d)).set j (.own c)) M3
  | _ => False
theorem qs_parO {y : Str} {px py pt spos : Pos} {kt k2 pt2} (i j : Nat) (hN : X.N.Nodup) (ha : QE X a ta aa) (hb : QE X b tb ab) (na : starEach [a, b] X.env = (false, eval a X.env) :: starEach [b] X.env := by rfl) (nb : starEach [b] X.env = (false, eval b X.env) :: starEach [] X.env := by rfl) (hi : X.N[i]? = some x := by rfl) (hj : X.N[j]? = some y := by rfl) (hij : i ≠ j := by decide)
    (hx : X.env.scope.names.lookup x = some .local := by rfl) (hy : X.env.scope.names.lookup y = some .local := by rfl) (hw : swappedStores [.Tuple [.Name x px, .Name y py] kt pt] (.Tuple [a, b] k2 pt2) X.env = pure (some [x, y]) := by rfl)
    (hs : swapsWithSole [.Tuple [.Name x px, .Name y py] kt pt] (.Tuple [a, b] k2 pt2) spos.line X.env = pure false := by rfl) (hc : X.calm = true := by rfl) : QS X (.Assign [.Tuple [.Name x px, .Name y py] kt pt] (.Tuple [a, b] k2 pt2) spos) (tPar i j (tCons ta (tCons tb tNil))) (aParO aa ab i j) :=
  ⟨ps_par hc hN hi hj hij hx hy (pa_cons ha.pe (pa_cons hb.pe pa_nil nb) na) hw hs, fun B σ H G Γ M A E k h s => ha.rd B σ H G Γ M _ _ k h fun v H1 G1 Γ1 M1 r k1 e1 rr h1 => by
    obtain ⟨G2, Γ2, d, k2, e2, rp, h2⟩ := frz_ok (H0 := H) k1 e1 rr h1
    refine hb.rd B σ H1 G2 Γ2 M1 _ _ k2 h2 fun u H3 G3 Γ3 M3 r3 k3 e3 rr3 h3 => ?_
    split at h3
    · rename_i c
      obtain ⟨p, rfl, h0, hb', hc', hm, hn⟩ := rr3
      exact ⟨v, _, rfl, s.nx _ H3 G3 _ M3 ((k3.setD (rp.mono e3.g)).setO hb' hc' hm fun z => hn (owned_set (fun c e => by cases e) z)) h3⟩
    · exact h3.elim⟩
/-! min, max of three -/
def aI3 (g : Int → Int → Int → Int) (aa : AA) (Γ : Sl) (M : Mem) (Q : Ret → Sl → Mem → Prop) : Prop := aa Γ M fun ds Γ1 M1 => match ds with
  | [.int i, .int j, .int l] => Q (.dat (.int (g i j l))) Γ1 M1
  | _ => False
theorem rd_I3 {f : V → V → V → Option V} {g : Int → Int → Int → Int} (hf : ∀ i j l, f (.int i) (.int j) (.int l) = some (.int (g i j l))) {tr : TA} {ar : AA} (ha : RdA K tr ar) : RdE K (tCB (rNuC3 f) tr) (aI3 g ar) := fun B σ H G Γ M Q R k h q =>
  ha B σ H G Γ M _ _ k h fun vs H1 G1 Γ1 M1 ds k1 e1 rl h1 => by
    split at h1
    · rename_i i j l
      obtain ⟨v, r, rfl, rv, rn⟩ := repL_cons.mp rl
      obtain ⟨u, r', rfl, ru, rn'⟩ := repL_cons.mp rn
      obtain ⟨t, r'', rfl, rt, rn''⟩ := repL_cons.mp rn'
      have := repL_nil.mp rn''; subst this
      rw [Rep] at rv ru rt
      subst rv; subst ru; subst rt
      exact ⟨_, _, _, _, rfl, hf i j l, q _ H1 G1 Γ1 M1 (.dat (.int _)) k1 e1 (by simp only [RepR, Rep]) h1⟩
    · exact h1.elim
def min3 (i j l : Int) : Int := let m := if j < i then j else i; if l < m then l else m
theorem q_min3 {p : Pos} {tr : TA} {ar : AA} (hm : X.mg "min" = none) (ha : QA X [a, b, c] tr ar) (hc : X.calm = true := by rfl) (hg : Gl X "min" := by rfl) (he : starEach [a, b, c] X.env = (false, eval a X.env) :: starEach [b, c] X.env := by rfl) (hpl : (backTo pos (starEach [b, c] X.env)).any (·.1) = false := by rfl) :
    QE X (.Call (.Name "min" p) [a, b, c] [] pos) (tCB (rNuC3 nuMin3) tr) (aI3 min3 ar) := ⟨pe_callB (call_min3Nu hc) hg hm (by decide +kernel) ha.pe (by decide) (by decide) he hpl, rd_I3 (fun i j l => by
      simp only [nuMin3, nuMin2, nuLt, nuCB, Option.map_some, Option.bind_some, min3]
      by_cases h1 : j < i <;> simp [h1] <;> split <;> simp_all) ha.rd⟩
end
/-! ### the law's def -/
section
variable {P : Program} {w : World} {K : PySem.W.Frag} {mg : Str → Option Value} {base : Heap}
def SLaw (S : List Int → Prop) : ASp := fun ds M Q => ∃ ns : List Int, ds = [.scr (ns.map .int)] ∧ M = [] ∧ S ns ∧ ∀ M', Q (.dat (.bl true)) M'
theorem ar_law (S : List Int → Prop) : Ar 1 (SLaw S) := fun _ _ _ ⟨_, e, _⟩ => by rw [e]; rfl
theorem law_fn {S : List Int → Prop} {k : Nat} {f : Addr} {fd : FuncData} {x : Str} (F : FnG P w K mg base CX0 k f fd [x] (spA K 1 (SLaw S))) : FnG P w K mg base CX0 k f fd [x] (spLaw K S) where
  arity := fun vs H Q E h => by obtain ⟨a, ns, rfl, _⟩ := h; rfl
  go := fun A o s H ar us vs Q E r gd e b rv h => F.go A o s H ar us vs Q E r gd e b rv (by
    obtain ⟨a, ns, rfl, sq, hS, hq⟩ := h
    refine ⟨H, [], [.scr (ns.map .int)], rfl, Ex.refl H, List.nodup_nil, (fun _ _ h => nomatch h), RepL.one (rep_scr.mpr ⟨a, _, rfl, sq, repL_map_int.mpr rfl⟩), fun r _ => r = .dat (.bl true), ⟨ns, rfl, rfl, hS, fun _ => rfl⟩, fun r M' v H' G' er _ rr => ?_⟩
    subst er
    have ev : v = .bl true := by have := rr; simp only [RetOk, Rep] at this; exact this
    subst ev
    exact hq H')
end
end Gw

namespace Gw
open PySem L2
theorem hu_big {k : Nat} {A : Around} (r : Room k A) : A.units + 100 < cLine := by have := r.un; omega
/-! ### a def that may be called: all that its callers want -/
structure Cal (P : Program) (w : World) (K : PySem.W.Frag) (mg : Str → Option Value) (base : Heap) (x : Str) (ps : List Str) (k : Nat) (S : ASp) : Prop where
  ex : ∃ f fd, FnG P w K mg base CX0 k f fd ps (spA K ps.length S) ∧ mg x = some (.ref f) ∧ PySem.W.keepIn K (.ref f) = true ∧ Binds K fd ps [] ∧ Ar ps.length S
structure KCal (P : Program) (w : World) (K : PySem.W.Frag) (mg : Str → Option Value) (base : Heap) (x : Str) (ps : List Str) (k : Nat) (S : ASp) : Prop where
  ex : ∃ f fd, FnG P w K mg base CX0 k f fd ps (spA K ps.length S) ∧ mg x = some (.ref f) ∧ PySem.W.keepIn K (.ref f) = true ∧
    (∀ (s : Shared) (ws : List Value), K.In s.heap → ws.length = ps.length → BindsTo s fd ⟨[], ps.zip ws⟩ (ps.zip ws)) ∧ Ar ps.length S
section
variable {X : Cx} {P : Program} {w : World} {K : PySem.W.Frag} {mg : Str → Option Value} {base : Heap} {k n : Nat} {ps : List Str} {S : ASp} {x : Str} {p pos : Pos} {a : Expr} {es : List Expr} {tr : TA} {ar : AA}
/-- the context runs over this text -/
structure At (X : Cx) (P : Program) (w : World) (K : PySem.W.Frag) (mg : Str → Option Value) (base : Heap) : Prop where
  prog : X.prog = P
  w : X.w = w
  K : X.K = K
  mg : X.mg = mg
  base : X.base = base
theorem q_callC (C : Cal P w K mg base x ps k S) (hr : Room k X.A) (gd : X.A.guards = some []) (ha : QA X (a :: es) tr ar) (hX : At X P w K mg base := by exact ⟨rfl, rfl, rfl, rfl, rfl⟩) (hg : Gl X x := by rfl) (hdb : (x == ("__debug__" : Str)) = false := by decide)
    (he : starEach (a :: es) X.env = (false, eval a X.env) :: starEach es X.env := by rfl) (hpl : (backTo pos (starEach es X.env)).any (·.1) = false := by rfl) :
    QE X (.Call (.Name x p) (a :: es) [] pos) (tCall (spA K ps.length S) [] E0 tr) (aCall S ar) := by
  obtain ⟨f, fd, F, hm, hk, hb, hn⟩ := C.ex
  obtain ⟨h1, h2, h3, h4, h5⟩ := hX
  subst h1 h2 h3 h4 h5
  exact q_call F hr gd hm hk hb hn ha hg hdb he hpl
theorem q_callC0 (C : Cal P w K mg base x ps k S) (hr : Room k X.A) (gd : X.A.guards = some []) (hX : At X P w K mg base := by exact ⟨rfl, rfl, rfl, rfl, rfl⟩) (hg : Gl X x := by rfl) (hdb : (x == ("__debug__" : Str)) = false := by decide) :
    QE X (.Call (.Name x p) [] [] pos) (tCall (spA K ps.length S) [] E0 tNil) (aCall S aNil) := by
  obtain ⟨f, fd, F, hm, hk, hb, hn⟩ := C.ex
  obtain ⟨h1, h2, h3, h4, h5⟩ := hX
  subst h1 h2 h3 h4 h5
  exact q_call0 F hr gd hm hk hb hn hg hdb
theorem q_callCK {kws : List Keyword} {tk : TA} {ak : AA} (C : KCal P w K mg base x ps k S) (room : Room k X.A) (gd : X.A.guards = some []) (hkw : QK X kws tk ak) (hX : At X P w K mg base := by exact ⟨rfl, rfl, rfl, rfl, rfl⟩) (hg : Gl X x := by rfl)
    (hall : (backToKw pos (keywordEach kws X.env)).all (·.1.isSome) = true := by rfl) (hks : (backToKw pos (keywordEach kws X.env)).filterMap (·.1) = ps := by rfl)
    (hdb : (x == ("__debug__" : Str)) = false := by decide) (hpl : ((backTo pos (starEach [] X.env)).any (·.1) || (backToKw pos (keywordEach kws X.env)).any (·.1.isNone)) = false := by rfl) :
    QE X (.Call (.Name x p) [] kws pos) (tCall (spA K ps.length S) [] E0 tk) (aCall S ak) := by
  obtain ⟨f, fd, F, hm, hk, hb, hn⟩ := C.ex
  obtain ⟨h1, h2, h3, h4, h5⟩ := hX
  subst h1 h2 h3 h4 h5
  refine ⟨⟨fun pins s σ H Q I h => wpAny_Call_Name_kw (ld_glob I hg hm ?_ hdb)⟩, rd_call hn hkw.rd⟩
  refine PySem.W.callWith_KW0 (h₀ := X.base) I.ok.mod.kin hk hall (thn (hkw.pe.run pos pins s σ H _ I h) ?_) hpl
  rintro ws s2 ⟨zs, H2, I2, rz, q⟩
  rw [List.append_nil] at q
  rw [hks]
  exact ⟨I2.kIn, callG F room gd pass0 I2 (hb s2 ws I2.kIn (by rw [← rz.length]; exact F.arity _ _ _ _ q)) rz q⟩
end
/-! ### a new list is shared -/
section
variable {X : Cx} {a : Expr} {ta : TE} {aa : AE} {K : PySem.W.Frag} {B : Ent} {σ : St} {H G H1 G1 : Hp} {Γ Γ1 : Sl} {M M1 : Mem}
theorem Ok.share {p : Addr} {c : Cell} (k : Ok K B σ H G Γ M) (hb : B.H p = none) (hc : Cel K H G p c) (hm : p ∉ dom M) (hn : ¬ owned σ Γ p) : Ok K B σ H G Γ ((p, c) :: M) := by
  refine ⟨⟨k.st.g, k.st.fr, k.st.gn, fun x hx => ?_, k.st.nn⟩, k.ex, List.nodup_cons.mpr ⟨hm, k.nd⟩, fun x cx hx => ?_, k.dat, fun i ci h => ?_, k.dis, k.len⟩
  · rcases List.mem_cons.mp hx with e | e
    · exact .inr (by rw [e]; exact hb)
    · exact k.st.mn x e
  · rcases List.mem_cons.mp hx with e | e
    · cases e; exact hc
    · exact k.ms x cx e
  · obtain ⟨q, h1, h2, h3, h4⟩ := k.own i ci h
    refine ⟨q, h1, h2, fun z => ?_, h4⟩
    rcases List.mem_cons.mp z with e | e
    · exact hn ⟨i, ci, h, by rw [show p = q from e.symm]; exact h1⟩
    · exact h3 e
def aSh (aa : AE) (Γ : Sl) (M : Mem) (Q : Ret → Sl → Mem → Prop) : Prop := aa Γ M fun r Γ1 M1 => match r with
  | .tmp c => ∀ p, p ∉ dom M1 → Q (.dat (.ref p)) Γ1 ((p, c) :: M1)
  | _ => False
theorem rd_sh (ha : RdE K ta aa) : RdE K ta (aSh aa) := fun B σ H G Γ M Q R k h q => ha B σ H G Γ M _ _ k h fun v H1 G1 Γ1 M1 r k1 e1 rr h1 => by
  split at h1
  · rename_i c
    obtain ⟨p, rfl, h0, hb, hc, hm, hn⟩ := rr
    refine q _ H1 G1 Γ1 _ (.dat (.ref p)) (k1.share hb hc hm hn) ⟨e1.g, fun x o hx g m n => ?_, e1.nn⟩ (by simp only [RepR, Rep]) (h1 p hm)
    obtain ⟨b1, b2, b3, b4⟩ := e1.tmp x o hx g m n
    refine ⟨b1, b2, fun z => ?_, b4⟩
    rcases List.mem_cons.mp z with e | e
    · subst e; rw [h0] at hx; cases hx
    · exact b3 e
  · exact h1.elim
theorem q_sh (h : QE X a ta aa) : QE X a ta (aSh aa) := ⟨h.pe, rd_sh h.rd⟩
def aShV (i : Nat) (Γ : Sl) (M : Mem) (Q : Ret → Sl → Mem → Prop) : Prop := match Γ[i]? with
  | some (.own c) => ∀ p, p ∉ dom M → Q (.dat (.ref p)) (Γ.set i (.dat (.ref p))) ((p, c) :: M)
  | _ => False
theorem rd_shV {i : Nat} : RdE K (tVar i) (aShV i) := fun B σ H G Γ M Q R k h q => by
  unfold aShV at h
  split at h
  · rename_i c e1
    obtain ⟨p, s1, hb, hm, hc⟩ := k.own i c e1
    have own' : ∀ x, owned σ (Γ.set i .non) x → owned σ Γ x := fun x ⟨j, cj, h1, h2⟩ => by
      rcases set_get h1 with ⟨_, e⟩ | ⟨_, e⟩
      · cases e
      · exact ⟨j, cj, e, h2⟩
    have hn : ¬ owned σ (Γ.set i .non) p := fun ⟨j, cj, h1, h2⟩ => by
      rcases set_get h1 with ⟨_, e⟩ | ⟨ne, e⟩
      · cases e
      · exact ne (k.dis j i _ _ p e e1 h2 s1)
    obtain ⟨k0, _⟩ := k.agree (σ' := σ) (Γ' := Γ.set i .non) (fun j s h hs => by
      rcases set_get h with ⟨_, e⟩ | ⟨_, e⟩
      · exact (hs e).elim
      · exact ⟨e, rfl⟩) (by rw [List.length_set]; exact k.len)
    have k1 := (k0.share hb hc hm hn).setD (i := i) (d := .ref p) (v := .ref p) (by rw [Rep])
    have es : σ.set i (some (.ref p)) = σ := by
      apply List.ext_getElem?
      intro j
      rw [List.getElem?_set]
      split
      · rename_i ej
        subst ej
        rw [if_pos ((List.getElem?_eq_some_iff.mp s1).1), s1]
      · rfl
    rw [es, List.set_set] at k1
    refine ⟨_, s1, q _ H G _ _ (.dat (.ref p)) k1 ⟨Ex.refl G, fun x o hx g m n => ?_, fun _ z => z⟩ (by simp only [RepR, Rep]) (h p hm)⟩
    refine ⟨hx, g, fun z => ?_, fun ⟨j, cj, h1, h2⟩ => n ?_⟩
    · rcases List.mem_cons.mp z with e | e
      · exact n ⟨i, c, e1, by rw [show x = p from e]; exact s1⟩
      · exact m e
    · rcases set_get h1 with ⟨_, e⟩ | ⟨_, e⟩
      · cases e
      · exact ⟨j, cj, e, h2⟩
  · exact h.elim
theorem qv_sh (i : Nat) {x : Str} {pos : Pos} (hN : X.N[i]? = some x := by rfl) (hv : Vis X.env.scope x := by first | exact Or.inl rfl | exact Or.inr (Or.inl rfl) | exact Or.inr (Or.inr rfl)) (hd : (x == ("__debug__" : Str)) = false := by decide)
    (hcd : (x == ("__classdict__" : Str)) = false := by decide) : QE X (.Name x pos) (tVar i) (aShV i) := ⟨pe_var hN hv hd hcd, rd_shV⟩
end
/-! ### texts compared -/
section
variable {X : Cx} {K : PySem.W.Frag}
def aEqS (f : Bool → Bool) (x : Ret) (y : Ret) (Γ : Sl) (M : Mem) (Q : Ret → Sl → Mem → Prop) : Prop := match x, y with
  | .dat (.str s), .dat (.str t) => Q (.dat (.bl (f (decide (s = t))))) Γ M
  | _, _ => False
theorem rd_eqS : RdO K rEq (aEqS id) := by
  intro B σ H H1 H2 G Γ M rx ry x y Q R k r1 r2 h q
  unfold aEqS at h
  split at h
  · rename_i s t
    have e1 : x = .str s := by have := r1; simp only [RepR, Rep] at this; exact this
    have e2 : y = .str t := by have := r2; simp only [RepR, Rep] at this; exact this
    subst e1; subst e2
    refine ⟨rfl, q _ H G Γ M (.dat (.bl _)) k .refl ?_ h⟩
    simp only [RepR, Rep, id, V.str.injEq]
  · exact h.elim
theorem rd_neS : RdO K rNe (aEqS not) := by
  intro B σ H H1 H2 G Γ M rx ry x y Q R k r1 r2 h q
  unfold aEqS at h
  split at h
  · rename_i s t
    have e1 : x = .str s := by have := r1; simp only [RepR, Rep] at this; exact this
    have e2 : y = .str t := by have := r2; simp only [RepR, Rep] at this; exact this
    subst e1; subst e2
    refine ⟨rfl, q _ H G Γ M (.dat (.bl _)) k .refl ?_ h⟩
    simp only [RepR, Rep, V.str.injEq]
  · exact h.elim
theorem c_eqS : CmpR X .Eq rEq (aEqS id) := ⟨op_eq, rd_eqS⟩
theorem c_neS : CmpR X .NotEq rNe (aEqS not) := ⟨op_ne, rd_neS⟩
end
end Gw

namespace Gw
open PySem L2
/-! ### loops read by what holds of the rest -/
theorem forL {g : AG} {body : AS} {A : AEnds} (I : List D → Sl → Mem → Prop) (hn : ∀ Γ M, I [] Γ M → A.nx Γ M)
    (hc : ∀ d ds Γ M (K : Sl → Mem → Prop), I (d :: ds) Γ M → (∀ Γ' M', I ds Γ' M' → K Γ' M') → g d Γ fun Γ1 => body { A with nx := K, ct := K, bk := A.nx } Γ1 M) : ∀ (ds : List D) {Γ : Sl} {M : Mem}, I ds Γ M → aForL g body ds A Γ M
  | [], Γ, M, h => hn Γ M h
  | d :: ds, Γ, M, h => hc d ds Γ M _ h fun Γ' M' h' => forL I hn hc ds h'
theorem lcL {g : AG} {tt : AT} {ae : AE} {vs : List Nat} {k : List D → Sl → Mem → Prop} (I : List D → List D → Sl → Mem → Prop) (hn : ∀ acc Γ M, I [] acc Γ M → k acc Γ M)
    (hc : ∀ d ds acc Γ M (K : List D → Sl → Mem → Prop), I (d :: ds) acc Γ M → (∀ acc' Γ' M', I ds acc' Γ' M' → K acc' Γ' M') → g d Γ fun Γ1 => tt Γ1 M fun b Γ2 M2 => if b = true then ae Γ2 M2 fun r Γ3 M3 => frz r Γ3 fun y Γ4 => acc.length < sizeLine ∧ K (acc ++ [y]) (wipeS Γ4 vs) M3
      else K acc (wipeS Γ2 vs) M2) : ∀ (ds acc : List D) {Γ : Sl} {M : Mem}, I ds acc Γ M → aLcL g tt ae vs k ds acc Γ M
  | [], acc, Γ, M, h => hn acc Γ M h
  | d :: ds, acc, Γ, M, h => hc d ds acc Γ M _ h fun acc' Γ' M' h' => lcL I hn hc ds acc' h'
theorem rngD_cons (lo : Int) (n : Nat) : rngD lo (n + 1) = .int lo :: rngD (lo + 1) n := by
  unfold rngD
  rw [List.range_succ_eq_map, List.map_cons, List.map_map]
  congr 1
  · simp
  · apply List.map_congr_left
    intro i _
    simp only [Function.comp_apply]
    congr 1
    omega
theorem rngD_zero (lo : Int) : rngD lo 0 = [] := rfl
/-- over a range: n turns are left -/
theorem forR {g : AG} {body : AS} {A : AEnds} (I : Int → Nat → Sl → Mem → Prop) (hn : ∀ i Γ M, I i 0 Γ M → A.nx Γ M)
    (hc : ∀ i n Γ M (K : Sl → Mem → Prop), I i (n + 1) Γ M → (∀ Γ' M', I (i + 1) n Γ' M' → K Γ' M') → g (.int i) Γ fun Γ1 => body { A with nx := K, ct := K, bk := A.nx } Γ1 M) : ∀ (n : Nat) {lo : Int} {Γ : Sl} {M : Mem}, I lo n Γ M → aForL g body (rngD lo n) A Γ M
  | 0, lo, Γ, M, h => hn lo Γ M h
  | n + 1, lo, Γ, M, h => by rw [rngD_cons]; exact hc lo n Γ M _ h fun Γ' M' h' => forR I hn hc n h'
theorem lcR {g : AG} {tt : AT} {ae : AE} {vs : List Nat} {k : List D → Sl → Mem → Prop} (I : Int → Nat → List D → Sl → Mem → Prop) (hn : ∀ i acc Γ M, I i 0 acc Γ M → k acc Γ M)
    (hc : ∀ i n acc Γ M (K : List D → Sl → Mem → Prop), I i (n + 1) acc Γ M → (∀ acc' Γ' M', I (i + 1) n acc' Γ' M' → K acc' Γ' M') → g (.int i) Γ fun Γ1 => tt Γ1 M fun b Γ2 M2 => if b = true then ae Γ2 M2 fun r Γ3 M3 => frz r Γ3 fun y Γ4 => acc.length < sizeLine ∧ K (acc ++ [y]) (wipeS Γ4 vs) M3
      else K acc (wipeS Γ2 vs) M2) : ∀ (n : Nat) {lo : Int} (acc : List D) {Γ : Sl} {M : Mem}, I lo n acc Γ M → aLcL g tt ae vs k (rngD lo n) acc Γ M
  | 0, lo, acc, Γ, M, h => hn lo acc Γ M h
  | n + 1, lo, acc, Γ, M, h => by rw [rngD_cons]; exact hc lo n acc Γ M _ h fun acc' Γ' M' h' => lcR I hn hc n acc' h'
/-! ### what can be compared, shown -/
theorem plainL_ints (ns : List Int) : plainL (ns.map .int) = true := by
  induction ns with
  | nil => rfl
  | cons n ns ih => rw [List.map_cons, plainL, plain, ih]; rfl
theorem toPyL_ints (ns : List Int) : toPyL (ns.map .int) = ns.map .int := by
  induction ns with
  | nil => rfl
  | cons n ns ih => rw [List.map_cons, toPyL, toPy, ih]; rfl
theorem lay_ints (ns : List Int) : PyData.canLayAll0 (ns.map .int) = true := by
  induction ns with
  | nil => simp [PyData.canLayAll0]
  | cons n ns ih => rw [List.map_cons, PyData.canLayAll0, PyData.canLay0, ih]; rfl
theorem depth_ints (ns : List Int) : PyData.depthAll (ns.map .int) = 0 := by
  induction ns with
  | nil => simp [PyData.depthAll]
  | cons n ns ih => rw [List.map_cons, PyData.depthAll, PyData.depth, ih]; rfl
theorem cmp_ints_l (ns : List Int) : cmpOk (.lst (ns.map .int)) = true := by
  simp only [cmpOk, plain, toPy, SeqAt.shaped, PyData.canLay0, PyData.depth, plainL_ints, toPyL_ints, lay_ints, depth_ints]; decide
theorem cmp_ints_t (ns : List Int) : cmpOk (.tup (ns.map .int)) = true := by
  simp only [cmpOk, plain, toPy, SeqAt.shaped, PyData.canLay0, PyData.depth, plainL_ints, toPyL_ints, lay_ints, depth_ints]; decide
theorem cmp_int (i : Int) : cmpOk (.int i) = true := by simp [cmpOk, plain, toPy, SeqAt.shaped, PyData.canLay0, PyData.depth]
theorem cmp_nil_l : cmpOk (.lst []) = true := cmp_ints_l []
theorem cmp_nil_t : cmpOk (.tup []) = true := cmp_ints_t []
theorem eqD_int (i j : Int) : eqD (.int i) (.int j) = decide (i = j) := by simp [eqD, toPy, PyData.eqv, Bool.beq_eq_decide_eq]
theorem eqD_ints_l (ns ms : List Int) : eqD (.lst (ns.map .int)) (.lst (ms.map .int)) = decide (ns = ms) := by
  simp only [eqD, toPy, PyData.eqv, toPyL_ints]
  induction ns generalizing ms with
  | nil => cases ms <;> simp [PyData.eqvAll]
  | cons n ns ih => cases ms with
    | nil => simp [PyData.eqvAll]
    | cons m ms => simp [PyData.eqvAll, PyData.eqv, ih, Bool.beq_eq_decide_eq]
theorem eqD_ints_t (ns ms : List Int) : eqD (.tup (ns.map .int)) (.tup (ms.map .int)) = decide (ns = ms) := by
  have := eqD_ints_l ns ms
  simpa only [eqD, toPy, PyData.eqv] using this
theorem eqD_nil_l (ns : List Int) : eqD (.lst (ns.map .int)) (.lst []) = decide (ns = []) := eqD_ints_l ns []
theorem eqD_nil_t (ns : List Int) : eqD (.tup (ns.map .int)) (.tup []) = decide (ns = []) := eqD_ints_t ns []
/-! ### items -/
theorem ixN_of {n : Nat} {i : Int} (h0 : 0 ≤ i) (h1 : i < n) : ixN n i = some i.toNat := by
  obtain ⟨j, rfl⟩ : ∃ j : Nat, i = (j : Int) := ⟨i.toNat, by omega⟩
  simp only [ixN]
  split <;> first | omega | simp
theorem atI_in {α : Type} {xs : List α} {i : Int} (h0 : 0 ≤ i) (h1 : i < xs.length) : ∃ x, atI xs i = some x ∧ xs[i.toNat]? = some x := by
  unfold atI
  rw [ixN_of h0 h1]
  have : i.toNat < xs.length := by omega
  exact ⟨xs[i.toNat], by simp [this], by simp [this]⟩
end Gw
namespace Gw
theorem size_val : PySem.sizeLine = 16777216 := by decide
end Gw
namespace Gw
open PySem L2
theorem lk_self {a : Addr} {c : Cell} {M : Mem} : List.lookup a ((a, c) :: M) = some c := by rw [List.lookup_cons, beq_self_eq_true]
theorem lk_ne {a b : Addr} {c : Cell} {M : Mem} (h : (b == a) = false) : List.lookup b ((a, c) :: M) = List.lookup b M := by rw [List.lookup_cons, h]
theorem at0 {α : Type} {x : α} {xs : List α} : atI (x :: xs) 0 = some x := by simp [atI, ixN]
theorem at1 {α : Type} {x y : α} {xs : List α} : atI (x :: y :: xs) 1 = some y := by
  unfold atI
  rw [ixN_of (by omega) (by simp only [List.length_cons]; omega)]; rfl
theorem at2 {α : Type} {x y z : α} {xs : List α} : atI (x :: y :: z :: xs) 2 = some z := by
  unfold atI
  rw [ixN_of (by omega) (by simp only [List.length_cons]; omega)]; rfl
theorem at3 {α : Type} {x y z u : α} {xs : List α} : atI (x :: y :: z :: u :: xs) 3 = some u := by
  unfold atI
  rw [ixN_of (by omega) (by simp only [List.length_cons]; omega)]; rfl
theorem at4 {α : Type} {x y z u v : α} {xs : List α} : atI (x :: y :: z :: u :: v :: xs) 4 = some v := by
  unfold atI
  rw [ixN_of (by omega) (by simp only [List.length_cons]; omega)]; rfl
theorem ix0 {n : Nat} : ixN (n + 1) 0 = some 0 := ixN_of (by omega) (by omega)
theorem ix1 {n : Nat} : ixN (n + 2) 1 = some 1 := ixN_of (by omega) (by omega)
theorem ix2 {n : Nat} : ixN (n + 3) 2 = some 2 := ixN_of (by omega) (by omega)
theorem sx0 {n : Nat} : seqIndex? 0 (n + 1) = some 0 := by simp [seqIndex?]
theorem mput_self {a : Addr} {c c' : Cell} {M : Mem} (h : a ∉ dom M) : mput ((a, c) :: M) a c' = (a, c') :: M := by
  unfold mput
  rw [List.map_cons]
  congr 1
  · simp
  · conv => rhs; rw [← List.map_id M]
    apply List.map_congr_left
    intro x hx
    have : x.1 ≠ a := fun e => h (e ▸ List.mem_map.mpr ⟨x, hx, rfl⟩)
    simp [this]
theorem mput_ne {a b : Addr} {c c' : Cell} {M : Mem} (h : a ≠ b) : mput ((a, c) :: M) b c' = (a, c) :: mput M b c' := by
  unfold mput
  rw [List.map_cons]
  simp [h]
theorem mput_nil {a : Addr} {c' : Cell} : mput [] a c' = [] := rfl
end Gw
namespace Gw
theorem ends_d {Q : Ret → Mem → Prop} {d : D} {Γ : Sl} {M : Mem} : (endsOf Q).rt (.dat d) Γ M = Q (.dat d) M := rfl
theorem ends_t {Q : Ret → Mem → Prop} {c : Cell} {Γ : Sl} {M : Mem} : (endsOf Q).rt (.tmp c) Γ M = Q (.tmp c) M := rfl
theorem ends_n {Q : Ret → Mem → Prop} {Γ : Sl} {M : Mem} : (endsOf Q).nx Γ M = Q (.dat .non) M := rfl
theorem ends_v {Q : Ret → Mem → Prop} {i : Nat} {c : Cell} {Γ : Sl} {M : Mem} (h : Γ[i]? = some (.own c)) : (endsOf Q).rt (.var i) Γ M = Q (.tmp c) M := by simp [endsOf, ret, h]
end Gw
namespace Gw
open PySem L2
theorem eqD_l00 : eqD (.lst []) (.lst []) = true := by simp [eqD, toPy, toPyL, PyData.eqv, PyData.eqvAll]
theorem eqD_l10 {d : D} {ds : List D} : eqD (.lst (d :: ds)) (.lst []) = false := by simp [eqD, toPy, toPyL, PyData.eqv, PyData.eqvAll]
theorem eqD_t00 : eqD (.tup []) (.tup []) = true := by simp [eqD, toPy, toPyL, PyData.eqv, PyData.eqvAll]
theorem eqD_t10 {d : D} {ds : List D} : eqD (.tup (d :: ds)) (.tup []) = false := by simp [eqD, toPy, toPyL, PyData.eqv, PyData.eqvAll]
theorem fmod_lo {a b : Int} (h : 0 < b) : 0 ≤ a.fmod b := Int.fmod_nonneg_of_pos a h
theorem fmod_hi {a b : Int} (h : 0 < b) : a.fmod b < b := Int.fmod_lt_of_pos a h
theorem log2_le {x k : Nat} (h : x < 2 ^ k) (hk : 0 < k) : x.log2 < k := by
  rcases Nat.eq_zero_or_pos x with z | z
  · rw [z]; simpa using hk
  · exact (Nat.log2_lt (by omega)).mpr h
theorem div_ok {i j : Int} (h0 : 0 < j) (h1 : j ≤ 4294967295) : CDivW i j := ⟨h0, by
  have := log2_le (x := j.natAbs) (k := 32) (by omega) (by decide)
  omega⟩
theorem mul_l {i j : Int} (h0 : -18446744073709551616 < i) (h1 : i < 18446744073709551616) : CM i j := .inl (.inl ⟨by omega, by omega⟩)
theorem mul_r {i j : Int} (h0 : -18446744073709551616 < j) (h1 : j < 18446744073709551616) : CM i j := .inl (.inr ⟨by omega, by omega⟩)
end Gw
namespace Gw
open PySem L2
def cutI (xs : List Int) (lo hi : Option Int) : List Int := (xs.drop (HT.sIx xs.length 0 lo)).take (HT.sIx xs.length xs.length hi - HT.sIx xs.length 0 lo)
theorem cutD_ints (xs : List Int) (lo hi : Option Int) : cutD (xs.map .int) lo hi = (cutI xs lo hi).map .int := by
  unfold cutD cutI
  rw [List.length_map, List.map_take, List.map_drop]
theorem cutI_len (xs : List Int) (lo hi : Option Int) : (cutI xs lo hi).length ≤ xs.length := by
  unfold cutI
  rw [List.length_take, List.length_drop]
  omega
theorem map_eq_cons {α : Type} {f : α → D} {xs : List α} {d : D} {ds : List D} (h : d :: ds = xs.map f) : ∃ x r, xs = x :: r ∧ d = f x ∧ ds = r.map f := by
  cases xs with
  | nil => cases h
  | cons x r => cases h; exact ⟨x, r, rfl, rfl, rfl⟩
theorem map_eq_nil {α : Type} {f : α → D} {xs : List α} (h : [] = xs.map f) : xs = [] := by cases xs with | nil => rfl | cons _ _ => cases h
end Gw

namespace Gw
open PySem L2
section
variable {X : Cx} {a b c : Expr} {ta tb tc te : TE} {aa ab ac ae : AE} {pos : Pos} {K : PySem.W.Frag} {i : Nat} {x : Str} {pos' : Pos} {B : Ent} {σ : St} {H G H1 G1 H2 G2 : Hp} {Γ Γ1 Γ2 : Sl} {M M1 M2 : Mem}
/-! a, b, c = e1, e2, e3 -/
def aPar3 (aa : AA) (i j l : Nat) (A : AEnds) (Γ : Sl) (M : Mem) : Prop := aa Γ M fun ds Γ1 M1 => match ds with
  | [d, e, f] => A.nx (((Γ1.set i (.dat d)).set j (.dat e)).set l (.dat f)) M1
  | _ => False
theorem qs_par3 {y z : Str} {tr : TA} {ar : AA} {px py pz pt spos : Pos} {kt k2 pt2} (i j l : Nat) (hN : X.N.Nodup) (ha : QA X [a, b, c] tr ar) (hi : X.N[i]? = some x := by rfl) (hj : X.N[j]? = some y := by rfl) (hl : X.N[l]? = some z := by rfl) (hij : i ≠ j := by decide) (hil : i ≠ l := by decide) (hjl : j ≠ l := by decide)
    (hx : X.env.scope.names.lookup x = some .local := by rfl) (hy : X.env.scope.names.lookup y = some .local := by rfl) (hz : X.env.scope.names.lookup z = some .local := by rfl) (hw : swappedStores [.Tuple [.Name x px, .Name y py, .Name z pz] kt pt] (.Tuple [a, b, c] k2 pt2) X.env = pure (some [x, y, z]) := by rfl)
    (hs : swapsWithSole [.Tuple [.Name x px, .Name y py, .Name z pz] kt pt] (.Tuple [a, b, c] k2 pt2) spos.line X.env = pure false := by rfl) (hc : X.calm = true := by rfl) :
    QS X (.Assign [.Tuple [.Name x px, .Name y py, .Name z pz] kt pt] (.Tuple [a, b, c] k2 pt2) spos) (tPar3 i j l tr) (aPar3 ar i j l) :=
  ⟨ps_par3 hc hN hi hj hl hij hil hjl hx hy hz ha.pe hw hs, fun B σ H G Γ M A E k h s => ha.rd B σ H G Γ M _ _ k h fun vs H1 G1 Γ1 M1 ds k1 e1 rl h1 => by
    split at h1
    · rename_i d e f
      obtain ⟨v, r, rfl, rv, rn⟩ := repL_cons.mp rl
      obtain ⟨u, r', rfl, ru, rn'⟩ := repL_cons.mp rn
      obtain ⟨t, r'', rfl, rt, rn''⟩ := repL_cons.mp rn'
      have := repL_nil.mp rn''; subst this
      exact ⟨v, u, t, rfl, s.nx _ H1 G1 _ M1 (((k1.setD rv).setD ru).setD rt) h1⟩
    · exact h1.elim⟩
/-! x *= e -/
def aAugC (i : Nat) (C : Int → Int → Prop) (f : Int → Int → Int) (aa : AE) (A : AEnds) (Γ : Sl) (M : Mem) : Prop := match Γ[i]? with
  | some (.dat (.int n)) => aa Γ M fun r Γ1 M1 => match r with
    | .dat (.int m) => C n m ∧ A.nx (Γ1.set i (.dat (.int (f n m)))) M1
    | _ => False
  | _ => False
theorem rd_augC {i : Nat} {C : Int → Int → Prop} {f : Int → Int → Int} (ha : RdE K ta aa) : RdS K (tAug i ta (rI C fun i j => .int (f i j))) (aAugC i C f aa) := fun B σ H G Γ M A E k h s => by
  unfold aAugC at h
  split at h
  · rename_i n e1
    obtain ⟨v, h1, h2⟩ := k.dat i _ e1
    have ev : v = .int n := by rw [Rep] at h2; exact h2
    refine ⟨v, h1, ha B σ H G Γ M _ _ k h fun u H1 G1 Γ1 M1 r k1 e2 rr hq => ?_⟩
    split at hq
    · rename_i m
      have eu : u = .int m := by have := rr; simp only [RepR, Rep] at this; exact this
      exact ⟨n, m, ev, eu, hq.1, s.nx _ H1 G1 _ M1 (k1.setD (by rw [Rep])) hq.2⟩
    · exact hq.elim
  · exact h.elim
theorem qs_augM (i : Nat) (hN : X.N.Nodup) (h : QE X a ta aa) (hi : X.N[i]? = some x := by rfl) (hx : Loc X.env.scope x := by first | exact Or.inl rfl | exact Or.inr rfl) (hf : X.fn x = true ∨ X.env.scope.names.lookup x = some .local := by first | exact .inl rfl | exact .inr rfl | assumption) :
    QS X (.AugAssign (.Name x pos') .Mult a pos) (tAug i ta (rI CMul fun i j => .int (i * j))) (aAugC i CMul (fun i j => i * j) aa) := ⟨ps_aug hN hi hx h.pe iop_mul hf, rd_augC h.rd⟩
/-! great powers -/
def CPowW (i j : Int) : Prop := 0 ≤ j ∧ (Builtin.Int.intBits i : Int) * j ≤ 2 ^ 27
theorem op_powW : OpR X (binaryOp .Pow) (rI CPowW fun i j => .int (i ^ j.toNat)) := opI fun _ _ _ _ _ _ _ hc q => PyProof.Rows.pow_int hc.1 hc.2 q
theorem q_powW (ha : QE X a ta aa) (hb : QE X b tb ab) : QE X (.BinOp a .Pow b pos) (tOp (rI CPowW fun i j => .int (i ^ j.toNat)) ta tb) (aOp (aIC CPowW fun i j => .int (i ^ j.toNat)) aa ab) := q_op op_powW (rd_IC fun _ _ _ => by rw [Rep]) ha hb
/-! a constant of the module -/
structure Glob (K : PySem.W.Frag) (mg : Str → Option Value) (x : Str) (d : D) : Prop where
  ex : ∃ v u, mg x = some u ∧ RelV v u ∧ ∀ G, Rep K G d v
def tAny (K : PySem.W.Frag) (d : D) : TE := fun _ H Q => ∀ v, (∀ G, Rep K G d v) → Q v H
theorem q_glob {mg : Str → Option Value} {d : D} (h : Glob K mg x d) (hg : Gl X x := by rfl) (hmg : X.mg = mg := by rfl) (hK : X.K = K := by rfl) (hd : (x == ("__debug__" : Str)) = false := by decide) : QE X (.Name x pos) (tAny K d) (aC d) := by
  subst hK; subst hmg
  obtain ⟨v, u, hm, r, hr⟩ := h.ex
  refine ⟨⟨fun pins s σ H Q I q => (pe_glob hg hm r hd).run pins s σ H Q I (q v hr)⟩, fun B σ H G Γ M Q R k h' q => fun v hv => q v H G Γ M (.dat d) k .refl (hv G) h'⟩
theorem glob_int {mg : Str → Option Value} {n : Int} {t : Tok} (h : mg x = some (.int n t)) : Glob K mg x (.int n) := ⟨.int n, _, h, ⟨t, rfl⟩, fun _ => by rw [Rep]⟩
theorem glob_tup {mg : Str → Option Value} {p : Addr} {ds : List D} {o : Obj} {its : Array Value} {n : Nat} {xs : List V} (h : mg x = some (.ref p)) (hl : K.lookup p = some o) (hc : o.cls = .type "tuple") (hd : o.data = .seq its n) (hz : its.size ≤ sizeLine) (hv : Vals xs its.toList) (hr : ∀ G, RepL K G ds xs) :
    Glob K mg x (.tup ds) := ⟨.ref p, _, h, rfl, fun G => rep_tup.mpr ⟨p, xs, rfl, .inr ⟨o, its, n, hl, hc, hd, hz, hv⟩, hr G⟩⟩
/-! calls with keywords in any order, behind places or not -/
def permL {α : Type} (π : List Nat) (xs : List α) : List α := π.filterMap (xs[·]?)
theorem RepL.perm {ds : List D} {vs : List V} (π : List Nat) (h : RepL K G ds vs) : RepL K G (permL π ds) (permL π vs) := by
  induction π with
  | nil => exact repL_nil.mpr rfl
  | cons n π ih =>
    unfold permL at *
    cases e : ds[n]? with
    | none =>
      have e2 : vs[n]? = none := by rw [List.getElem?_eq_none_iff] at *; rw [h.length]; exact e
      rw [List.filterMap_cons, List.filterMap_cons, e, e2]; exact ih
    | some d =>
      obtain ⟨v, e2, r⟩ := h.get e
      rw [List.filterMap_cons, List.filterMap_cons, e, e2]; exact repL_cons.mpr ⟨v, _, rfl, r, ih⟩
theorem vals_perm {vs : List V} {us : List Value} (π : List Nat) (h : Vals vs us) : Vals (permL π vs) (permL π us) := by
  induction π with
  | nil => exact .nil
  | cons n π ih =>
    unfold permL at *
    cases e : vs[n]? with
    | none =>
      have e2 : us[n]? = none := by rw [List.getElem?_eq_none_iff] at *; rw [← h.length]; exact e
      rw [List.filterMap_cons, List.filterMap_cons, e, e2]; exact ih
    | some d =>
      obtain ⟨v, e2, r⟩ := h.get e
      rw [List.filterMap_cons, List.filterMap_cons, e, e2]; exact .cons r ih
structure PCal (P : Program) (w : World) (K : PySem.W.Frag) (mg : Str → Option Value) (base : Heap) (x : Str) (ps : List Str) (m : Nat) (ks : List Str) (π : List Nat) (k : Nat) (S : ASp) : Prop where
  ex : ∃ f fd, FnG P w K mg base CX0 k f fd ps (spA K ps.length S) ∧ mg x = some (.ref f) ∧ PySem.W.keepIn K (.ref f) = true ∧
    (∀ (s : Shared) (us ws : List Value), K.In s.heap → us.length = m → ws.length = ks.length → BindsTo s fd ⟨us, ks.zip ws⟩ (ps.zip (permL π (us ++ ws)))) ∧ Ar ps.length S
def tCallP (sp : Sp) (m n : Nat) (π : List Nat) (t tk : TA) : TE := fun σ H Q => t σ H fun vs H1 => tk σ H1 fun zs H2 => vs.length = m ∧ zs.length = n ∧ sp (permL π (vs ++ zs)) H2 Q E0
def aCallP (S : ASp) (m n : Nat) (π : List Nat) (aa ak : AA) (Γ : Sl) (M : Mem) (Q : Ret → Sl → Mem → Prop) : Prop := aa Γ M fun ds Γ1 M1 => ak Γ1 M1 fun es Γ2 M2 => ds.length = m ∧ es.length = n ∧ ap S (permL π (ds ++ es)) M2 (fun r M3 => Q r Γ2 M3) ⟨⟩
theorem rd_callP {n m n' : Nat} {π : List Nat} {S : ASp} {tr tk : TA} {ar ak : AA} (hn : Ar n S) (ha : RdA K tr ar) (hk : RdA K tk ak) : RdE K (tCallP (spA K n S) m n' π tr tk) (aCallP S m n' π ar ak) := by
  intro B σ H G Γ M Q R k h q
  refine ha B σ H G Γ M _ _ k h fun vs H1 G1 Γ1 M1 ds k1 e1 rl h1 => ?_
  refine hk B σ H1 G1 Γ1 M1 _ _ k1 h1 fun zs H2 G2 Γ2 M2 es k2 e2 rz h2 => ?_
  obtain ⟨l1, l2, h2⟩ := h2
  have rp := ((rl.mono e2.g).append rz).perm π
  refine ⟨by rw [rl.length]; exact l1, by rw [rz.length]; exact l2, G2, M2, _, by rw [rp.length]; exact hn _ _ _ h2, k2.ex, k2.nd, k2.ms, rp, _, h2, fun r M' v H' G' hq p rr => ?_⟩
  obtain ⟨k3, e3, r3⟩ := k2.call p rr
  exact q _ H' G' Γ2 M' r k3 ((e1.trans e2).trans e3) (r3.old (fun x z => e1.nn x (e2.nn x z))) hq
section
variable {P : Program} {w : World} {mg : Str → Option Value} {base : Heap} {k n m : Nat} {ps ks : List Str} {π : List Nat} {S : ASp} {p : Pos} {es : List Expr} {tr tk : TA} {ar ak : AA} {kws : List Keyword}
theorem q_callP0 (C : PCal P w K mg base x ps 0 ks π k S) (room : Room k X.A) (gd : X.A.guards = some []) (hkw : QK X kws tk ak) (hX : At X P w K mg base := by exact ⟨rfl, rfl, rfl, rfl, rfl⟩) (hg : Gl X x := by rfl)
    (hall : (backToKw pos (keywordEach kws X.env)).all (·.1.isSome) = true := by rfl) (hks : (backToKw pos (keywordEach kws X.env)).filterMap (·.1) = ks := by rfl)
    (hdb : (x == ("__debug__" : Str)) = false := by decide) (hpl : ((backTo pos (starEach [] X.env)).any (·.1) || (backToKw pos (keywordEach kws X.env)).any (·.1.isNone)) = false := by rfl) :
    QE X (.Call (.Name x p) [] kws pos) (tCallP (spA K ps.length S) 0 ks.length π tNil tk) (aCallP S 0 ks.length π aNil ak) := by
  obtain ⟨f, fd, F, hm, hk, hb, hn⟩ := C.ex
  obtain ⟨h1, h2, h3, h4, h5⟩ := hX
  subst h1 h2 h3 h4 h5
  refine ⟨⟨fun pins s σ H Q I h => wpAny_Call_Name_kw (ld_glob I hg hm ?_ hdb)⟩, rd_callP hn rd_nil hkw.rd⟩
  refine PySem.W.callWith_KW0 (h₀ := X.base) I.ok.mod.kin hk hall (thn (hkw.pe.run pos pins s σ H _ I h) ?_) hpl
  rintro ws s2 ⟨zs, H2, I2, rz, l1, l2, q⟩
  rw [hks]
  exact ⟨I2.kIn, callG F room gd pass0 I2 (hb s2 [] ws I2.kIn rfl (by rw [← rz.length]; exact l2)) (vals_perm π (.append .nil rz)) q⟩
theorem q_callP (C : PCal P w K mg base x ps m ks π k S) (room : Room k X.A) (gd : X.A.guards = some []) (ha : QA X (a :: es) tr ar) (hkw : QK X kws tk ak) (hX : At X P w K mg base := by exact ⟨rfl, rfl, rfl, rfl, rfl⟩) (hg : Gl X x := by rfl)
    (hall : (backToKw pos (keywordEach kws X.env)).all (·.1.isSome) = true := by rfl) (hks : (backToKw pos (keywordEach kws X.env)).filterMap (·.1) = ks := by rfl) (he : starEach (a :: es) X.env = (false, eval a X.env) :: starEach es X.env := by rfl)
    (hdb : (x == ("__debug__" : Str)) = false := by decide) (hpl : ((backTo pos (starEach (a :: es) X.env)).any (·.1) || (backToKw pos (keywordEach kws X.env)).any (·.1.isNone)) = false := by rfl) :
    QE X (.Call (.Name x p) (a :: es) kws pos) (tCallP (spA K ps.length S) m ks.length π tr tk) (aCallP S m ks.length π ar ak) := by
  obtain ⟨f, fd, F, hm, hk, hb, hn⟩ := C.ex
  obtain ⟨h1, h2, h3, h4, h5⟩ := hX
  subst h1 h2 h3 h4 h5
  refine ⟨⟨fun pins s σ H Q I h => wpAny_Call_Name_kw (ld_glob I hg hm ?_ hdb)⟩, rd_callP hn ha.rd hkw.rd⟩
  refine PySem.W.callWith_KW (h₀ := X.base) I.ok.mod.kin hk hall (thn (ha.pe.run pos pins s σ H _ I h) ?_) hpl he
  rintro us s1 ⟨vs, H1, I1, r1, q1⟩
  refine thn (hkw.pe.run pos pins s1 σ H1 _ I1 q1) ?_
  rintro ws s2 ⟨zs, H2, I2, rz, l1, l2, q⟩
  rw [hks]
  exact ⟨I2.kIn, callG F room gd pass0 I2 (hb s2 us ws I2.kIn (by rw [← r1.length]; exact l1) (by rw [← rz.length]; exact l2)) (vals_perm π (r1.append rz)) q⟩
end
end
end Gw

namespace Gw
open PySem L2
/-! ### how long a shown thing is at most -/
mutual
def wid : D → Nat
  | .non => 4
  | .bl _ => 5
  | .int i => i.natAbs.log2 + 2
  | .str x => (reprText x).length
  | .tup ds => widL ds + 3
  | .lst ds => widL ds + 3
  | .scr ds => widL ds + 3
  | .ref _ => 4
def widL : List D → Nat
  | [] => 0
  | d :: ds => wid d + 2 + widL ds
end
mutual
theorem shown_wid : ∀ d : D, (toPy d).shown.length ≤ wid d
  | .non => by rw [toPy, PyData.shown, wid]; decide
  | .bl b => by rw [toPy, PyData.shown, wid]; cases b <;> decide
  | .int i => by
    rw [toPy, PyData.shown, wid]
    have h := int_text_length_le (a := i) (k := i.natAbs.log2 + 1) (by omega) (by omega)
    have e : (Str.ofString (toString i)).length = (toString i).length := by
      rw [Str.ofString_eq_toList]
      show ((toString i).toList.map Char.toNat).toArray.size = _
      rw [List.size_toArray, List.length_map]; exact String.length_toList
    rw [e]; exact h
  | .str x => by rw [toPy, PyData.shown, wid]; exact Nat.le_refl _
  | .ref _ => by rw [toPy, PyData.shown, wid]; decide
  | .tup ds => by
    rw [toPy, PyData.shown, wid]
    have := tupleText_len_le (PyData.shownAll (toPyL ds))
    have := shownL_wid ds
    omega
  | .lst ds => by
    rw [toPy, PyData.shown, wid]
    have := listText_len_le (PyData.shownAll (toPyL ds))
    have := shownL_wid ds
    omega
  | .scr ds => by
    rw [toPy, PyData.shown, wid]
    have := listText_len_le (PyData.shownAll (toPyL ds))
    have := shownL_wid ds
    omega
theorem shownL_wid : ∀ ds : List D, ((PyData.shownAll (toPyL ds)).map (·.length)).sum + 2 * (PyData.shownAll (toPyL ds)).length ≤ widL ds
  | [] => by rw [toPyL, PyData.shownAll, widL]; decide
  | d :: ds => by
    rw [toPyL, PyData.shownAll, widL, List.map_cons, List.sum_cons, List.length_cons]
    have := shown_wid d
    have := shownL_wid ds
    omega
end
/-! ints that are not too great -/
mutual
def fine : D → Bool
  | .int i => decide (i.natAbs.log2 < 1920)
  | .tup ds => fineL ds
  | .lst ds => fineL ds
  | .scr ds => fineL ds
  | .ref _ => false
  | .non => true
  | .bl _ => true
  | .str _ => true
def fineL : List D → Bool
  | [] => true
  | d :: ds => fine d && fineL ds
end
mutual
theorem fine_plain : ∀ {d : D}, fine d = true → plain d = true ∧ (toPy d).showable = true
  | .int i, h => by rw [fine] at h; rw [plain, toPy, PyData.showable]; exact ⟨rfl, h⟩
  | .tup ds, h => by rw [fine] at h; rw [plain, toPy, PyData.showable]; exact fineL_plain h
  | .lst ds, h => by rw [fine] at h; rw [plain, toPy, PyData.showable]; exact fineL_plain h
  | .scr ds, h => by rw [fine] at h; rw [plain, toPy, PyData.showable]; exact fineL_plain h
  | .ref _, h => by rw [fine] at h; cases h
  | .non, _ => by rw [plain, toPy, PyData.showable]; exact ⟨rfl, rfl⟩
  | .bl _, _ => by rw [plain, toPy, PyData.showable]; exact ⟨rfl, rfl⟩
  | .str _, _ => by rw [plain, toPy, PyData.showable]; exact ⟨rfl, rfl⟩
theorem fineL_plain : ∀ {ds : List D}, fineL ds = true → plainL ds = true ∧ PyData.showableAll (toPyL ds) = true
  | [], _ => by rw [plainL, toPyL, PyData.showableAll]; exact ⟨rfl, rfl⟩
  | d :: ds, h => by
    rw [fineL, Bool.and_eq_true] at h
    obtain ⟨a1, a2⟩ := fine_plain h.1
    obtain ⟨b1, b2⟩ := fineL_plain h.2
    rw [plainL, toPyL, PyData.showableAll, a1, a2, b1, b2]; exact ⟨rfl, rfl⟩
end
mutual
def dep : D → Nat
  | .tup ds => depL ds + 1
  | .lst ds => depL ds + 1
  | .scr ds => depL ds + 1
  | .int _ => 0
  | .ref _ => 0
  | .non => 0
  | .bl _ => 0
  | .str _ => 0
def depL : List D → Nat
  | [] => 0
  | d :: ds => max (dep d) (depL ds)
end
mutual
theorem dep_py : ∀ d : D, (toPy d).depth = dep d
  | .tup ds => by rw [toPy, PyData.depth, dep, depL_py]
  | .lst ds => by rw [toPy, PyData.depth, dep, depL_py]
  | .scr ds => by rw [toPy, PyData.depth, dep, depL_py]
  | .int _ => by rw [toPy, PyData.depth, dep]
  | .ref _ => by rw [toPy, PyData.depth, dep]
  | .non => by rw [toPy, PyData.depth, dep]
  | .bl _ => by rw [toPy, PyData.depth, dep]
  | .str _ => by rw [toPy, PyData.depth, dep]
theorem depL_py : ∀ ds : List D, PyData.depthAll (toPyL ds) = depL ds
  | [] => by rw [toPyL, PyData.depthAll, depL]
  | d :: ds => by rw [toPyL, PyData.depthAll, depL, dep_py, depL_py]
end
theorem sh_of {d : D} (h1 : fine d = true) (h2 : dep d ≤ 64) (h3 : wid d ≤ 16777216) : shOk d = true := by
  obtain ⟨a, b⟩ := fine_plain h1
  have := shown_wid d
  simp only [shOk, a, b, dep_py, Bool.true_and, Bool.and_eq_true, decide_eq_true_eq, size_val]
  omega
/-! ### comparing data: texts in it are texts -/
mutual
def safe : D → Bool
  | .str x => PyData.strOk x
  | .tup ds => safeL ds
  | .lst ds => safeL ds
  | .scr ds => safeL ds
  | .ref _ => false
  | .int _ => true
  | .non => true
  | .bl _ => true
def safeL : List D → Bool
  | [] => true
  | d :: ds => safe d && safeL ds
end
mutual
theorem safe_lay : ∀ {d : D}, safe d = true → plain d = true ∧ (toPy d).canLay0 = true
  | .int i, _ => by rw [plain, toPy, PyData.canLay0]; exact ⟨rfl, rfl⟩
  | .str x, h => by rw [safe] at h; rw [plain, toPy, PyData.canLay0]; exact ⟨rfl, h⟩
  | .tup ds, h => by rw [safe] at h; rw [plain, toPy, PyData.canLay0]; exact safeL_lay h
  | .lst ds, h => by rw [safe] at h; rw [plain, toPy, PyData.canLay0]; exact safeL_lay h
  | .scr ds, h => by rw [safe] at h; rw [plain, toPy, PyData.canLay0]; exact safeL_lay h
  | .ref _, h => by rw [safe] at h; cases h
  | .non, _ => by rw [plain, toPy, PyData.canLay0]; exact ⟨rfl, rfl⟩
  | .bl _, _ => by rw [plain, toPy, PyData.canLay0]; exact ⟨rfl, rfl⟩
theorem safeL_lay : ∀ {ds : List D}, safeL ds = true → plainL ds = true ∧ PyData.canLayAll0 (toPyL ds) = true
  | [], _ => by rw [plainL, toPyL, PyData.canLayAll0]; exact ⟨rfl, rfl⟩
  | d :: ds, h => by
    rw [safeL, Bool.and_eq_true] at h
    obtain ⟨a1, a2⟩ := safe_lay h.1
    obtain ⟨b1, b2⟩ := safeL_lay h.2
    rw [plainL, toPyL, PyData.canLayAll0, a1, a2, b1, b2]; exact ⟨rfl, rfl⟩
end
theorem cmp_of {d : D} (h1 : safe d = true) (h2 : dep d ≤ 64) : cmpOk d = true := by
  obtain ⟨a, b⟩ := safe_lay h1
  simp only [cmpOk, SeqAt.shaped, a, b, dep_py, Bool.true_and, decide_eq_true_eq]
  exact h2
mutual
theorem eqD_refl : ∀ {d : D}, plain d = true → eqD d d = true
  | .non, _ => by simp [eqD, toPy, PyData.eqv]
  | .bl b, _ => by simp [eqD, toPy, PyData.eqv]
  | .int i, _ => by simp [eqD, toPy, PyData.eqv]
  | .str x, _ => by simp [eqD, toPy, PyData.eqv]
  | .ref _, h => by rw [plain] at h; cases h
  | .tup ds, h => by rw [plain] at h; unfold eqD; rw [toPy, PyData.eqv]; exact eqDL_refl h
  | .lst ds, h => by rw [plain] at h; unfold eqD; rw [toPy, PyData.eqv]; exact eqDL_refl h
  | .scr ds, h => by rw [plain] at h; unfold eqD; rw [toPy, PyData.eqv]; exact eqDL_refl h
theorem eqDL_refl : ∀ {ds : List D}, plainL ds = true → PyData.eqvAll (toPyL ds) (toPyL ds) = true
  | [], _ => by rw [toPyL, PyData.eqvAll]
  | d :: ds, h => by
    rw [plainL, Bool.and_eq_true] at h
    have a := eqD_refl h.1
    unfold eqD at a
    rw [toPyL, PyData.eqvAll, a, eqDL_refl h.2]; rfl
end
/-! shown things are texts -/
theorem ok_app {x y : Str} (h1 : PyData.strOk x = true) (h2 : PyData.strOk y = true) : PyData.strOk (x ++ y) = true := by
  unfold PyData.strOk at *
  show (x.cps ++ y.cps).all _ = true
  rw [Array.all_append, h1, h2]; rfl
theorem ok_str (s : String) : PyData.strOk (Str.ofString s) = true := by
  unfold PyData.strOk
  rw [Str.ofString_eq_toList, List.all_toArray, List.all_eq_true]
  intro c hc
  obtain ⟨ch, _, rfl⟩ := List.mem_map.mp hc
  have h := ch.valid
  simp only [decide_eq_true_eq]
  show ch.val.toNat < 1114112
  rcases h with h | h
  · have : ch.val.toNat < 0xd800 := h
    omega
  · exact h.2
theorem ok_join {sep : Str} (hs : PyData.strOk sep = true) : ∀ ts : List Str, (∀ t ∈ ts, PyData.strOk t = true) → PyData.strOk (Str.join sep ts) = true
  | [], _ => by simp [Str.join, Str.empty, PyData.strOk]
  | [t], h => h t List.mem_cons_self
  | t :: u :: r, h => by
    show PyData.strOk (t ++ sep ++ Str.join sep (u :: r)) = true
    exact ok_app (ok_app (h t List.mem_cons_self) hs) (ok_join hs (u :: r) fun x hx => h x (List.mem_cons_of_mem _ hx))
theorem ok_from : ∀ (ts : List Str) (k : Nat) (acc : Str), PyData.strOk acc = true → (∀ t ∈ ts, PyData.strOk t = true) → PyData.strOk (textFrom k acc ts) = true
  | [], _, _, h, _ => h
  | t :: r, k, acc, h, hr => by
    show PyData.strOk (textFrom (k + 1) (acc ++ (if k > 0 then ", " else "" : String) ++ t) r) = true
    exact ok_from r (k + 1) _ (ok_app (ok_app h (ok_str _)) (hr t List.mem_cons_self)) fun x hx => hr x (List.mem_cons_of_mem _ hx)
mutual
def safeS : D → Bool
  | .str x => PyData.strOk (reprText x)
  | .tup ds => safeSL ds
  | .lst ds => safeSL ds
  | .scr ds => safeSL ds
  | .ref _ => true
  | .int _ => true
  | .non => true
  | .bl _ => true
def safeSL : List D → Bool
  | [] => true
  | d :: ds => safeS d && safeSL ds
end
mutual
theorem ok_shown : ∀ {d : D}, safeS d = true → PyData.strOk (toPy d).shown = true
  | .non, _ => by rw [toPy, PyData.shown]; exact ok_str _
  | .ref _, _ => by rw [toPy, PyData.shown]; exact ok_str _
  | .bl b, _ => by rw [toPy, PyData.shown]; cases b <;> exact ok_str _
  | .int i, _ => by rw [toPy, PyData.shown]; exact ok_str _
  | .str x, h => by rw [safeS] at h; rw [toPy, PyData.shown]; exact h
  | .tup ds, h => by
    rw [safeS] at h; rw [toPy, PyData.shown]
    exact ok_app (ok_app (ok_str _) (ok_join (ok_str _) _ (okL_shown h))) (ok_str _)
  | .lst ds, h => by
    rw [safeS] at h; rw [toPy, PyData.shown]
    exact ok_app (ok_from _ _ _ (ok_str _) (okL_shown h)) (ok_str _)
  | .scr ds, h => by
    rw [safeS] at h; rw [toPy, PyData.shown]
    exact ok_app (ok_from _ _ _ (ok_str _) (okL_shown h)) (ok_str _)
theorem okL_shown : ∀ {ds : List D}, safeSL ds = true → ∀ t ∈ PyData.shownAll (toPyL ds), PyData.strOk t = true
  | [], _, t, h => by rw [toPyL, PyData.shownAll] at h; cases h
  | d :: ds, hs, t, h => by
    rw [safeSL, Bool.and_eq_true] at hs
    rw [toPyL, PyData.shownAll] at h
    rcases List.mem_cons.mp h with e | e
    · rw [e]; exact ok_shown hs.1
    · exact okL_shown hs.2 t e
end
/-! ints in a row -/
theorem wid_ints {k : Nat} : ∀ {ns : List Int}, (∀ n ∈ ns, n.natAbs < 2 ^ k) → 0 < k → widL (ns.map .int) ≤ ns.length * (k + 4)
  | [], _, _ => by simp [widL]
  | n :: ns, h, hk => by
    rw [List.map_cons, widL, wid, List.length_cons]
    have a := log2_le (h n List.mem_cons_self) hk
    have b := wid_ints (fun x hx => h x (List.mem_cons_of_mem _ hx)) hk (ns := ns)
    rw [Nat.add_mul]; omega
theorem fine_ints {k : Nat} : ∀ {ns : List Int}, (∀ n ∈ ns, n.natAbs < 2 ^ k) → 0 < k → k ≤ 1920 → fineL (ns.map .int) = true
  | [], _, _, _ => by simp [fineL]
  | n :: ns, h, hk, hk2 => by
    rw [List.map_cons, fineL, fine]
    have a := log2_le (h n List.mem_cons_self) hk
    rw [fine_ints (fun x hx => h x (List.mem_cons_of_mem _ hx)) hk hk2, Bool.and_true, decide_eq_true_eq]; omega
theorem dep_ints : ∀ ns : List Int, depL (ns.map .int) = 0
  | [] => by simp [depL]
  | n :: ns => by rw [List.map_cons, depL, dep, dep_ints ns]; rfl
theorem safeS_ints : ∀ ns : List Int, safeSL (ns.map .int) = true
  | [] => by simp [safeSL]
  | n :: ns => by rw [List.map_cons, safeSL, safeS, safeS_ints ns]; rfl
theorem sh_ints_t {k : Nat} {ns : List Int} (h : ∀ n ∈ ns, n.natAbs < 2 ^ k) (hk : 0 < k) (hk2 : k ≤ 1920) (hl : ns.length ≤ 4000) : shOk (.tup (ns.map .int)) = true := by
  refine sh_of (by rw [fine]; exact fine_ints h hk hk2) (by rw [dep, dep_ints]; decide) ?_
  rw [wid]
  have a := wid_ints h hk
  have b : ns.length * (k + 4) ≤ 4000 * 1924 := Nat.mul_le_mul hl (by omega)
  omega
end Gw

namespace Gw
open PySem L2 RZ RT
section
variable {X : Cx} {tg a b c : Expr} {ta tb tc te : TE} {aa ab ac ae : AE} {pos : Pos} {K : PySem.W.Frag} {i : Nat} {x : Str} {pos' : Pos} {B : Ent} {σ : St} {H G H1 G1 H2 G2 : Hp} {Γ Γ1 Γ2 : Sl} {M M1 M2 : Mem}
/-! ### zip, reversed, enumerate -/
def zipD (xs ys : List D) : List D := List.zipWith (fun x y => D.tup [x, y]) xs ys
def aIzip (ar : AA) (Γ : Sl) (M : Mem) (Q : List D → Sl → Mem → Prop) : Prop := ar Γ M fun ds Γ1 M1 => match ds with
  | [.tup xs, .tup ys] => Q (zipD xs ys) Γ1 M1
  | [.lst xs, .lst ys] => Q (zipD xs ys) Γ1 M1
  | _ => False
theorem zipD_get {xs ys : List D} {i : Nat} {d : D} (h : (zipD xs ys)[i]? = some d) : ∃ x y, xs[i]? = some x ∧ ys[i]? = some y ∧ d = .tup [x, y] := by
  unfold zipD at h
  rw [List.getElem?_zipWith] at h
  cases e1 : xs[i]? with
  | none => rw [e1] at h; simp at h
  | some x =>
    cases e2 : ys[i]? with
    | none => rw [e1, e2] at h; simp at h
    | some y => rw [e1, e2] at h; simp at h; exact ⟨x, y, rfl, rfl, h.symm⟩
theorem walk_zipT {a b : Addr} {xs ys : List V} {n : Nat} (hn : n = min xs.length ys.length) : Walk (ItzT K a b) n (fun H => SqT K H a xs ∧ SqT K H b ys) (YPair (fun i => xs[i]?) (fun i => ys[i]?)) := by
  subst hn
  refine ⟨fun i _ hi q => ?_, fun _ q => ⟨xs, ys, q.1, q.2, by omega⟩, fun i H v H' _ q y => ?_⟩
  · have l1 : i < xs.length := by omega
    have l2 : i < ys.length := by omega
    exact ⟨xs, ys, xs[i], ys[i], q.1, q.2, by simp [l1], by simp [l2]⟩
  · obtain ⟨T, u, z, e1, e2, e3, e4, e5⟩ := y
    exact ⟨T, u, z, e1, e2, e3, e4 xs q.1, e5 ys q.2⟩
theorem yld_pair {xs ys : List D} {us ws : List V} {i : Nat} {H' : Hp} {v : V} {d : D} (r1 : RepL K G xs us) (r2 : RepL K G ys ws) (hd : (zipD xs ys)[i]? = some d) (y : YPair (fun i => us[i]?) (fun i => ws[i]?) i H v H') : Yld K G H H' d v := by
  obtain ⟨d1, d2, e1, e2, rfl⟩ := zipD_get hd
  obtain ⟨T, u, z, ev, hT, eH, f1, f2⟩ := y
  obtain ⟨u', g1, q1⟩ := r1.get e1
  obtain ⟨z', g2, q2⟩ := r2.get e2
  have f1 : us[i]? = some u := f1
  have f2 : ws[i]? = some z := f2
  have eu : u' = u := by rw [g1] at f1; exact Option.some.inj f1
  have ez : z' = z := by rw [g2] at f2; exact Option.some.inj f2
  subst eu; subst ez
  exact .inr ⟨T, [u', z'], [d1, d2], ev, hT, eH, rfl, repL_cons.mpr ⟨_, _, rfl, q1, RepL.one q2⟩⟩
theorem qi_zip {tpos p : Pos} {elts : List Expr} {kk : Nat} {tr : TA} {ar : AA} (hm : X.mg "zip" = none) (ha : QA X [a, b] tr ar) (hg : Gl X "zip" := by rfl) (hs : starEach [a, b] X.env = (false, eval a X.env) :: starEach [b] X.env := by rfl) (hpl : (backTo pos (starEach [b] X.env)).any (·.1) = false := by rfl) (hK : X.K = K := by rfl) :
    QI X (.Tuple elts kk tpos) (.Call (.Name "zip" p) [a, b] [] pos) (iZipA K tr) (aIzip ar) := by
  subst hK
  refine ⟨pi_zipA hg hm ha.pe hs hpl, fun B σ H G Γ M Q R k hh q => ha.rd B σ H G Γ M _ _ k hh fun vs H1 G1 Γ1 M1 ds k1 e1 rl h1 => ?_⟩
  split at h1
  · rename_i xs ys
    obtain ⟨v, r, rfl, rv, rn⟩ := repL_cons.mp rl
    obtain ⟨u, r', rfl, ru, rn'⟩ := repL_cons.mp rn
    have := repL_nil.mp rn'; subst this
    obtain ⟨p1, us, rfl, s1, l1⟩ := rep_tup.mp rv
    obtain ⟨p2, ws, rfl, s2, l2⟩ := rep_tup.mp ru
    refine ⟨p1, p2, us, ws, rfl, .inr ⟨ex_t k1.ex s1, ex_t k1.ex s2, q _ H1 G1 Γ1 M1 _ k1 e1 ⟨_, _, walk_zipT ?_, fun H e => ⟨ex_t e s1, ex_t e s2⟩, fun i H x H' d hd _ y => yld_pair l1 l2 hd y⟩ h1⟩⟩
    unfold zipD; rw [List.length_zipWith, l1.length, l2.length]
  · rename_i xs ys
    obtain ⟨v, r, rfl, rv, rn⟩ := repL_cons.mp rl
    obtain ⟨u, r', rfl, ru, rn'⟩ := repL_cons.mp rn
    have := repL_nil.mp rn'; subst this
    obtain ⟨p1, us, rfl, s1, l1⟩ := rep_lst.mp rv
    obtain ⟨p2, ws, rfl, s2, l2⟩ := rep_lst.mp ru
    refine ⟨p1, p2, us, ws, rfl, .inl ⟨SqL.of (k1.ex _ _ s1), SqL.of (k1.ex _ _ s2), q _ H1 G1 Γ1 M1 _ k1 e1 ⟨_, _, walk_zip ?_, fun H e => ⟨SqL.of (e _ _ s1), SqL.of (e _ _ s2)⟩, fun i H x H' d hd _ y => yld_pair l1 l2 hd y⟩ h1⟩⟩
    unfold zipD; rw [List.length_zipWith, l1.length, l2.length]
  · exact h1.elim
def aIrev (aa : AE) (Γ : Sl) (M : Mem) (Q : List D → Sl → Mem → Prop) : Prop := aa Γ M fun r Γ1 M1 => frz r Γ1 fun d Γ2 => match d with
  | .lst ds => Q ds.reverse Γ2 M1
  | .tup ds => Q ds.reverse Γ2 M1
  | _ => False
theorem walk_revT {p : Addr} {xs : List V} : Walk (ItvT K p xs.length) xs.length (fun H => SqT K H p xs) (fun i H x H' => H' = H ∧ xs[xs.length - 1 - i]? = some x) :=
  ⟨fun i _ hi q => ⟨hi, xs, xs[xs.length - 1 - i]'(by omega), q, by simp [show xs.length - 1 - i < xs.length by omega]⟩, fun _ _ => Nat.le_refl _, fun _ _ _ _ _ q y => ⟨y.1, y.2 xs q⟩⟩
theorem rev_get {ds : List D} {vs : List V} {i : Nat} {d : D} {v : V} (r : RepL K G ds vs) (hd : ds.reverse[i]? = some d) (hv : vs[vs.length - 1 - i]? = some v) : Rep K G d v := by
  have hi : i < ds.length := by simpa using (List.getElem?_eq_some_iff.mp hd).1
  rw [List.getElem?_reverse hi] at hd
  obtain ⟨u, e, q⟩ := r.get hd
  rw [r.length] at hv
  rw [e] at hv; cases hv; exact q
theorem qi_rev {p : Pos} (hm : X.mg "reversed" = none) (h : QE X a ta aa) (hg : Gl X "reversed" := by rfl) (hs : starEach [a] X.env = (false, eval a X.env) :: starEach [] X.env := by rfl) (hK : X.K = K := by rfl) :
    QI X tg (.Call (.Name "reversed" p) [a] [] pos) (iRevA K ta) (aIrev aa) := by
  subst hK
  refine ⟨pi_revA hg hm h.pe hs, fun B σ H G Γ M Q R k hh q => h.rd B σ H G Γ M _ _ k hh fun v H1 G1 Γ1 M1 r k1 e1 rr h1 => ?_⟩
  obtain ⟨G2, Γ2, d, k2, e2, rp, h2⟩ := frz_ok (H0 := H) k1 e1 rr h1
  split at h2
  · rename_i ds
    obtain ⟨p, xs, rfl, hp, rl⟩ := rep_lst.mp rp
    refine ⟨p, xs, rfl, .inl ⟨SqL.of (k2.ex _ _ hp), q _ H1 G2 Γ2 M1 _ k2 e2 ⟨fun H => SqL X.K H p xs, fun i H x H' => H' = H ∧ xs[xs.length - 1 - i]? = some x, ?_, fun H e => SqL.of (e _ _ hp), fun i H x H' d hd _ y => .inl ⟨y.1, rev_get rl hd y.2⟩⟩ h2⟩⟩
    rw [List.length_reverse, ← rl.length]; exact walk_rev
  · rename_i ds
    obtain ⟨p, xs, rfl, hp, rl⟩ := rep_tup.mp rp
    refine ⟨p, xs, rfl, .inr ⟨ex_t k2.ex hp, q _ H1 G2 Γ2 M1 _ k2 e2 ⟨fun H => SqT X.K H p xs, fun i H x H' => H' = H ∧ xs[xs.length - 1 - i]? = some x, ?_, fun H e => ex_t e hp, fun i H x H' d hd _ y => .inl ⟨y.1, rev_get rl hd y.2⟩⟩ h2⟩⟩
    rw [List.length_reverse, ← rl.length]; exact walk_revT
  · exact h2.elim
def enumD (k : Nat) : List D → List D
  | [] => []
  | d :: ds => .tup [.int k, d] :: enumD (k + 1) ds
theorem enumD_get : ∀ {ds : List D} {k i : Nat} {d : D}, (enumD k ds)[i]? = some d → ∃ x, ds[i]? = some x ∧ d = .tup [.int (k + i : Nat), x]
  | [], k, i, d, h => by simp [enumD] at h
  | y :: ds, k, 0, d, h => by simp [enumD] at h; exact ⟨y, rfl, by simpa using h.symm⟩
  | y :: ds, k, i + 1, d, h => by
    rw [enumD, List.getElem?_cons_succ] at h
    obtain ⟨x, e1, e2⟩ := enumD_get h
    exact ⟨x, by simpa using e1, by rw [e2, show k + 1 + i = k + (i + 1) by omega]⟩
theorem enumD_len : ∀ (ds : List D) (k : Nat), (enumD k ds).length = ds.length
  | [], _ => rfl
  | d :: ds, k => by rw [enumD, List.length_cons, enumD_len, List.length_cons]
def aIenum (ar : AA) (Γ : Sl) (M : Mem) (Q : List D → Sl → Mem → Prop) : Prop := ar Γ M fun ds Γ1 M1 => match ds with
  | [.lst xs] => Q (enumD 0 xs) Γ1 M1
  | _ => False
theorem qi_enumL {tpos p : Pos} {elts : List Expr} {kk : Nat} {tr : TA} {ar : AA} (hm : X.mg "enumerate" = none) (ha : QA X [a] tr ar) (hg : Gl X "enumerate" := by rfl) (hs : starEach [a] X.env = [(false, eval a X.env)] := by rfl) (hK : X.K = K := by rfl) :
    QI X (.Tuple elts kk tpos) (.Call (.Name "enumerate" p) [a] [] pos) (iEnum K tr) (aIenum ar) := by
  subst hK
  refine ⟨pi_enum hg hm ha.pe hs, fun B σ H G Γ M Q R k hh q => ha.rd B σ H G Γ M _ _ k hh fun vs H1 G1 Γ1 M1 ds k1 e1 rl h1 => ?_⟩
  split at h1
  · rename_i xs
    obtain ⟨v, r, rfl, rv, rn⟩ := repL_cons.mp rl
    have := repL_nil.mp rn; subst this
    obtain ⟨p1, us, rfl, s1, l1⟩ := rep_lst.mp rv
    refine ⟨p1, us, rfl, SqL.of (k1.ex _ _ s1), q _ H1 G1 Γ1 M1 _ k1 e1 ⟨fun H => SqL X.K H p1 us, YPair (fun i => some (.int (i : Nat))) (fun i => us[i]?), ?_, fun H e => SqL.of (e _ _ s1), fun i H x H' d hd _ y => ?_⟩ h1⟩
    · rw [enumD_len, ← l1.length]; exact walk_enum
    · obtain ⟨z, e3, rfl⟩ := enumD_get hd
      obtain ⟨T, u, w, ev, hT, eH, f1, f2⟩ := y
      obtain ⟨u', g1, q1⟩ := l1.get e3
      have f1 : some (V.int (i : Nat)) = some u := f1
      have f2 : us[i]? = some w := f2
      have ew : u' = w := by rw [g1] at f2; exact Option.some.inj f2
      subst ew
      cases f1
      exact .inr ⟨T, [.int (i : Nat), u'], [.int (0 + i : Nat), z], ev, hT, eH, rfl, repL_cons.mpr ⟨_, _, rfl, by rw [Rep, Nat.zero_add], RepL.one q1⟩⟩
  · exact h1.elim
/-! ### x[i] += e -/
def rGetL (K : PySem.W.Frag) : V → V → Hp → VK → Prop := fun x y H Q => ∃ p xs i v, x = .ref p ∧ y = .int i ∧ SqL K H p xs ∧ 0 ≤ i ∧ xs[i.toNat]? = some v ∧ Q v H
theorem get_list : PGet X (rGetL X.K) := by
  intro pins s σ H o i ov iv Q I ro ri h
  obtain ⟨p, xs, n, v, rfl, rfl, sq, h0, hv, q⟩ := h
  cases ro
  obtain ⟨t, rfl⟩ := ri
  obtain ⟨its, r, pl, hz⟩ := I.list sq
  obtain ⟨u, eu, ru⟩ := r.get hv
  have hl : n.toNat < its.length := (List.getElem?_eq_some_iff.mp eu).1
  have hl2 := r.length
  refine wpAny_getItem_list pl.isList h0 ?_ (by simpa using eu) ⟨v, H, I, ru, q⟩
  have : sizeLine < 2 ^ 63 := by decide
  omega
def aAugX (ao ai ae : AE) (A : AEnds) (Γ : Sl) (M : Mem) : Prop := ao Γ M fun ro Γ1 M1 => ai Γ1 M1 fun ri Γ2 M2 => match ri, lget ro Γ2 M2 with
  | .dat (.int i), some ds => 0 ≤ i ∧ match ds[i.toNat]? with
    | some (.int n) => ae Γ2 M2 fun re Γ3 M3 => match re, lget ro Γ3 M3 with
      | .dat (.int m), some ds' => match ixN ds'.length i with
        | some j => lput ro (ds'.set j (.int (n + m))) Γ3 M3 fun Γ4 M4 => A.nx Γ4 M4
        | none => False
      | _, _ => False
    | _ => False
  | _, _ => False
theorem qs_augX {o i : Expr} {to ti : TE} {ao ai : AE} (ho : QE X o to ao) (hi : QE X i ti ai) (h : QE X a ta aa)
    (has : ∀ ov iv new, augStore i ov iv new = (do holding [new, ov, iv] (setItem ov iv new); release [new, ov, iv] []; pure .next) := by intros; rfl) (hK : X.K = K := by rfl) :
    QS X (.AugAssign (.Subscript o i pos') .Add a pos) (tAugS to ti ta (rGetL K) (ipI fun i j => i + j) rSetL) (aAugX ao ai aa) := by
  subst hK
  refine ⟨ps_augS ho.pe hi.pe get_list h.pe ip_add set_list has, fun B σ H G Γ M A E k hh s => ?_⟩
  refine ho.rd B σ H G Γ M _ _ k hh fun ov H1 G1 Γ1 M1 ro k1 e1 rro h1 => ?_
  refine hi.rd B σ H1 G1 Γ1 M1 _ _ k1 h1 fun iv H2 G2 Γ2 M2 ri k2 e2 rri h2 => ?_
  split at h2
  · rename_i n ds hd
    obtain ⟨h0, h2⟩ := h2
    have rro2 := rro.es e2
    obtain ⟨l, xs, rfl, hl, hx⟩ := lget_ok k2 rro2 hd
    have ei : iv = .int n := by have := rri; simp only [RepR, Rep] at this; exact this
    split at h2
    · rename_i old hold
      obtain ⟨v, hv, rv⟩ := hx.get hold
      rw [Rep] at rv
      refine ⟨l, xs, n, v, rfl, ei, SqL.of hl, h0, hv, h.rd B σ H2 G2 Γ2 M2 _ _ k2 h2 fun u H3 G3 Γ3 M3 re k3 e3 rre h3 => ?_⟩
      split at h3
      · rename_i m ds' hd'
        have eu : u = .int m := by have := rre; simp only [RepR, Rep] at this; exact this
        have rro3 := rro2.es e3
        obtain ⟨l', xs', e', hl', hx'⟩ := lget_ok k3 rro3 hd'
        cases e'
        split at h3
        · rename_i j hj
          obtain ⟨Γ5, M5, k5, e5, hq⟩ := lput_ok k3 rro3 hd' (hx'.set j (show Rep X.K G3 (.int (old + m)) (.int (old + m)) by rw [Rep])) h3
          exact ⟨old, m, rv, eu, l, xs', n, j, rfl, ei, hl', by rw [hx'.length]; exact hj, s.nx σ _ G3 Γ5 M5 k5 hq⟩
        · exact h3.elim
      · exact h3.elim
    · exact h2.elim
  · exact h2.elim
end
end Gw
namespace Gw
open PySem L2
/-- a, b = e, [..] where a name is held by a comprehension too: by a tuple -/
theorem qs_parOc {X : Cx} {a b : Expr} {ta tb : TE} {aa ab : AE} {K : PySem.W.Frag} {x y : Str} {px py pt spos : Pos} {kt k2 pt2} (i j : Nat) (hN : X.N.Nodup) (ha : QE X a ta aa) (hb : QE X b tb ab) (na : starEach [a, b] X.env = (false, eval a X.env) :: starEach [b] X.env := by rfl) (nb : starEach [b] X.env = (false, eval b X.env) :: starEach [] X.env := by rfl)
    (hi : X.N[i]? = some x := by rfl) (hj : X.N[j]? = some y := by rfl) (hx : Loc X.env.scope x := by first | exact Or.inl rfl | exact Or.inr rfl) (hy : Loc X.env.scope y := by first | exact Or.inl rfl | exact Or.inr rfl)
    (hfx : X.fn x = true ∨ X.env.scope.names.lookup x = some .local := by first | exact .inl rfl | exact .inr rfl) (hfy : X.fn y = true ∨ X.env.scope.names.lookup y = some .local := by first | exact .inl rfl | exact .inr rfl)
    (hs : swapsWithSole [.Tuple [.Name x px, .Name y py] kt pt] (.Tuple [a, b] k2 pt2) spos.line X.env = pure false := by rfl) (hw : swappedStores [.Tuple [.Name x px, .Name y py] kt pt] (.Tuple [a, b] k2 pt2) X.env = pure none := by rfl) (hc : X.calm = true := by rfl) (hK : X.K = K := by rfl) :
    QS X (.Assign [.Tuple [.Name x px, .Name y py] kt pt] (.Tuple [a, b] k2 pt2) spos) (tAsg (tTup (tCons ta (tCons tb tNil))) (gTup K 2 (gCons (gName i) (gCons (gName j) gNil)))) (aParO aa ab i j) := by
  subst hK
  refine ⟨ps_asg (pe_tup (pa_cons ha.pe (pa_cons hb.pe pa_nil nb) na)) (pg_tup hc (pgs_cons (pg_name hN hi hx hfx) (pgs_cons (pg_name hN hj hy hfy) pgs_nil))) hs hw, fun B σ H G Γ M A E k h s => ?_⟩
  refine ha.rd B σ H G Γ M _ _ k h fun v H1 G1 Γ1 M1 r k1 e1 rr h1 => ?_
  obtain ⟨G2, Γ2, d, k2, e2, rp, h2⟩ := frz_ok (H0 := H) k1 e1 rr h1
  refine hb.rd B σ H1 G2 Γ2 M1 _ _ k2 h2 fun u H3 G3 Γ3 M3 r3 k3 e3 rr3 h3 => ?_
  split at h3
  · rename_i c
    refine ⟨by show 2 ≤ sizeLine; decide, fun p hp => ?_⟩
    obtain ⟨k4, e4, _⟩ := k3.tmp (o := .tup [v, u]) hp
    obtain ⟨q, rfl, h0, hb', hc', hm, hn⟩ := rr3.es e4
    refine ⟨p, [v, .ref q], rfl, SqT.of upd_same, rfl, v, [.ref q], rfl, .ref q, [], rfl, rfl, ?_⟩
    exact s.nx _ _ G3 _ M3 ((k4.setD (rp.mono e3.g)).setO hb' hc' hm fun z => hn (owned_set (fun c e => by cases e) z)) h3
  · exact h3.elim
end Gw

namespace Law
open PySem L2 Gw
/-! ### shares, what is promised of each def -/
structure Sh where
  p : Int
  q : Int
  k : Int
def Sh.d (t : Sh) : D := .tup [.int t.p, .int t.q, .int t.k]
/-- not too great -/
structure Sh.Ok (t : Sh) (b : Nat) : Prop where
  p0 : -(2 ^ b) ≤ t.p
  p1 : t.p ≤ 2 ^ b
  q0 : -(2 ^ b) ≤ t.q
  q1 : t.q ≤ 2 ^ b
  k0 : 0 ≤ t.k
  k1 : t.k ≤ 61
/-- p and q roots of two are above nought -/
def Pos (p q : Int) : Bool := if 0 ≤ p ∧ 0 ≤ q then decide (0 < p ∨ 0 < q) else if p ≤ 0 ∧ q ≤ 0 then false else decide (2 * q * q < p * p) == decide (0 < p)
def mx (i j : Int) : Int := if j > i then j else i
def pw (z : Int) : Int := 2 ^ z.toNat
def Less (a b : Sh) : Bool := Pos (b.p * pw (mx a.k b.k - b.k) - a.p * pw (mx a.k b.k - a.k)) (b.q * pw (mx a.k b.k - b.k) - a.q * pw (mx a.k b.k - a.k))
/-- the hand: one shared list of two whole numbers, ahead of all else -/
def HM (a : Addr) (g s : Int) (M : Mem) : Mem := (a, .lst [.int g, .int s]) :: M
structure HOk (g s : Int) : Prop where
  s0 : 0 ≤ s
  s1 : s < 2305843009213693951
def S_twos : ASp := fun ds M Q => ∃ n : Int, ds = [.int n] ∧ 0 ≤ n ∧ n ≤ 1000 ∧ Q (.dat (.int (pw n))) M
def S_lowest_share : ASp := fun ds M Q => ∃ p q k : Int, ds = [.int p, .int q, .int k] ∧ 0 ≤ k ∧ ∀ p' q' k', 0 ≤ k' → k' ≤ k → p = p' * pw (k - k') → q = q' * pw (k - k') → Q (.dat (.tup [.int p', .int q', .int k'])) M
def S__law_least : ASp := S_lowest_share
def S_shares_together : ASp := fun ds M Q => ∃ a b : Sh, ds = [.tup [a.d, b.d]] ∧ 0 ≤ a.k ∧ a.k ≤ 61 ∧ 0 ≤ b.k ∧ b.k ≤ 61 ∧ ∀ p' q' k' e, 0 ≤ e → a.p * pw (mx a.k b.k - a.k) + b.p * pw (mx a.k b.k - b.k) = p' * pw e → a.q * pw (mx a.k b.k - a.k) + b.q * pw (mx a.k b.k - b.k) = q' * pw e → Q (.dat (.tup [.int p', .int q', .int k'])) M
def S_is_above_nought : ASp := fun ds M Q => ∃ p q : Int, ds = [.int p, .int q] ∧ p.natAbs < 2 ^ 400 ∧ q.natAbs < 2 ^ 400 ∧ Q (.dat (.bl (Pos p q))) M
def S_is_less : ASp := fun ds M Q => ∃ a b : Sh, ds = [a.d, b.d] ∧ a.Ok 200 ∧ b.Ok 200 ∧ Q (.dat (.bl (Less a b))) M
def S__law_hand : ASp := fun ds M Q => ∃ (ns : List Int) (k : Int), ds = [.scr (ns.map .int), .int k] ∧ 0 ≤ k ∧ k ≤ 100 ∧ ∀ a g s, a ∉ dom M → HOk g s → Q (.dat (.ref a)) (HM a g s M)
def S__law_take : ASp := fun ds M Q => ∃ a g s M0 m, ds = [.ref a, .int m] ∧ M = HM a g s M0 ∧ a ∉ dom M0 ∧ HOk g s ∧ 0 < m ∧ m ≤ 10 ^ 40 ∧ ∀ d g' s', 0 ≤ d → d < m → HOk g' s' → Q (.dat (.int d)) (HM a g' s' M0)
def S__law_pick : ASp := fun ds M Q => ∃ a g s M0 xs, ds = [.ref a, .lst xs] ∧ M = HM a g s M0 ∧ a ∉ dom M0 ∧ HOk g s ∧ 0 < xs.length ∧ xs.length ≤ 1000 ∧ ∀ d g' s', d ∈ xs → HOk g' s' → Q (.dat d) (HM a g' s' M0)
def S__law_great : ASp := fun ds M Q => ∃ a g s M0, ds = [.ref a] ∧ M = HM a g s M0 ∧ a ∉ dom M0 ∧ HOk g s ∧ ∀ z g' s', -7 ≤ z → z ≤ 10 ^ 40 → HOk g' s' → Q (.dat (.int z)) (HM a g' s' M0)
def S__law_root : ASp := fun ds M Q => ∃ n : Int, ds = [.int n] ∧ 0 ≤ n ∧ n < 2 ^ 900 ∧ ∀ r, 0 ≤ r → r * r ≤ n → n < (r + 1) * (r + 1) → Q (.dat (.int r)) M
def S__law_is_less : ASp := S_is_less
def S__law_near : ASp := fun ds M Q => ∃ a g s M0, ds = [.ref a] ∧ M = HM a g s M0 ∧ a ∉ dom M0 ∧ HOk g s ∧ ∀ x y g' s', 0 < x → 0 < y → x ≤ 2 ^ 100 → y ≤ 2 ^ 100 → HOk g' s' → Q (.dat (.tup [.int x, .int y])) (HM a g' s' M0)
def S__law_pair : ASp := fun ds M Q => ∃ a g s M0, ds = [.ref a] ∧ M = HM a g s M0 ∧ a ∉ dom M0 ∧ HOk g s ∧ ∀ (x y : Sh) g' s', x.Ok 200 → y.Ok 200 → HOk g' s' → Q (.dat (.tup [x.d, y.d])) (HM a g' s' M0)
def SLawP : List Int → Prop := fun ns => ns.length ≤ 63
def S_law : ASp := SLaw SLawP
theorem ar_twos : Ar 1 S_twos := fun _ _ _ ⟨_, e, _⟩ => by rw [e]; rfl
theorem ar_lowest_share : Ar 3 S_lowest_share := fun _ _ _ ⟨_, _, _, e, _⟩ => by rw [e]; rfl
theorem ar__law_least : Ar 3 S__law_least := ar_lowest_share
theorem ar_shares_together : Ar 1 S_shares_together := fun _ _ _ ⟨_, _, e, _⟩ => by rw [e]; rfl
theorem ar_is_above_nought : Ar 2 S_is_above_nought := fun _ _ _ ⟨_, _, e, _⟩ => by rw [e]; rfl
theorem ar_is_less : Ar 2 S_is_less := fun _ _ _ ⟨_, _, e, _⟩ => by rw [e]; rfl
theorem ar__law_is_less : Ar 2 S__law_is_less := ar_is_less
theorem ar__law_hand : Ar 2 S__law_hand := fun _ _ _ ⟨_, _, e, _⟩ => by rw [e]; rfl
theorem ar__law_take : Ar 2 S__law_take := fun _ _ _ ⟨_, _, _, _, _, e, _⟩ => by rw [e]; rfl
theorem ar__law_pick : Ar 2 S__law_pick := fun _ _ _ ⟨_, _, _, _, _, e, _⟩ => by rw [e]; rfl
theorem ar__law_great : Ar 1 S__law_great := fun _ _ _ ⟨_, _, _, _, e, _⟩ => by rw [e]; rfl
theorem ar__law_root : Ar 1 S__law_root := fun _ _ _ ⟨_, e, _⟩ => by rw [e]; rfl
theorem ar__law_near : Ar 1 S__law_near := fun _ _ _ ⟨_, _, _, _, e, _⟩ => by rw [e]; rfl
theorem ar__law_pair : Ar 1 S__law_pair := fun _ _ _ ⟨_, _, _, _, e, _⟩ => by rw [e]; rfl
theorem ar_law : Ar 1 S_law := Gw.ar_law SLawP
theorem sLawP_all : ∀ ns : List Int, ns.length ≤ 63 → (∀ z ∈ ns, Builtin.Int.intBits z ≤ 1048576) → SLawP ns := fun _ h _ => h

/-! ### the text, the abstract bodies (printed by gen.py) -/
def top (i : Nat) : Stmt := PySem.Challenge.pw_gatewaves_k04_which_share_is_less.main.body.getD i (.Pass ⟨0, 0, 0, 0⟩)
abbrev s_twos : Stmt := top 1
abbrev N_twos : List Str := ["many", "found", "turn"]
def as_twos_b1 : AS := (aAugC 1 CMul (fun i j => i * j) (aC (.int 2)))
def as_twos_t1 : AS := (aRet (aVar 1))
def as_twos : AS := (aSeq (aAsgF (aC (.int 1)) 1)
  (aSeq (aFor (aRng1 (aCons (aVar 0) aNil)) (agN 2) as_twos_b1)
  as_twos_t1))
abbrev s_lowest_share : Stmt := top 4
abbrev N_lowest_share : List Str := ["p", "q", "k"]
def as_lowest_share_c1 : AT := (aAnd (aTst (aOp (aI0 fun i j => .bl (decide (j < i))) (aVar 2) (aC (.int 0)))) (aAnd (aTst (aOp (aEq id) (aOp (aIC (fun _ j => j ≠ 0) fun i j => .int (i.fmod j)) (aVar 0) (aC (.int 2))) (aC (.int 0)))) (aTst (aOp (aEq id) (aOp (aIC (fun _ j => j ≠ 0) fun i j => .int (i.fmod j)) (aVar 1) (aC (.int 2))) (aC (.int 0))))))
def as_lowest_share_b1 : AS := (aPar3 (aCons (aOp (aIC CDivW fun i j => .int (i / j)) (aVar 0) (aC (.int 2))) (aCons (aOp (aIC CDivW fun i j => .int (i / j)) (aVar 1) (aC (.int 2))) (aCons (aOp (aI0 fun i j => .int (i - j)) (aVar 2) (aC (.int 1))) aNil))) 0 1 2)
def as_lowest_share_t1 : AS := (aRet (aTup (aCons (aVar 0) (aCons (aVar 1) (aCons (aVar 2) aNil)))))
def as_lowest_share : AS := (aSeq (aWhile as_lowest_share_c1 as_lowest_share_b1)
  as_lowest_share_t1)
abbrev s_shares_together : Stmt := top 5
abbrev N_shares_together : List Str := ["some", "p", "q", "k", "mine", "its", "own", "most"]
def as_shares_together_b1 : AS := (aSeq (aAsgF (aCall2 (aI0 fun i j => .int (if j > i then j else i)) (aVar 3) (aVar 6)) 7)
  (aSeq (aAsgF (aOp (aI0 fun i j => .int (i + j)) (aOp (aIC CM fun i j => .int (i * j)) (aVar 1) (aCall S_twos (aCons (aOp (aI0 fun i j => .int (i - j)) (aVar 7) (aVar 3)) aNil))) (aOp (aIC CM fun i j => .int (i * j)) (aVar 4) (aCall S_twos (aCons (aOp (aI0 fun i j => .int (i - j)) (aVar 7) (aVar 6)) aNil)))) 1)
  (aSeq (aAsgF (aOp (aI0 fun i j => .int (i + j)) (aOp (aIC CM fun i j => .int (i * j)) (aVar 2) (aCall S_twos (aCons (aOp (aI0 fun i j => .int (i - j)) (aVar 7) (aVar 3)) aNil))) (aOp (aIC CM fun i j => .int (i * j)) (aVar 5) (aCall S_twos (aCons (aOp (aI0 fun i j => .int (i - j)) (aVar 7) (aVar 6)) aNil)))) 2)
  (aAsgF (aVar 7) 3))))
def as_shares_together_t1 : AS := (aRet (aCall S_lowest_share (aCons (aVar 1) (aCons (aVar 2) (aCons (aVar 3) aNil)))))
def as_shares_together : AS := (aSeq (aUnp (aC (.tup [.int 0, .int 0, .int 0])) (agT 3 (agCons (agN 1) (agCons (agN 2) (agCons (agN 3) agNil)))))
  (aSeq (aFor (aITup (aVar 0)) (agT 3 (agCons (agN 4) (agCons (agN 5) (agCons (agN 6) agNil)))) as_shares_together_b1)
  as_shares_together_t1))
abbrev s_is_above_nought : Stmt := top 6
abbrev N_is_above_nought : List Str := ["p", "q"]
def as_is_above_nought_t1 : AS := (aRet (aOp (aEq id) (aOp (aI0 fun i j => .bl (decide (j < i))) (aOp (aIC CM fun i j => .int (i * j)) (aVar 0) (aVar 0)) (aOp (aIC CM fun i j => .int (i * j)) (aOp (aIC CM fun i j => .int (i * j)) (aC (.int 2)) (aVar 1)) (aVar 1))) (aOp (aI0 fun i j => .bl (decide (j < i))) (aVar 0) (aC (.int 0)))))
def as_is_above_nought_t2 : AS := (aSeq (aIfS (aAnd (aTst (aOp (aI0 fun i j => .bl (decide (i ≤ j))) (aVar 0) (aC (.int 0)))) (aTst (aOp (aI0 fun i j => .bl (decide (i ≤ j))) (aVar 1) (aC (.int 0))))) (aRet (aC (.bl false))) aNext)
  as_is_above_nought_t1)
def as_is_above_nought : AS := (aSeq (aIfS (aAnd (aTst (aOp (aI0 fun i j => .bl (decide (j ≤ i))) (aVar 0) (aC (.int 0)))) (aTst (aOp (aI0 fun i j => .bl (decide (j ≤ i))) (aVar 1) (aC (.int 0))))) (aRet (aOrV (aOp (aI0 fun i j => .bl (decide (j < i))) (aVar 0) (aC (.int 0))) (aOp (aI0 fun i j => .bl (decide (j < i))) (aVar 1) (aC (.int 0))))) aNext)
  as_is_above_nought_t2)
abbrev s_is_less : Stmt := top 7
abbrev N_is_less : List Str := ["one", "other", "p", "q", "k"]
def as_is_less : AS := (aSeq (aUnp (aCall S_shares_together (aCons (aTup (aCons (aVar 1) (aCons (aTup (aCons (aUn aNeg (aOp aIx (aVar 0) (aC (.int 0)))) (aCons (aUn aNeg (aOp aIx (aVar 0) (aC (.int 1)))) (aCons (aOp aIx (aVar 0) (aC (.int 2))) aNil)))) aNil))) aNil)) (agT 3 (agCons (agN 2) (agCons (agN 3) (agCons (agN 4) agNil)))))
  (aRet (aCall S_is_above_nought (aCons (aVar 2) (aCons (aVar 3) aNil)))))
abbrev s__law_hand : Stmt := top 9
abbrev N__law_hand : List Str := ["_law_script", "_law_k", "_law_cell", "_law_great_here"]
def as__law_hand_t1 : AS := (aSeq (aAsgF (aOp (aIC CM fun i j => .int (i * j)) (aOp (aIC (fun _ j => j ≠ 0) fun i j => .int (i.fmod j)) (aCall1 aAbs (aVar 2)) (aOp (aIC CPowW fun i j => .int (i ^ j.toNat)) (aOp (aIC CPowW fun i j => .int (i ^ j.toNat)) (aC (.int 10)) (aC (.int 60))) (aC (.int 5)))) (aCall1 aInt (aOp (aI0 fun i j => .bl (decide (j ≤ i))) (aCall1 aAbs (aVar 2)) (aOp (aIC CPowW fun i j => .int (i ^ j.toNat)) (aC (.int 10)) (aC (.int 18)))))) 3)
  (aRet (aSh (aLst (aCons (aVar 3) (aCons (aOp (aIC (fun _ j => j ≠ 0) fun i j => .int (i.fmod j)) (aOp (aIC CM fun i j => .int (i * j)) (aOp (aI0 fun i j => .int (i + j)) (aOp (aI0 fun i j => .int (i + j)) (aOp (aIC (fun _ j => j ≠ 0) fun i j => .int (i.fmod j)) (aVar 2) (aC (.int 2305843009213693951))) (aOp (aIC CM fun i j => .int (i * j)) (aOp (aIC CM fun i j => .int (i * j)) (aC (.int 7919)) (aVar 1)) (aVar 1))) (aC (.int 11))) (aC (.int 48271))) (aC (.int 2305843009213693951))) aNil))))))
def as__law_hand : AS := (aSeq (aAsgF (aOp (aI0 fun i j => .int (i + j)) (aOp (aIC CM fun i j => .int (i * j)) (aC (.int 3)) (aVar 1)) (aCall1 aLen (aVar 0))) 2)
  (aSeq (aIfS (aTst (aOp (aI0 fun i j => .bl (decide (i < j))) (aVar 1) (aCall1 aLen (aVar 0)))) (aAsgF (aOp aIx (aVar 0) (aVar 1)) 2) aNext)
  as__law_hand_t1))
abbrev s__law_take : Stmt := top 10
abbrev N__law_take : List Str := ["_law_hand_here", "_law_many", "_law_digit"]
def as__law_take_t1 : AS := (aSeq (aSetI (aOp (aIC (fun _ j => j ≠ 0) fun i j => .int (i.fmod j)) (aOp (aI0 fun i j => .int (i + j)) (aOp (aIC CM fun i j => .int (i * j)) (aOp aIx (aVar 0) (aC (.int 1))) (aC (.int 1181783497276652981))) (aC (.int 12345678910987))) (aC (.int 2305843009213693951))) (aVar 0) (aC (.int 1)))
  (aRet (aOp (aIC (fun _ j => j ≠ 0) fun i j => .int (i.fmod j)) (aOp (aIC CDivW fun i j => .int (i / j)) (aOp (aIC (fun _ j => j ≠ 0) fun i j => .int (i.fmod j)) (aOp (aIC CM fun i j => .int (i * j)) (aOp (aIC CDivW fun i j => .int (i / j)) (aOp aIx (aVar 0) (aC (.int 1))) (aC (.int 65537))) (aOp (aI0 fun i j => .int (i + j)) (aOp (aIC (fun _ j => j ≠ 0) fun i j => .int (i.fmod j)) (aOp aIx (aVar 0) (aC (.int 1))) (aC (.int 65537))) (aC (.int 3)))) (aC (.int 2305843009213693921))) (aC (.int 97))) (aVar 1))))
def as__law_take : AS := (aSeq (aIfS (aTst (aOp (aI0 fun i j => .bl (decide (j < i))) (aOp aIx (aVar 0) (aC (.int 0))) (aC (.int 0)))) (aSeq (aAsgF (aOp (aIC (fun _ j => j ≠ 0) fun i j => .int (i.fmod j)) (aOp aIx (aVar 0) (aC (.int 0))) (aVar 1)) 2)
  (aSeq (aSetI (aOp (aIC CDivW fun i j => .int (i / j)) (aOp aIx (aVar 0) (aC (.int 0))) (aVar 1)) (aVar 0) (aC (.int 0)))
  (aRet (aVar 2)))) aNext)
  as__law_take_t1)
abbrev s__law_pick : Stmt := top 11
abbrev N__law_pick : List Str := ["_law_hand_here", "_law_some"]
def as__law_pick : AS := (aRet (aOp aIx (aVar 1) (aCall S__law_take (aCons (aVar 0) (aCons (aCall1 aLen (aVar 1)) aNil)))))
abbrev s__law_great : Stmt := top 12
abbrev N__law_great : List Str := ["_law_hand_here"]
def as__law_great : AS := (aRet (aCall S__law_pick (aCons (aVar 0) (aCons (aLst (aCons (aC (.int 0)) (aCons (aC (.int 1)) (aCons (aUn aNeg (aC (.int 1))) (aCons (aOp (aI0 fun i j => .int (i - j)) (aCall S__law_take (aCons (aVar 0) (aCons (aC (.int 7)) aNil))) (aC (.int 3))) (aCons (aOp (aI0 fun i j => .int (i - j)) (aCall S__law_take (aCons (aVar 0) (aCons (aC (.int 7)) aNil))) (aC (.int 3))) (aCons (aOp (aI0 fun i j => .int (i - j)) (aCall S__law_take (aCons (aVar 0) (aCons (aOp (aIC CPowW fun i j => .int (i ^ j.toNat)) (aC (.int 10)) (aC (.int 40))) aNil))) (aC (.int 7))) aNil))))))) aNil))))
abbrev s__law_least : Stmt := top 13
abbrev N__law_least : List Str := ["_law_p", "_law_q", "_law_k"]
def as__law_least_c1 : AT := (aAnd (aTst (aOp (aI0 fun i j => .bl (decide (j < i))) (aVar 2) (aC (.int 0)))) (aAnd (aTst (aOp (aEq id) (aOp (aIC (fun _ j => j ≠ 0) fun i j => .int (i.fmod j)) (aVar 0) (aC (.int 2))) (aC (.int 0)))) (aTst (aOp (aEq id) (aOp (aIC (fun _ j => j ≠ 0) fun i j => .int (i.fmod j)) (aVar 1) (aC (.int 2))) (aC (.int 0))))))
def as__law_least_b1 : AS := (aPar3 (aCons (aOp (aIC CDivW fun i j => .int (i / j)) (aVar 0) (aC (.int 2))) (aCons (aOp (aIC CDivW fun i j => .int (i / j)) (aVar 1) (aC (.int 2))) (aCons (aOp (aI0 fun i j => .int (i - j)) (aVar 2) (aC (.int 1))) aNil))) 0 1 2)
def as__law_least_t1 : AS := (aRet (aTup (aCons (aVar 0) (aCons (aVar 1) (aCons (aVar 2) aNil)))))
def as__law_least : AS := (aSeq (aWhile as__law_least_c1 as__law_least_b1)
  as__law_least_t1)
abbrev s__law_root : Stmt := top 14
abbrev N__law_root : List Str := ["_law_number", "_law_low", "_law_high", "_law_half"]
def as__law_root_c1 : AT := (aTst (aOp (aI0 fun i j => .bl (decide (j < i))) (aOp (aI0 fun i j => .int (i - j)) (aVar 2) (aVar 1)) (aC (.int 1))))
def as__law_root_b1 : AS := (aSeq (aAsgF (aOp (aIC CDivW fun i j => .int (i / j)) (aOp (aI0 fun i j => .int (i + j)) (aVar 1) (aVar 2)) (aC (.int 2))) 3)
  (aUnp (aIfE (aTst (aOp (aI0 fun i j => .bl (decide (i ≤ j))) (aOp (aIC CM fun i j => .int (i * j)) (aVar 3) (aVar 3)) (aVar 0))) (aTup (aCons (aVar 3) (aCons (aVar 2) aNil))) (aTup (aCons (aVar 1) (aCons (aVar 3) aNil)))) (agT 2 (agCons (agN 1) (agCons (agN 2) agNil)))))
def as__law_root_t1 : AS := (aRet (aVar 1))
def as__law_root : AS := (aSeq (aPar (aCons (aC (.int 0)) (aCons (aOp (aI0 fun i j => .int (i + j)) (aVar 0) (aC (.int 1))) aNil)) 1 2)
  (aSeq (aWhile as__law_root_c1 as__law_root_b1)
  as__law_root_t1))
abbrev s__law_is_less : Stmt := top 15
abbrev N__law_is_less : List Str := ["_law_left", "_law_right", "_law_k", "_law_p", "_law_q", "_law_a", "_law_b", "_law_own", "_law_sign", "_law_turn", "_law_below"]
def as__law_is_less_b1 : AS := (aPar (aCons (aOp (aIC CM fun i j => .int (i * j)) (aC (.int 2)) (aVar 5)) (aCons (aOp (aIC CM fun i j => .int (i * j)) (aC (.int 2)) (aVar 6)) aNil)) 5 6)
def as__law_is_less_t1 : AS := (aPar (aCons (aOp (aI0 fun i j => .int (i + j)) (aVar 3) (aOp (aIC CM fun i j => .int (i * j)) (aVar 8) (aVar 5))) (aCons (aOp (aI0 fun i j => .int (i + j)) (aVar 4) (aOp (aIC CM fun i j => .int (i * j)) (aVar 8) (aVar 6))) aNil)) 3 4)
def as__law_is_less_b2 : AS := (aSeq (aFor (aRng1 (aCons (aOp (aI0 fun i j => .int (i - j)) (aVar 2) (aVar 7)) aNil)) (agN 9) as__law_is_less_b1)
  as__law_is_less_t1)
def as__law_is_less_t2 : AS := (aSeq (aAsgF (aCall S__law_root (aCons (aOp (aIC CM fun i j => .int (i * j)) (aOp (aIC CM fun i j => .int (i * j)) (aC (.int 2)) (aVar 4)) (aVar 4)) aNil)) 10)
  (aRet (aIfE (aTst (aOp (aI0 fun i j => .bl (decide (j < i))) (aVar 4) (aC (.int 0)))) (aOp (aI0 fun i j => .bl (decide (i < j))) (aOp (aI0 fun i j => .int (i + j)) (aVar 3) (aVar 10)) (aC (.int 0))) (aOp (aI0 fun i j => .bl (decide (i < j))) (aOp (aI0 fun i j => .int (i - j)) (aOp (aI0 fun i j => .int (i - j)) (aVar 3) (aVar 10)) (aC (.int 1))) (aC (.int 0))))))
def as__law_is_less_t3 : AS := (aSeq (aIfS (aTst (aOp (aEq id) (aVar 4) (aC (.int 0)))) (aRet (aOp (aI0 fun i j => .bl (decide (i < j))) (aVar 3) (aC (.int 0)))) aNext)
  as__law_is_less_t2)
def as__law_is_less : AS := (aSeq (aAsgF (aCall2 (aI0 fun i j => .int (if j > i then j else i)) (aOp aIx (aVar 0) (aC (.int 2))) (aOp aIx (aVar 1) (aC (.int 2)))) 2)
  (aSeq (aUnp (aTup (aCons (aC (.int 0)) (aCons (aC (.int 0)) aNil))) (agT 2 (agCons (agN 3) (agCons (agN 4) agNil))))
  (aSeq (aFor (aITup (aTup (aCons (aTup (aCons (aOp aIx (aVar 0) (aC (.int 0))) (aCons (aOp aIx (aVar 0) (aC (.int 1))) (aCons (aOp aIx (aVar 0) (aC (.int 2))) (aCons (aC (.int 1)) aNil))))) (aCons (aTup (aCons (aOp aIx (aVar 1) (aC (.int 0))) (aCons (aOp aIx (aVar 1) (aC (.int 1))) (aCons (aOp aIx (aVar 1) (aC (.int 2))) (aCons (aUn aNeg (aC (.int 1))) aNil))))) aNil)))) (agT 4 (agCons (agN 5) (agCons (agN 6) (agCons (agN 7) (agCons (agN 8) agNil))))) as__law_is_less_b2)
  as__law_is_less_t3)))
abbrev s__law_near : Stmt := top 16
abbrev N__law_near : List Str := ["_law_hand_here", "_law_a", "_law_b", "_law_turn"]
def as__law_near_b1 : AS := (aPar (aCons (aOp (aI0 fun i j => .int (i + j)) (aVar 1) (aOp (aIC CM fun i j => .int (i * j)) (aC (.int 2)) (aVar 2))) (aCons (aOp (aI0 fun i j => .int (i + j)) (aVar 1) (aVar 2)) aNil)) 1 2)
def as__law_near_t1 : AS := (aRet (aTup (aCons (aVar 1) (aCons (aVar 2) aNil))))
def as__law_near : AS := (aSeq (aUnp (aTup (aCons (aC (.int 1)) (aCons (aC (.int 1)) aNil))) (agT 2 (agCons (agN 1) (agCons (agN 2) agNil))))
  (aSeq (aFor (aRng1 (aCons (aCall S__law_take (aCons (aVar 0) (aCons (aC (.int 40)) aNil))) aNil)) (agN 3) as__law_near_b1)
  as__law_near_t1))
abbrev s__law_pair : Stmt := top 17
abbrev N__law_pair : List Str := ["_law_hand_here", "_law_way", "_law_k", "_law_left", "_law_a", "_law_b"]
def as__law_pair_t1 : AS := (aRet (aTup (aCons (aVar 3) (aCons (aCall S__law_least (aCons (aCall S__law_great (aCons (aVar 0) aNil)) (aCons (aCall S__law_great (aCons (aVar 0) aNil)) (aCons (aCall S__law_take (aCons (aVar 0) (aCons (aC (.int 5)) aNil))) aNil)))) aNil))))
def as__law_pair_t2 : AS := (aSeq (aIfS (aTst (aOp (aEq id) (aVar 1) (aC (.int 4)))) (aRet (aTup (aCons (aVar 3) (aCons (aCall S__law_least (aCons (aOp (aI0 fun i j => .int (i + j)) (aOp (aIC CM fun i j => .int (i * j)) (aC (.int 2)) (aOp aIx (aVar 3) (aC (.int 0)))) (aC (.int 1))) (aCons (aOp (aIC CM fun i j => .int (i * j)) (aC (.int 2)) (aOp aIx (aVar 3) (aC (.int 1)))) (aCons (aOp (aI0 fun i j => .int (i + j)) (aOp aIx (aVar 3) (aC (.int 2))) (aC (.int 1))) aNil)))) aNil)))) aNext)
  as__law_pair_t1)
def as__law_pair_t3 : AS := (aSeq (aIfS (aTst (aOp (aEq id) (aVar 1) (aC (.int 3)))) (aSeq (aUnp (aCall S__law_near (aCons (aVar 0) aNil)) (agT 2 (agCons (agN 4) (agCons (agN 5) agNil))))
  (aRet (aTup (aCons (aCall S__law_least (aCons (aOp (aI0 fun i j => .int (i + j)) (aOp aIx (aVar 3) (aC (.int 0))) (aVar 4)) (aCons (aOp aIx (aVar 3) (aC (.int 1))) (aCons (aOp aIx (aVar 3) (aC (.int 2))) aNil)))) (aCons (aCall S__law_least (aCons (aOp aIx (aVar 3) (aC (.int 0))) (aCons (aOp (aI0 fun i j => .int (i + j)) (aOp aIx (aVar 3) (aC (.int 1))) (aVar 5)) (aCons (aOp aIx (aVar 3) (aC (.int 2))) aNil)))) aNil))))) aNext)
  as__law_pair_t2)
def as__law_pair_t4 : AS := (aSeq (aIfS (aTst (aOp (aEq id) (aVar 1) (aC (.int 2)))) (aSeq (aUnp (aCall S__law_near (aCons (aVar 0) aNil)) (agT 2 (agCons (agN 4) (agCons (agN 5) agNil))))
  (aRet (aTup (aCons (aCall S__law_least (aCons (aVar 4) (aCons (aC (.int 0)) (aCons (aVar 2) aNil)))) (aCons (aCall S__law_least (aCons (aC (.int 0)) (aCons (aVar 5) (aCons (aVar 2) aNil)))) aNil))))) aNext)
  as__law_pair_t3)
def as__law_pair_t5 : AS := (aSeq (aIfS (aTst (aOp (aEq id) (aVar 1) (aC (.int 1)))) (aRet (aTup (aCons (aVar 3) (aCons (aCall S__law_least (aCons (aOp (aI0 fun i j => .int (i + j)) (aOp aIx (aVar 3) (aC (.int 0))) (aC (.int 1))) (aCons (aOp aIx (aVar 3) (aC (.int 1))) (aCons (aOp aIx (aVar 3) (aC (.int 2))) aNil)))) aNil)))) aNext)
  as__law_pair_t4)
def as__law_pair : AS := (aSeq (aPar (aCons (aCall S__law_take (aCons (aVar 0) (aCons (aC (.int 6)) aNil))) (aCons (aCall S__law_pick (aCons (aVar 0) (aCons (aLst (aCons (aC (.int 0)) (aCons (aC (.int 1)) (aCons (aC (.int 2)) (aCons (aCall S__law_take (aCons (aVar 0) (aCons (aC (.int 9)) aNil))) (aCons (aC (.int 60)) aNil)))))) aNil))) aNil)) 1 2)
  (aSeq (aAsgF (aCall S__law_least (aCons (aCall S__law_great (aCons (aVar 0) aNil)) (aCons (aCall S__law_great (aCons (aVar 0) aNil)) (aCons (aVar 2) aNil)))) 3)
  (aSeq (aIfS (aTst (aOp (aEq id) (aVar 1) (aC (.int 0)))) (aRet (aTup (aCons (aVar 3) (aCons (aVar 3) aNil)))) aNext)
  as__law_pair_t5)))
abbrev s_law : Stmt := top 18
abbrev N_law : List Str := ["_law_script", "_law_k", "_law_hand_here", "_law_some", "_law_turn", "_law_first", "_law_second", "_law_mine", "_law_its", "_law_due", "_law_third"]
def as_law_b1 : AS := (aSeq (aAsgF (aCall S__law_is_less (aCons (aVar 7) (aCons (aVar 8) aNil))) 9)
  (aIfS (aTst (aOp (aEqS not) (aCall1 aRepr (aLst (aCons (aCall S_is_less (aCons (aVar 7) (aCons (aVar 8) aNil))) (aCons (aCallP S_is_less 0 2 [1, 0] aNil (aCons (aVar 8) (aCons (aVar 7) aNil))) aNil)))) (aCall1 aRepr (aLst (aCons (aVar 9) (aCons (aVar 9) aNil)))))) (aRet (aC (.bl false))) aNext))
def as_law_b2 : AS := (aSeq (aUnp (aCall S__law_pair (aCons (aVar 2) aNil)) (agT 2 (agCons (agN 5) (agCons (agN 6) agNil))))
  (aSeq (aDrop (aMeth amExt (aVar 3) (aCons (aLst (aCons (aVar 5) (aCons (aVar 6) aNil))) aNil)))
  (aFor (aITup (aTup (aCons (aTup (aCons (aVar 5) (aCons (aVar 6) aNil))) (aCons (aTup (aCons (aVar 6) (aCons (aVar 5) aNil))) aNil)))) (agT 2 (agCons (agN 7) (agCons (agN 8) agNil))) as_law_b1)))
def as_law_b3 : AS := (aSeq (aPar3 (aCons (aCall S__law_pick (aCons (aVar 2) (aCons (aVar 3) aNil))) (aCons (aCall S__law_pick (aCons (aVar 2) (aCons (aVar 3) aNil))) (aCons (aCall S__law_pick (aCons (aVar 2) (aCons (aVar 3) aNil))) aNil))) 5 6 10)
  (aIfS (aAnd (aTst (aCall S_is_less (aCons (aVar 5) (aCons (aVar 6) aNil)))) (aAnd (aTst (aCall S_is_less (aCons (aVar 6) (aCons (aVar 10) aNil)))) (aNot (aTst (aCall S_is_less (aCons (aVar 5) (aCons (aVar 10) aNil))))))) (aRet (aC (.bl false))) aNext))
def as_law_t1 : AS := (aFor (aRng1 (aCons (aC (.int 6)) aNil)) (agN 4) as_law_b3)
def as_law_b4 : AS := (aSeq (aAsgF (aCall S__law_hand (aCons (aVar 0) (aCons (aVar 1) aNil))) 2)
  (aSeq (aAsg (aLst aNil) 3)
  (aSeq (aFor (aRng1 (aCons (aC (.int 6)) aNil)) (agN 4) as_law_b2)
  as_law_t1)))
def as_law_t2 : AS := (aRet (aC (.bl true)))
def as_law : AS := (aSeq (aFor (aRng1 (aCons (aCall2 (aI0 fun i j => .int (if j > i then j else i)) (aC (.int 1)) (aCall2 (aI0 fun i j => .int (if j < i then j else i)) (aC (.int 6)) (aCall1 aLen (aVar 0)))) aNil)) (agN 1) as_law_b4)
  as_law_t2)
local macro_rules | `(tactic| walk_at "gw") => `(tactic| simp (config := { dsimp := false }) only [↓aSeq, ↓aUnp, ↓aVar, ↓aC, ↓aOp, ↓aI0, ↓aIC, ↓aEq, ↓aEqS, ↓aIn, ↓aIsN, ↓aIx, ↓aCat, ↓aRep, ↓aCatT, ↓aSl, ↓aON, ↓aOS, ↓aCall1, ↓aCall2, ↓aLen, ↓aAllB, ↓aTuple, ↓aList, ↓aAbs, ↓aInt, ↓aSortI, ↓aI3, ↓aCons, ↓aNil, ↓aTup, ↓aLst, ↓aTst, ↓aAnd, ↓aOr, ↓aNot, ↓aAndV, ↓aOrV, ↓aNotV, ↓aIfE, ↓aUn, ↓aNeg, ↓aChain, ↓aNext, ↓aBrk, ↓aCnt, ↓aDrop, ↓aRet, ↓aIfS, ↓aAsg, ↓aAsgF, ↓agN, ↓agNil, ↓agCons, ↓agT, ↓aPar, ↓aParO, ↓aSetI, ↓aAugI, ↓aAugL, ↓aMeth, ↓aMeth0, ↓amApp, ↓amExt, ↓amPop, ↓amPopAt, ↓amIns, ↓lget, ↓lput, ↓frz, ↓sqOf, ↓sqD, ↓Sq.ds, ↓dOf, ↓aCall, ↓aCallP, ↓aPar3, ↓aAugC, ↓aAugX, ↓aIzip, ↓aIrev, ↓aIenum, ↓permL, ↓aISeq, ↓aITup, ↓aRng1, ↓aRng2, ↓aFor, ↓aLc, ↓aYes, ↓aSh, ↓aShV, ↓aRepr, ↓wipeS, ↓ends_d, ↓ends_t, ↓ends_n, ↓id, size_val, Nat.zero_le, List.set_cons_zero, List.set_cons_succ, List.getElem?_cons_zero, List.getElem?_cons_succ, List.length_cons, List.length_nil, Option.isSome_some, not_true_eq_false, not_false_eq_true, true_and, and_true, ite_true, ite_false, Bool.false_eq_true, if_true, if_false, Bool.not_true, Bool.not_false, lk_self, lk_ne, at0, at1, at2, at3, at4, ix0, ix1, ix2, sx0, List.map_cons, List.map_nil, List.filterMap_cons, List.filterMap_nil, List.cons_append, List.nil_append, cmp_int, cmp_nil_l, cmp_nil_t, eqD_int, eqD_l00, eqD_l10, eqD_t00, eqD_t10])
local macro_rules | `(tactic| walk_at "gwx") => `(tactic| simp (config := { dsimp := false }) only [*, ↓aSeq, ↓aUnp, ↓aVar, ↓aC, ↓aOp, ↓aI0, ↓aIC, ↓aEq, ↓aEqS, ↓aIn, ↓aIsN, ↓aIx, ↓aCat, ↓aRep, ↓aCatT, ↓aSl, ↓aON, ↓aOS, ↓aCall1, ↓aCall2, ↓aLen, ↓aAllB, ↓aTuple, ↓aList, ↓aAbs, ↓aInt, ↓aSortI, ↓aI3, ↓aCons, ↓aNil, ↓aTup, ↓aLst, ↓aTst, ↓aAnd, ↓aOr, ↓aNot, ↓aAndV, ↓aOrV, ↓aNotV, ↓aIfE, ↓aUn, ↓aNeg, ↓aChain, ↓aNext, ↓aBrk, ↓aCnt, ↓aDrop, ↓aRet, ↓aIfS, ↓aAsg, ↓aAsgF, ↓agN, ↓agNil, ↓agCons, ↓agT, ↓aPar, ↓aParO, ↓aSetI, ↓aAugI, ↓aAugL, ↓aMeth, ↓aMeth0, ↓amApp, ↓amExt, ↓amPop, ↓amPopAt, ↓amIns, ↓lget, ↓lput, ↓frz, ↓sqOf, ↓sqD, ↓Sq.ds, ↓dOf, ↓aCall, ↓aCallP, ↓aPar3, ↓aAugC, ↓aAugX, ↓aIzip, ↓aIrev, ↓aIenum, ↓permL, ↓aISeq, ↓aITup, ↓aRng1, ↓aRng2, ↓aFor, ↓aLc, ↓aYes, ↓aSh, ↓aShV, ↓aRepr, ↓wipeS, ↓ends_d, ↓ends_t, ↓ends_n, ↓id, size_val, Nat.zero_le, List.set_cons_zero, List.set_cons_succ, List.getElem?_cons_zero, List.getElem?_cons_succ, List.length_cons, List.length_nil, Option.isSome_some, not_true_eq_false, not_false_eq_true, true_and, and_true, ite_true, ite_false, Bool.false_eq_true, if_true, if_false, Bool.not_true, Bool.not_false, lk_self, lk_ne, at0, at1, at2, at3, at4, ix0, ix1, ix2, sx0, List.map_cons, List.map_nil, List.filterMap_cons, List.filterMap_nil, List.cons_append, List.nil_append, cmp_int, cmp_nil_l, cmp_nil_t, eqD_int, eqD_l00, eqD_l10, eqD_t00, eqD_t10])
/-! ### the drawer: hand, take, pick -/
theorem pw10 : (10 : Int) ^ Int.toNat 40 = 10 ^ 40 := rfl
theorem div_w {i j : Int} (h0 : 0 < j) (h1 : j < 2 ^ 900) : CDivW i j := ⟨h0, by
  have : j.natAbs < 2 ^ 900 := by omega
  have h2 : j.natAbs.log2 < 900 := (Nat.log2_lt (by omega)).mpr this
  omega⟩
theorem mul_w {i j : Int} (h0 : i.natAbs < 2 ^ 2000) (h1 : j.natAbs < 2 ^ 2000) : CM i j := .inr (by
  unfold CMulW
  have l : ∀ n : Nat, n < 2 ^ 2000 → n.log2 < 2000 := fun n h => by
    by_cases e : n = 0
    · subst e; decide
    · exact (Nat.log2_lt e).mpr h
  have := l _ h0
  have := l _ h1
  omega)
theorem rd__law_take : ∀ ds M Q, S__law_take ds M Q → as__law_take (endsOf Q) (slots N__law_take.length ds) M := by
  rintro ds M Q ⟨a, g, s, M0, m, rfl, rfl, ha, hs, m0, m1, h⟩
  show as__law_take (endsOf Q) [.dat _, .dat _, .non] _
  have hm : m ≠ 0 := by omega
  have dv : ∀ i, CDivW i m := fun i => div_w m0 (by omega)
  have put : ∀ c c' : Cell, mput ((a, c) :: M0) a c' = (a, c') :: M0 := fun c c' => mput_self ha
  unfold as__law_take
  unfold HM at h ⊢
  by_cases hg : 0 < g
  · walk_at "gwx"
    simp only [decide_true, if_true]
    refine ⟨hm, ?_⟩
    exact h _ _ _ (fmod_lo m0) (fmod_hi m0) ⟨hs.s0, hs.s1⟩
  · walk_at "gwx"
    simp only [decide_false, Bool.false_eq_true, if_false]
    unfold as__law_take_t1
    walk_at "gwx"
    have q0 := fmod_lo (a := s * 1181783497276652981 + 12345678910987) (b := 2305843009213693951) (by decide)
    have q1 := fmod_hi (a := s * 1181783497276652981 + 12345678910987) (b := 2305843009213693951) (by decide)
    have r0 := fmod_lo (a := (s * 1181783497276652981 + 12345678910987).fmod 2305843009213693951) (b := 65537) (by decide)
    have r1 := fmod_hi (a := (s * 1181783497276652981 + 12345678910987).fmod 2305843009213693951) (b := 65537) (by decide)
    refine ⟨mul_r (by decide) (by decide), by decide, div_ok (by decide) (by decide), by decide, mul_r (by omega) (by omega), by decide, div_ok (by decide) (by decide), hm, ?_⟩
    exact h _ _ _ (fmod_lo m0) (fmod_hi m0) ⟨q0, q1⟩
theorem rd__law_pick : ∀ ds M Q, S__law_pick ds M Q → as__law_pick (endsOf Q) (slots N__law_pick.length ds) M := by
  rintro ds M Q ⟨a, g, s, M0, xs, rfl, rfl, ha, hs, x0, x1, h⟩
  show as__law_pick (endsOf Q) [.dat _, .dat _] _
  unfold as__law_pick
  walk_at "gw"
  refine ⟨a, g, s, M0, _, rfl, rfl, ha, hs, by omega, by omega, ?_⟩
  intro d g' s' d0 d1 hs'
  obtain ⟨x, e1, e2⟩ := atI_in (xs := xs) d0 d1
  walk_at "gwx"
  exact h x g' s' (List.mem_of_getElem? e2) hs'
theorem rd__law_hand : ∀ ds M Q, S__law_hand ds M Q → as__law_hand (endsOf Q) (slots N__law_hand.length ds) M := by
  rintro ds M Q ⟨ns, k, rfl, k0, k1, h⟩
  show as__law_hand (endsOf Q) [.dat _, .dat _, .non, .non] _
  have rest : ∀ c : Int, as__law_hand_t1 (endsOf Q) [.dat (.scr (ns.map .int)), .dat (.int k), .dat (.int c), .non] M := by
    intro c
    unfold as__law_hand_t1
    walk_at "gw"
    refine ⟨by unfold CPowW; decide, by unfold CPowW; decide, by decide, by unfold CPowW; decide, mul_r (by (repeat' split) <;> omega) (by (repeat' split) <;> omega), by decide, mul_l (by decide) (by decide), mul_r (by omega) (by omega), mul_r (by decide) (by decide), by decide, by decide, fun p hp => ?_⟩
    exact h _ _ _ hp ⟨fmod_lo (by decide), fmod_hi (by decide)⟩
  unfold as__law_hand
  walk_at "gw"
  refine ⟨mul_l (by decide) (by decide), ?_⟩
  by_cases hk : k < ((ns.map D.int).length : Int)
  · obtain ⟨d, e1, e2⟩ := atI_in (xs := ns.map D.int) k0 hk
    rw [List.getElem?_map, Option.map_eq_some_iff] at e2
    obtain ⟨c, _, rfl⟩ := e2
    simp only [hk, decide_true, if_true, e1]
    exact rest c
  · simp only [hk, decide_false, Bool.false_eq_true, if_false]
    exact rest _

/-! ### the plain law: p and q roots of two -/
theorem sq_le {a b : Int} (h0 : 0 ≤ a) (h : a ≤ b) : a * a ≤ b * b := Int.mul_le_mul h h h0 (by omega)
theorem sq_add (a c : Int) : (a + c) * (a + c) = a * a + 2 * (a * c) + c * c := by rw [Int.add_mul, Int.mul_add, Int.mul_add, Int.mul_comm c a]; omega
theorem sq_lt {a b : Int} (h0 : 0 ≤ a) (h : a < b) : a * a < b * b := by
  have h1 := sq_le (a := a + 1) (b := b) (by omega) (by omega)
  rw [sq_add] at h1
  omega
theorem cross_le {a b c d : Int} (b0 : 0 ≤ b) (d0 : 0 ≤ d) (h1 : a * a ≤ 2 * (b * b)) (h2 : c * c ≤ 2 * (d * d)) : a * c ≤ 2 * (b * d) := by
  apply Decidable.byContradiction
  intro hn
  have bd := Int.mul_nonneg b0 d0
  have h3 := sq_lt (a := 2 * (b * d)) (b := a * c) (by omega) (by omega)
  have e1 : a * c * (a * c) = a * a * (c * c) := by rw [Int.mul_assoc, Int.mul_left_comm c a c, ← Int.mul_assoc]
  have e2 : 2 * (b * d) * (2 * (b * d)) = 2 * (b * b) * (2 * (d * d)) := by
    simp only [Int.mul_comm, Int.mul_left_comm, Int.mul_assoc]
  have c0 : 0 ≤ c * c := by
    rcases Int.le_total 0 c with h | h
    · exact Int.mul_nonneg h h
    · exact Int.mul_nonneg_of_nonpos_of_nonpos h h
  have bb := Int.mul_nonneg b0 b0
  have h4 : a * a * (c * c) ≤ 2 * (b * b) * (2 * (d * d)) := Int.mul_le_mul h1 h2 c0 (by omega)
  omega
theorem cross_ge {a b c d : Int} (a0 : 0 ≤ a) (b0 : 0 ≤ b) (c0 : 0 ≤ c) (d0 : 0 ≤ d) (h1 : 2 * (b * b) ≤ a * a) (h2 : 2 * (d * d) ≤ c * c) : 2 * (b * d) ≤ a * c := by
  apply Decidable.byContradiction
  intro hn
  have ac := Int.mul_nonneg a0 c0
  have h3 := sq_lt (a := a * c) (b := 2 * (b * d)) ac (by omega)
  have e1 : a * c * (a * c) = a * a * (c * c) := by rw [Int.mul_assoc, Int.mul_left_comm c a c, ← Int.mul_assoc]
  have e2 : 2 * (b * d) * (2 * (b * d)) = 2 * (b * b) * (2 * (d * d)) := by
    simp only [Int.mul_comm, Int.mul_left_comm, Int.mul_assoc]
  have bb := Int.mul_nonneg b0 b0
  have dd := Int.mul_nonneg d0 d0
  have aa := Int.mul_nonneg a0 a0
  have h4 : 2 * (b * b) * (2 * (d * d)) ≤ a * a * (c * c) := Int.mul_le_mul h1 h2 (by omega) aa
  omega
theorem s1 {a b c d : Int} (b0 : 0 ≤ b) (d0 : 0 ≤ d) (h1 : a * a ≤ 2 * (b * b)) (h2 : c * c < 2 * (d * d)) : (a + c) * (a + c) < 2 * ((b + d) * (b + d)) := by
  have := cross_le b0 d0 h1 (Int.le_of_lt h2)
  rw [sq_add, sq_add]; omega
theorem s2 {a b c d : Int} (a0 : 0 ≤ a) (b0 : 0 ≤ b) (c0 : 0 ≤ c) (d0 : 0 ≤ d) (h1 : 2 * (b * b) ≤ a * a) (h2 : 2 * (d * d) < c * c) : 2 * ((b + d) * (b + d)) < (a + c) * (a + c) := by
  have := cross_ge a0 b0 c0 d0 h1 (Int.le_of_lt h2)
  rw [sq_add, sq_add]; omega
theorem ev {p x : Int} (h : p * p = 2 * x) : ∃ m, p = 2 * m := by
  refine ⟨p / 2, ?_⟩
  apply Decidable.byContradiction
  intro hn
  have e : p = 2 * (p / 2) + 1 := by omega
  generalize p / 2 = m at e
  subst e
  rw [sq_add] at h
  have : 2 * m * (2 * m) = 2 * (2 * (m * m)) := by simp only [Int.mul_comm, Int.mul_left_comm, Int.mul_assoc]
  omega
theorem irr : ∀ (n : Nat) (p q : Int), q.natAbs ≤ n → p * p = 2 * (q * q) → q = 0
  | 0, p, q, h, _ => by omega
  | n + 1, p, q, h, e => by
    obtain ⟨m, rfl⟩ := ev e
    have e1 : 2 * m * (2 * m) = 2 * (2 * (m * m)) := by simp only [Int.mul_comm, Int.mul_left_comm, Int.mul_assoc]
    have e2 : q * q = 2 * (m * m) := by omega
    obtain ⟨l, rfl⟩ := ev e2
    have e3 : 2 * l * (2 * l) = 2 * (2 * (l * l)) := by simp only [Int.mul_comm, Int.mul_left_comm, Int.mul_assoc]
    have e4 : m * m = 2 * (l * l) := by omega
    by_cases hl : l = 0
    · omega
    · have := irr n m l (by omega) e4; omega
/-- above nought, one of three ways -/
inductive Pz (p q : Int) : Prop
  | both (a : 0 ≤ p) (b : 0 ≤ q) (c : 0 < p ∨ 0 < q)
  | left (a : 0 < p) (b : q < 0) (c : 2 * (q * q) < p * p)
  | right (a : p < 0) (b : 0 < q) (c : p * p < 2 * (q * q))
theorem pos_iff (p q : Int) : Pos p q = true ↔ Pz p q := by
  unfold Pos
  rw [Int.mul_assoc 2 q q]
  constructor
  · intro h
    by_cases h1 : 0 ≤ p ∧ 0 ≤ q
    · rw [if_pos h1, decide_eq_true_eq] at h
      exact .both h1.1 h1.2 h
    rw [if_neg h1] at h
    by_cases h2 : p ≤ 0 ∧ q ≤ 0
    · rw [if_pos h2] at h; cases h
    rw [if_neg h2, beq_iff_eq, decide_eq_decide] at h
    by_cases h3 : 0 < p
    · exact .left h3 (by omega) (h.mpr h3)
    · refine .right (by omega) (by omega) ?_
      have h4 : ¬ 2 * (q * q) < p * p := fun z => h3 (h.mp z)
      have h5 : p * p ≠ 2 * (q * q) := fun z => by have := irr _ p q (Nat.le_refl _) z; omega
      omega
  · rintro (⟨a, b, c⟩ | ⟨a, b, c⟩ | ⟨a, b, c⟩)
    · rw [if_pos ⟨a, b⟩, decide_eq_true_eq]; exact c
    · rw [if_neg (by omega), if_neg (by omega), beq_iff_eq, decide_eq_decide]
      exact ⟨fun _ => a, fun _ => c⟩
    · rw [if_neg (by omega), if_neg (by omega), beq_iff_eq, decide_eq_decide]
      exact ⟨fun z => by omega, fun z => by omega⟩
theorem nsq (q : Int) : -q * -q = q * q := Int.neg_mul_neg q q
theorem pz_add {p q p' q' : Int} (h : Pz p q) (h' : Pz p' q') : Pz (p + p') (q + q') := by
  have mixed : ∀ {p q p' q' : Int}, 0 < p → q < 0 → 2 * (q * q) < p * p → p' < 0 → 0 < q' → p' * p' < 2 * (q' * q') → Pz (p + p') (q + q') := by
    intro p q p' q' a b c a' b' c'
    by_cases s0 : 0 ≤ p + p' <;> by_cases t0 : 0 ≤ q + q'
    · refine .both s0 t0 ?_
      apply Decidable.byContradiction
      intro hn
      have e1 : p' = -p := by omega
      have e2 : q' = -q := by omega
      subst e1; subst e2
      rw [nsq, nsq] at c'
      omega
    · refine Decidable.byCases (p := 0 < p + p') (fun s1' => .left s1' (by omega) ?_) (fun s1' => ?_)
      · apply Decidable.byContradiction
        intro hn
        have := s1 (a := p + p') (b := -(q + q')) (c := -p') (d := q') (by omega) (by omega) (by rw [nsq]; omega) (by rw [nsq]; exact c')
        rw [show p + p' + -p' = p by omega, show -(q + q') + q' = -q by omega, nsq] at this
        omega
      · exfalso
        have h1 := sq_le (a := p) (b := -p') (by omega) (by omega)
        have h2 := sq_le (a := q') (b := -q) (by omega) (by omega)
        rw [nsq] at h1 h2
        omega
    · refine Decidable.byCases (p := 0 < q + q') (fun t1' => .right (by omega) t1' ?_) (fun t1' => ?_)
      · apply Decidable.byContradiction
        intro hn
        have := s2 (a := -(p + p')) (b := q + q') (c := p) (d := -q) (by omega) (by omega) (by omega) (by omega) (by rw [nsq]; omega) (by rw [nsq]; exact c)
        rw [show -(p + p') + p = -p' by omega, show q + q' + -q = q' by omega, nsq] at this
        omega
      · exfalso
        have h1 := sq_le (a := p) (b := -p') (by omega) (by omega)
        have h2 := sq_le (a := q') (b := -q) (by omega) (by omega)
        rw [nsq] at h1 h2
        omega
    · exfalso
      have h1 := sq_le (a := p) (b := -p') (by omega) (by omega)
      have h2 := sq_le (a := q') (b := -q) (by omega) (by omega)
      rw [nsq] at h1 h2
      omega
  have one : ∀ {p q p' q' : Int}, 0 ≤ p → 0 ≤ q → (0 < p ∨ 0 < q) → Pz p' q' → Pz (p + p') (q + q') := by
    intro p q p' q' a b c h'
    rcases h' with ⟨a', b', c'⟩ | ⟨a', b', c'⟩ | ⟨a', b', c'⟩
    · exact .both (by omega) (by omega) (by omega)
    · by_cases t0 : 0 ≤ q + q'
      · exact .both (by omega) t0 (by omega)
      · refine .left (by omega) (by omega) ?_
        have h1 := sq_le (a := p') (b := p + p') (by omega) (by omega)
        have h2 := sq_le (a := -(q + q')) (b := -q') (by omega) (by omega)
        rw [nsq, nsq] at h2
        omega
    · by_cases s0 : 0 ≤ p + p'
      · exact .both s0 (by omega) (by omega)
      · refine .right (by omega) (by omega) ?_
        have h1 := sq_le (a := q') (b := q + q') (by omega) (by omega)
        have h2 := sq_le (a := -(p + p')) (b := -p') (by omega) (by omega)
        rw [nsq, nsq] at h2
        omega
  rcases h with ⟨a, b, c⟩ | ⟨a, b, c⟩ | ⟨a, b, c⟩
  · exact one a b c h'
  · rcases h' with ⟨a', b', c'⟩ | ⟨a', b', c'⟩ | ⟨a', b', c'⟩
    · rw [Int.add_comm p, Int.add_comm q]; exact one a' b' c' (.left a b c)
    · refine .left (by omega) (by omega) ?_
      have := s2 (a := p) (b := -q) (c := p') (d := -q') (by omega) (by omega) (by omega) (by omega) (by rw [nsq]; omega) (by rw [nsq]; exact c')
      rw [show -q + -q' = -(q + q') by omega, nsq] at this
      exact this
    · exact mixed a b c a' b' c'
  · rcases h' with ⟨a', b', c'⟩ | ⟨a', b', c'⟩ | ⟨a', b', c'⟩
    · rw [Int.add_comm p, Int.add_comm q]; exact one a' b' c' (.right a b c)
    · rw [Int.add_comm p, Int.add_comm q]; exact mixed a' b' c' a b c
    · refine .right (by omega) (by omega) ?_
      have := s1 (a := -p) (b := q) (c := -p') (d := q') (by omega) (by omega) (by rw [nsq]; omega) (by rw [nsq]; exact c')
      rw [show -p + -p' = -(p + p') by omega, nsq] at this
      exact this
theorem pos_scale (p q : Int) {c : Int} (h : 0 < c) : Pos (p * c) (q * c) = Pos p q := by
  have f1 : ∀ x : Int, (0 ≤ x * c) = (0 ≤ x) := fun x => propext ⟨fun z => by apply Decidable.byContradiction; intro n; have := Int.mul_neg_of_neg_of_pos (a := x) (b := c) (by omega) h; omega, fun z => Int.mul_nonneg z (by omega)⟩
  have f2 : ∀ x : Int, (0 < x * c) = (0 < x) := fun x => propext ⟨fun z => by apply Decidable.byContradiction; intro n; have := Int.mul_nonneg (a := -x) (b := c) (by omega) (by omega); rw [Int.neg_mul] at this; omega, fun z => Int.mul_pos z h⟩
  have f3 : ∀ x : Int, (x * c ≤ 0) = (x ≤ 0) := fun x => propext ⟨fun z => by apply Decidable.byContradiction; intro n; have := Int.mul_pos (a := x) (b := c) (by omega) h; omega, fun z => by have := Int.mul_nonneg (a := -x) (b := c) (by omega) (by omega); rw [Int.neg_mul] at this; omega⟩
  have f4 : (2 * (q * c) * (q * c) < p * c * (p * c)) = (2 * q * q < p * p) := by
    rw [show 2 * (q * c) * (q * c) = 2 * q * q * (c * c) by simp only [Int.mul_comm, Int.mul_left_comm, Int.mul_assoc], show p * c * (p * c) = p * p * (c * c) by simp only [Int.mul_comm, Int.mul_left_comm, Int.mul_assoc]]
    have cc := Int.mul_pos h h
    refine propext ⟨fun z => Int.lt_of_mul_lt_mul_right z (by omega), fun z => Int.mul_lt_mul_of_pos_right z cc⟩
  unfold Pos
  simp only [f1, f2, f3, f4]
/-! ### powers of two, roots of two -/
theorem pw_pos (z : Int) : 0 < pw z := by unfold pw; exact Int.pow_pos (by decide)
theorem pw_zero : pw 0 = 1 := rfl
theorem pw_succ {z : Int} (h : 0 ≤ z) : pw (z + 1) = pw z * 2 := by
  unfold pw; rw [show (z + 1).toNat = z.toNat + 1 by omega, Int.pow_succ]
theorem pw_add {a b : Int} (ha : 0 ≤ a) (hb : 0 ≤ b) : pw (a + b) = pw a * pw b := by
  unfold pw; rw [Int.toNat_add ha hb, Int.pow_add]
theorem pw_le {a : Int} (ha : a ≤ 61) : pw a ≤ 2 ^ 61 := by
  unfold pw
  have h : a.toNat ≤ 61 := by omega
  have := Nat.pow_le_pow_right (n := 2) (by decide) h
  exact_mod_cast this
theorem rd_twos : ∀ ds M Q, S_twos ds M Q → as_twos (endsOf Q) (slots N_twos.length ds) M := by
  rintro ds M Q ⟨n, rfl, n0, n1, h⟩
  show as_twos (endsOf Q) [.dat _, .non, .non] _
  unfold as_twos
  walk_at "gw"
  refine ⟨⟨by omega, by omega⟩, ?_⟩
  refine forR (fun i m Γ M' => ∃ s2 : Slot, 0 ≤ i ∧ i + m = n ∧ M' = M ∧ Γ = [.dat (.int n), .dat (.int (pw i)), s2]) ?_ ?_ _ ⟨_, by decide, by omega, rfl, rfl⟩
  · rintro i Γ M' ⟨s2, i0, i1, rfl, rfl⟩
    simp only [as_twos_t1]
    walk_at "gw"
    rw [show n = i by omega] at h
    exact h
  · rintro i m Γ M' K ⟨s2, i0, i1, rfl, rfl⟩ hK
    unfold as_twos_b1
    walk_at "gw"
    exact ⟨.inr ⟨by decide, by decide⟩, hK _ _ ⟨_, by omega, by omega, rfl, by rw [pw_succ i0]⟩⟩
theorem rd_lowest_share : ∀ ds M Q, S_lowest_share ds M Q → as_lowest_share (endsOf Q) (slots N_lowest_share.length ds) M := by
  rintro ds M Q ⟨p, q, k, rfl, k0, h⟩
  show as_lowest_share (endsOf Q) [.dat _, .dat _, .dat _] _
  unfold as_lowest_share
  simp only [aSeq]
  refine ⟨fun n Γ M' => ∃ p' q' k' : Int, 0 ≤ k' ∧ k' ≤ k ∧ p = p' * pw (k - k') ∧ q = q' * pw (k - k') ∧ k'.toNat = n ∧ Γ = [.dat (.int p'), .dat (.int q'), .dat (.int k')] ∧ M' = M, ⟨_, p, q, k, k0, by omega, by rw [Int.sub_self, pw_zero]; omega, by rw [Int.sub_self, pw_zero]; omega, rfl, rfl, rfl⟩, ?_⟩
  rintro n Γ M' ⟨p', q', k', k0', k1', hp, hq, rfl, rfl, rfl⟩
  have fin : as_lowest_share_t1 (endsOf Q) [.dat (.int p'), .dat (.int q'), .dat (.int k')] M' := by
    unfold as_lowest_share_t1
    walk_at "gw"
    exact ⟨by decide, h _ _ _ k0' k1' hp hq⟩
  unfold as_lowest_share_c1
  walk_at "gw"
  by_cases hk : 0 < k'
  · simp only [hk, decide_true, if_true]
    refine ⟨by decide, ?_⟩
    by_cases e1 : p'.fmod 2 = 0
    · simp only [e1, decide_true, if_true]
      refine ⟨by decide, ?_⟩
      by_cases e2 : q'.fmod 2 = 0
      · simp only [e2, decide_true, if_true]
        unfold as_lowest_share_b1
        walk_at "gw"
        refine ⟨div_ok (by decide) (by decide), div_ok (by decide) (by decide), _, (by omega : (k' - 1).toNat < k'.toNat), _, _, _, by omega, by omega, ?_, ?_, rfl, rfl⟩
        · rw [show k - (k' - 1) = k - k' + 1 by omega, pw_succ (by omega), hp]
          have : p' = p' / 2 * 2 := by rw [Int.fmod_eq_emod_of_nonneg _ (by decide)] at e1; omega
          rw [Int.mul_comm (pw _) 2, ← Int.mul_assoc, ← this]
        · rw [show k - (k' - 1) = k - k' + 1 by omega, pw_succ (by omega), hq]
          have : q' = q' / 2 * 2 := by rw [Int.fmod_eq_emod_of_nonneg _ (by decide)] at e2; omega
          rw [Int.mul_comm (pw _) 2, ← Int.mul_assoc, ← this]
      · simp only [e2, decide_false, Bool.false_eq_true, if_false]; exact fin
    · simp only [e1, decide_false, Bool.false_eq_true, if_false]; exact fin
  · simp only [hk, decide_false, Bool.false_eq_true, if_false]; exact fin
theorem rd__law_least : ∀ ds M Q, S__law_least ds M Q → as__law_least (endsOf Q) (slots N__law_least.length ds) M := rd_lowest_share
theorem rd__law_great : ∀ ds M Q, S__law_great ds M Q → as__law_great (endsOf Q) (slots N__law_great.length ds) M := by
  rintro ds M Q ⟨a, g, s, M0, rfl, rfl, ha, hs, h⟩
  show as__law_great (endsOf Q) [.dat _] _
  unfold as__law_great
  walk_at "gw"
  refine ⟨a, g, s, M0, _, rfl, rfl, ha, hs, by decide, by decide, ?_⟩
  intro d1 g1 s1 d10 d11 hs1
  walk_at "gw"
  refine ⟨a, g1, s1, M0, _, rfl, rfl, ha, hs1, by decide, by decide, ?_⟩
  intro d2 g2 s2 d20 d21 hs2
  walk_at "gw"
  refine ⟨by unfold CPowW; decide, a, g2, s2, M0, _, rfl, rfl, ha, hs2, by decide, by decide, ?_⟩
  intro d3 g3 s3 d30 d31 hs3
  rw [pw10] at d31
  walk_at "gw"
  refine ⟨by decide, a, g3, s3, M0, _, rfl, rfl, ha, hs3, by simp, by simp, ?_⟩
  intro d g4 s4 hd hs4
  simp only [List.mem_cons, List.not_mem_nil, or_false] at hd
  rcases hd with e | e | e | e | e | e <;> subst e <;> walk_at "gw" <;> exact h _ _ _ (by omega) (by omega) hs4
theorem rd__law_root : ∀ ds M Q, S__law_root ds M Q → as__law_root (endsOf Q) (slots N__law_root.length ds) M := by
  rintro ds M Q ⟨n, rfl, n0, n1, h⟩
  show as__law_root (endsOf Q) [.dat _, .non, .non, .non] _
  unfold as__law_root
  walk_at "gw"
  refine ⟨fun m Γ M' => ∃ (lo hi : Int) (s3 : Slot), 0 ≤ lo ∧ lo < hi ∧ hi ≤ n + 1 ∧ lo * lo ≤ n ∧ n < hi * hi ∧ (hi - lo).toNat = m ∧ Γ = [.dat (.int n), .dat (.int lo), .dat (.int hi), s3] ∧ M' = M, ⟨_, 0, n + 1, _, by decide, by omega, by omega, by omega, ?_, rfl, rfl, rfl⟩, ?_⟩
  · rw [Int.add_mul, Int.mul_add]
    have := Int.mul_nonneg n0 n0
    omega
  rintro m Γ M' ⟨lo, hi, s3, l0, l1, h1, e1, e2, rfl, rfl, rfl⟩
  unfold as__law_root_c1
  walk_at "gw"
  by_cases hb : 1 < hi - lo
  · simp only [hb, decide_true, if_true]
    unfold as__law_root_b1
    walk_at "gw"
    have hh0 : lo < (lo + hi) / 2 := by omega
    have hh1 : (lo + hi) / 2 < hi := by omega
    refine ⟨div_ok (by decide) (by decide), mul_w (by omega) (by omega), ?_⟩
    generalize (lo + hi) / 2 = half at hh0 hh1 ⊢
    by_cases hc : half * half ≤ n
    · simp only [hc, decide_true, if_true]
      exact ⟨by decide, _, (by omega : (hi - half).toNat < (hi - lo).toNat), half, hi, _, by omega, by omega, by omega, hc, e2, rfl, rfl⟩
    · simp only [hc, decide_false, Bool.false_eq_true, if_false]
      exact ⟨by decide, _, (by omega : (half - lo).toNat < (hi - lo).toNat), lo, half, _, by omega, by omega, by omega, e1, by omega, rfl, rfl⟩
  · simp only [hb, decide_false, Bool.false_eq_true, if_false]
    unfold as__law_root_t1
    walk_at "gw"
    have : hi = lo + 1 := by omega
    subst this
    exact h _ l0 e1 e2
theorem rd__law_near : ∀ ds M Q, S__law_near ds M Q → as__law_near (endsOf Q) (slots N__law_near.length ds) M := by
  rintro ds M Q ⟨a, g, s, M0, rfl, rfl, ha, hs, h⟩
  show as__law_near (endsOf Q) [.dat _, .non, .non, .non] _
  unfold as__law_near
  walk_at "gw"
  refine ⟨by decide, a, g, s, M0, _, rfl, rfl, ha, hs, by decide, by decide, ?_⟩
  intro m g1 s1 m0 m1 hs1
  walk_at "gw"
  refine ⟨⟨by omega, by omega⟩, ?_⟩
  refine forR (fun i n Γ M' => ∃ (x y : Int) (s3 : Slot), 0 ≤ i ∧ i + n ≤ 40 ∧ 0 < x ∧ 0 < y ∧ x ≤ pw (2 * i) ∧ y ≤ pw (2 * i) ∧ M' = HM a g1 s1 M0 ∧ Γ = [.dat (.ref a), .dat (.int x), .dat (.int y), s3]) ?_ ?_ _ ⟨1, 1, _, by decide, by omega, by decide, by decide, by decide, by decide, rfl, rfl⟩
  · rintro i Γ M' ⟨x, y, s3, i0, i1, x0, y0, x1, y1, rfl, rfl⟩
    simp only [as__law_near_t1]
    walk_at "gw"
    have : pw (2 * i) ≤ 2 ^ 80 := by
      unfold pw
      have h : (2 * i).toNat ≤ 80 := by omega
      have := Nat.pow_le_pow_right (n := 2) (by decide) h
      exact_mod_cast this
    exact ⟨by decide, h _ _ _ _ x0 y0 (by omega) (by omega) hs1⟩
  · rintro i n Γ M' K ⟨x, y, s3, i0, i1, x0, y0, x1, y1, rfl, rfl⟩ hK
    unfold as__law_near_b1
    walk_at "gw"
    have e : pw (2 * (i + 1)) = pw (2 * i) * 4 := by
      rw [show 2 * (i + 1) = 2 * i + 1 + 1 by omega, pw_succ (by omega), pw_succ (by omega)]; omega
    exact ⟨mul_l (by decide) (by decide), hK _ _ ⟨_, _, _, by omega, by omega, by omega, by omega, by omega, by omega, rfl, rfl⟩⟩
theorem rd_is_above_nought : ∀ ds M Q, S_is_above_nought ds M Q → as_is_above_nought (endsOf Q) (slots N_is_above_nought.length ds) M := by
  rintro ds M Q ⟨p, q, rfl, hp, hq, h⟩
  show as_is_above_nought (endsOf Q) [.dat _, .dat _] _
  unfold as_is_above_nought
  walk_at "gw"
  unfold as_is_above_nought_t2 as_is_above_nought_t1
  walk_at "gw"
  have g1 : CM p p := mul_w (by omega) (by omega)
  have g2 : CM 2 q := mul_l (by decide) (by decide)
  have g3 : CM (2 * q) q := mul_w (by omega) (by omega)
  have g4 : ∀ b : Bool, cmpOk (.bl b) = true := fun b => cmp_of (by simp [safe]) (by simp [dep])
  have g5 : ∀ a b : Bool, eqD (.bl a) (.bl b) = (a == b) := fun a b => by cases a <;> cases b <;> rfl
  simp only [g1, g2, g3, g4, g5, true_and]
  by_cases p0 : 0 ≤ p <;> by_cases q0 : 0 ≤ q <;> by_cases p1 : p ≤ 0 <;> by_cases q1 : q ≤ 0 <;> by_cases p2 : 0 < p <;> by_cases q2 : 0 < q <;> (try omega) <;>
    simp only [Pos, p0, q0, p1, q1, p2, q2, decide_true, decide_false, if_true, if_false, Bool.false_eq_true, and_self, and_true, and_false, true_and, false_and, or_true, or_false, true_or, false_or, or_self] at h ⊢ <;> exact h
theorem st_step {A : AEnds} {p q k x y o : Int} {s0 s7 : Slot} {M : Mem} (k0 : 0 ≤ k) (k1 : k ≤ 61) (o0 : 0 ≤ o) (o1 : o ≤ 61)
    (h : A.nx [s0, .dat (.int (p * pw (mx k o - k) + x * pw (mx k o - o))), .dat (.int (q * pw (mx k o - k) + y * pw (mx k o - o))), .dat (.int (mx k o)), .dat (.int x), .dat (.int y), .dat (.int o), .dat (.int (mx k o))] M) :
    as_shares_together_b1 A [s0, .dat (.int p), .dat (.int q), .dat (.int k), .dat (.int x), .dat (.int y), .dat (.int o), s7] M := by
  unfold as_shares_together_b1
  have m0 : 0 ≤ mx k o - k ∧ 0 ≤ mx k o - o ∧ mx k o ≤ 61 := by unfold mx; refine ⟨?_, ?_, ?_⟩ <;> split <;> omega
  have c1 := pw_pos (mx k o - k)
  have c2 := pw_le (a := mx k o - k) (by omega)
  have c3 := pw_pos (mx k o - o)
  have c4 := pw_le (a := mx k o - o) (by omega)
  simp only [mx] at m0 c1 c2 c3 c4 h
  walk_at "gw"
  refine ⟨_, rfl, by omega, by omega, ?_⟩
  walk_at "gw"
  refine ⟨mul_r (by omega) (by omega), _, rfl, by omega, by omega, ?_⟩
  walk_at "gw"
  refine ⟨mul_r (by omega) (by omega), _, rfl, by omega, by omega, ?_⟩
  walk_at "gw"
  refine ⟨mul_r (by omega) (by omega), _, rfl, by omega, by omega, ?_⟩
  walk_at "gw"
  exact ⟨mul_r (by omega) (by omega), h⟩
theorem rd_shares_together : ∀ ds M Q, S_shares_together ds M Q → as_shares_together (endsOf Q) (slots N_shares_together.length ds) M := by
  rintro ds M Q ⟨a, b, rfl, a0, a1, b0, b1, h⟩
  show as_shares_together (endsOf Q) [.dat _, .non, .non, .non, .non, .non, .non, .non] _
  unfold as_shares_together
  simp only [Sh.d]
  walk_at "gw"
  simp only [forW, aForL]
  walk_at "gw"
  refine st_step (by decide) (by decide) a0 a1 ?_
  have em : mx 0 a.k = a.k := by unfold mx; split <;> omega
  have m0 : 0 ≤ mx a.k b.k := by unfold mx; split <;> omega
  rw [em]
  walk_at "gw"
  refine st_step a0 a1 b0 b1 ?_
  unfold as_shares_together_t1
  walk_at "gw"
  refine ⟨_, _, _, rfl, m0, ?_⟩
  intro p' q' k' k0' k1' hp hq
  walk_at "gw"
  refine h p' q' k' (mx a.k b.k - k') (by omega) ?_ ?_
  · rw [← hp]; simp [pw_zero]
  · rw [← hq]; simp [pw_zero]
/-! ### less -/
theorem mx_comm (i j : Int) : mx i j = mx j i := by unfold mx; (repeat' split) <;> omega
theorem mx_ge (i j : Int) : i ≤ mx i j ∧ j ≤ mx i j ∧ (mx i j = i ∨ mx i j = j) := by unfold mx; refine ⟨?_, ?_, ?_⟩ <;> split <;> omega
theorem abs_le {p p' c : Int} (h : p = p' * c) (hc : 0 < c) : p'.natAbs ≤ p.natAbs := by
  rw [h, Int.natAbs_mul]
  have : 0 < c.natAbs := by omega
  exact Nat.le_mul_of_pos_right _ this
theorem sc_abs {p c : Int} {b : Nat} (h0 : p.natAbs ≤ 2 ^ b) (h1 : c ≤ 2 ^ 61) (h2 : 0 < c) : (p * c).natAbs ≤ 2 ^ b * 2 ^ 61 := by
  rw [Int.natAbs_mul]
  exact Nat.mul_le_mul h0 (by omega)
theorem Sh.Ok.ap {t : Sh} {b : Nat} (h : t.Ok b) : t.p.natAbs ≤ 2 ^ b := by
  have h1 := h.p0; have h2 := h.p1
  have e : ((2 ^ b : Nat) : Int) = (2 : Int) ^ b := by push_cast; rfl
  omega
theorem Sh.Ok.aq {t : Sh} {b : Nat} (h : t.Ok b) : t.q.natAbs ≤ 2 ^ b := by
  have h1 := h.q0; have h2 := h.q1
  have e : ((2 ^ b : Nat) : Int) = (2 : Int) ^ b := by push_cast; rfl
  omega
theorem rd_is_less : ∀ ds M Q, S_is_less ds M Q → as_is_less (endsOf Q) (slots N_is_less.length ds) M := by
  rintro ds M Q ⟨a, b, rfl, ha, hb, h⟩
  show as_is_less (endsOf Q) [.dat _, .dat _, .non, .non, .non] _
  unfold as_is_less
  simp only [Sh.d]
  walk_at "gw"
  refine ⟨by decide, by decide, b, ⟨-a.p, -a.q, a.k⟩, rfl, hb.k0, hb.k1, ha.k0, ha.k1, ?_⟩
  intro p' q' k' e e0 hp hq
  walk_at "gw"
  simp only at hp hq
  obtain ⟨g1, g2, g3⟩ := mx_ge b.k a.k
  have a0 := ha.k0; have a1 := ha.k1; have b0 := hb.k0; have b1 := hb.k1
  have u1 := sc_abs (p := b.p) (c := pw (mx b.k a.k - b.k)) hb.ap (pw_le (by omega)) (pw_pos _)
  have u2 := sc_abs (p := -a.p) (c := pw (mx b.k a.k - a.k)) (b := 200) (by rw [Int.natAbs_neg]; exact ha.ap) (pw_le (by omega)) (pw_pos _)
  have u3 := sc_abs (p := b.q) (c := pw (mx b.k a.k - b.k)) hb.aq (pw_le (by omega)) (pw_pos _)
  have u4 := sc_abs (p := -a.q) (c := pw (mx b.k a.k - a.k)) (b := 200) (by rw [Int.natAbs_neg]; exact ha.aq) (pw_le (by omega)) (pw_pos _)
  have v1 := abs_le hp (pw_pos e)
  have v2 := abs_le hq (pw_pos e)
  refine ⟨p', q', rfl, by omega, by omega, ?_⟩
  have : Pos p' q' = Less a b := by
    rw [← pos_scale p' q' (pw_pos e), ← hp, ← hq, mx_comm b.k a.k, Int.neg_mul, Int.neg_mul]
    rfl
  rw [this]
  exact h
theorem root_less {p q r : Int} (hq : q ≠ 0) (r0 : 0 ≤ r) (h1 : r * r ≤ 2 * q * q) (h2 : 2 * q * q < (r + 1) * (r + 1)) :
    (if 0 < q then decide (p + r < 0) else decide (p - r - 1 < 0)) = Pos (-p) (-q) := by
  unfold Pos
  rw [show 2 * -q * -q = 2 * q * q by rw [Int.mul_assoc, nsq, Int.mul_assoc], nsq]
  by_cases q0 : 0 < q
  · rw [if_pos q0, if_neg (by omega)]
    by_cases p0 : -p ≤ 0
    · rw [if_pos ⟨p0, by omega⟩, decide_eq_false_iff_not]; omega
    · rw [if_neg (fun z => p0 z.1), show decide (0 < -p) = true from decide_eq_true (by omega)]
      by_cases c : p + r < 0
      · have := sq_le (a := r + 1) (b := -p) (by omega) (by omega)
        rw [nsq] at this
        rw [decide_eq_true c, decide_eq_true (by omega : 2 * q * q < p * p)]; rfl
      · have := sq_le (a := -p) (b := r) (by omega) (by omega)
        rw [nsq] at this
        rw [decide_eq_false c, decide_eq_false (by omega : ¬ 2 * q * q < p * p)]; rfl
  · rw [if_neg q0]
    by_cases p0 : 0 ≤ -p
    · rw [if_pos ⟨p0, by omega⟩, decide_eq_true (by omega : p - r - 1 < 0), decide_eq_true (by omega : 0 < -p ∨ 0 < -q)]
    · rw [if_neg (by omega), if_neg (by omega), show decide (0 < -p) = false from decide_eq_false (by omega)]
      by_cases c : p - r - 1 < 0
      · have := sq_le (a := p) (b := r) (by omega) (by omega)
        rw [decide_eq_true c, decide_eq_false (by omega : ¬ 2 * q * q < p * p)]; rfl
      · have := sq_le (a := r + 1) (b := p) (by omega) (by omega)
        rw [decide_eq_false c, decide_eq_true (by omega : 2 * q * q < p * p)]; rfl
theorem dbl_loop {A : AEnds} {s0 s1 s3 s4 s7 s8 s9 s10 : Slot} {m x y : Int} {M : Mem} (n : Nat)
    (h : ∀ s9, A.nx [s0, s1, .dat (.int m), s3, s4, .dat (.int (x * 2 ^ n)), .dat (.int (y * 2 ^ n)), s7, s8, s9, s10] M) :
    aForL (agN 9) as__law_is_less_b1 (rngD 0 n) A [s0, s1, .dat (.int m), s3, s4, .dat (.int x), .dat (.int y), s7, s8, s9, s10] M := by
  refine forR (fun i k Γ M' => ∃ (j : Nat) (s9 : Slot), j + k = n ∧ M' = M ∧ Γ = [s0, s1, .dat (.int m), s3, s4, .dat (.int (x * 2 ^ j)), .dat (.int (y * 2 ^ j)), s7, s8, s9, s10]) ?_ ?_ _ ⟨0, s9, by omega, rfl, by simp⟩
  · rintro i Γ M' ⟨j, s9, e, rfl, rfl⟩
    have : j = n := by omega
    subst this
    exact h s9
  · rintro i k Γ M' K ⟨j, s9, e, rfl, rfl⟩ hK
    unfold as__law_is_less_b1
    walk_at "gw"
    refine ⟨mul_l (by decide) (by decide), mul_l (by decide) (by decide), hK _ _ ⟨j + 1, .dat (.int i), by omega, rfl, ?_⟩⟩
    have e : ∀ x : Int, 2 * (x * 2 ^ j) = x * 2 ^ (j + 1) := fun x => by rw [Int.pow_succ, Int.mul_left_comm, Int.mul_comm 2]
    rw [e, e]
theorem il_step {A : AEnds} {s0 s1 s9 s10 : Slot} {m x y o sg P R : Int} {M : Mem} (h0 : 0 ≤ m - o) (h1 : m - o ≤ 61) (g0 : -1 ≤ sg) (g1 : sg ≤ 1)
    (h : ∀ s5 s6 s9, A.nx [s0, s1, .dat (.int m), .dat (.int (P + sg * (x * pw (m - o)))), .dat (.int (R + sg * (y * pw (m - o)))), s5, s6, .dat (.int o), .dat (.int sg), s9, s10] M) :
    as__law_is_less_b2 A [s0, s1, .dat (.int m), .dat (.int P), .dat (.int R), .dat (.int x), .dat (.int y), .dat (.int o), .dat (.int sg), s9, s10] M := by
  unfold as__law_is_less_b2
  walk_at "gw"
  refine ⟨⟨by omega, by omega⟩, ?_⟩
  refine dbl_loop _ fun s9 => ?_
  simp only [as__law_is_less_t1]
  walk_at "gw"
  exact ⟨mul_l (by omega) (by omega), mul_l (by omega) (by omega), h _ _ _⟩
theorem rd__law_is_less : ∀ ds M Q, S__law_is_less ds M Q → as__law_is_less (endsOf Q) (slots N__law_is_less.length ds) M := by
  rintro ds M Q ⟨a, b, rfl, ha, hb, h⟩
  show as__law_is_less (endsOf Q) [.dat _, .dat _, .non, .non, .non, .non, .non, .non, .non, .non, .non] _
  unfold as__law_is_less
  simp only [Sh.d]
  walk_at "gw"
  simp only [forW, aForL]
  walk_at "gw"
  obtain ⟨g1, g2, g3⟩ := mx_ge a.k b.k
  have a0 := ha.k0; have a1 := ha.k1; have b0 := hb.k0; have b1 := hb.k1
  rw [show (if b.k > a.k then b.k else a.k) = mx a.k b.k from rfl]
  refine ⟨by decide, by decide, by decide, by decide, ?_⟩
  refine il_step (by omega) (by omega) (by decide) (by decide) fun s5 s6 s9 => ?_
  walk_at "gw"
  refine il_step (by omega) (by omega) (by decide) (by decide) fun s5 s6 s9 => ?_
  have u1 := sc_abs (p := b.p) (c := pw (mx a.k b.k - b.k)) hb.ap (pw_le (by omega)) (pw_pos _)
  have u2 := sc_abs (p := a.p) (c := pw (mx a.k b.k - a.k)) ha.ap (pw_le (by omega)) (pw_pos _)
  have u3 := sc_abs (p := b.q) (c := pw (mx a.k b.k - b.k)) hb.aq (pw_le (by omega)) (pw_pos _)
  have u4 := sc_abs (p := a.q) (c := pw (mx a.k b.k - a.k)) ha.aq (pw_le (by omega)) (pw_pos _)
  have hl : Less a b = Pos (b.p * pw (mx a.k b.k - b.k) - a.p * pw (mx a.k b.k - a.k)) (b.q * pw (mx a.k b.k - b.k) - a.q * pw (mx a.k b.k - a.k)) := rfl
  generalize b.p * pw (mx a.k b.k - b.k) = B at *
  generalize a.p * pw (mx a.k b.k - a.k) = C at *
  generalize b.q * pw (mx a.k b.k - b.k) = B2 at *
  generalize a.q * pw (mx a.k b.k - a.k) = C2 at *
  rw [show 0 + 1 * C + -1 * B = C - B by omega, show 0 + 1 * C2 + -1 * B2 = C2 - B2 by omega]
  rw [show B - C = -(C - B) by omega, show B2 - C2 = -(C2 - B2) by omega] at hl
  have v1 : (C - B).natAbs < 2 ^ 300 := by omega
  have v2 : (C2 - B2).natAbs < 2 ^ 300 := by omega
  generalize C - B = P at *
  generalize C2 - B2 = R at *
  simp only [as__law_is_less_t3]
  walk_at "gw"
  by_cases r0 : R = 0
  · subst r0
    simp only [decide_true, if_true]
    rw [show decide (P < 0) = Less a b from by
      rw [hl]; unfold Pos
      by_cases c : P < 0
      · rw [if_pos (by omega), decide_eq_true c, decide_eq_true (by omega)]
      · by_cases c2 : P = 0
        · subst c2; rfl
        · rw [if_neg (by omega), if_pos (by omega), decide_eq_false c]]
    exact h
  simp only [r0, decide_false, Bool.false_eq_true, if_false]
  unfold as__law_is_less_t2
  walk_at "gw"
  have rr : 0 ≤ R * R := by
    rcases Int.le_total 0 R with h | h
    · exact Int.mul_nonneg h h
    · exact Int.mul_nonneg_of_nonpos_of_nonpos h h
  have rr2 : R * R < 2 ^ 600 := by
    have e : R * R = ((R.natAbs * R.natAbs : Nat) : Int) := (Int.natAbs_mul_self' R).symm ▸ by push_cast; rfl
    have h3 : R.natAbs * R.natAbs < 2 ^ 300 * 2 ^ 300 := Nat.mul_lt_mul'' v2 v2
    omega
  have e2 : 2 * R * R = 2 * (R * R) := Int.mul_assoc _ _ _
  refine ⟨mul_l (by decide) (by decide), mul_w (by omega) (by omega), _, rfl, by omega, by omega, ?_⟩
  intro r r0' q1 q2
  walk_at "gw"
  have fin := root_less (p := P) r0 r0' q1 q2
  rw [← hl] at fin
  by_cases c : 0 < R
  · rw [if_pos c] at fin
    simp only [c, decide_true, if_true, fin]
    exact h
  · rw [if_neg c] at fin
    simp only [c, decide_false, Bool.false_eq_true, if_false, fin]
    exact h
theorem least_ok {p q k p' q' k' : Int} {b : Nat} (hk : k ≤ 61) (h0 : 0 ≤ k') (h1 : k' ≤ k) (hp : p = p' * pw (k - k')) (hq : q = q' * pw (k - k')) (p0 : p.natAbs ≤ 2 ^ b) (q0 : q.natAbs ≤ 2 ^ b) : Sh.Ok ⟨p', q', k'⟩ b := by
  have v1 := abs_le hp (pw_pos _)
  have v2 := abs_le hq (pw_pos _)
  have e : ((2 ^ b : Nat) : Int) = (2 : Int) ^ b := by push_cast; rfl
  refine ⟨?_, ?_, ?_, ?_, h0, by simp only; omega⟩ <;> simp only <;> omega
theorem rd__law_pair : ∀ ds M Q, S__law_pair ds M Q → as__law_pair (endsOf Q) (slots N__law_pair.length ds) M := by
  rintro ds M Q ⟨a, g, s, M0, rfl, rfl, ha, hs, h⟩
  show as__law_pair (endsOf Q) [.dat _, .non, .non, .non, .non, .non] _
  unfold as__law_pair
  walk_at "gw"
  refine ⟨a, g, s, M0, _, rfl, rfl, ha, hs, by decide, by decide, ?_⟩
  intro way g1 s1 w0 w1 hs1
  walk_at "gw"
  refine ⟨a, g1, s1, M0, _, rfl, rfl, ha, hs1, by decide, by decide, ?_⟩
  intro n9 g2 s2 n0 n1 hs2
  walk_at "gw"
  refine ⟨by decide, a, g2, s2, M0, _, rfl, rfl, ha, hs2, by simp, by simp, ?_⟩
  intro kd g3 s3 hk hs3
  obtain ⟨k, rfl, k0, k1⟩ : ∃ k : Int, kd = .int k ∧ 0 ≤ k ∧ k ≤ 60 := by
    simp only [List.mem_cons, List.not_mem_nil, or_false] at hk
    rcases hk with e | e | e | e | e <;> exact ⟨_, e, by omega, by omega⟩
  walk_at "gw"
  refine ⟨a, g3, s3, M0, rfl, rfl, ha, hs3, ?_⟩
  intro z1 g4 s4 z10 z11 hs4
  walk_at "gw"
  refine ⟨a, g4, s4, M0, rfl, rfl, ha, hs4, ?_⟩
  intro z2 g5 s5 z20 z21 hs5
  walk_at "gw"
  refine ⟨_, _, _, rfl, k0, ?_⟩
  intro p q k' k0' k1' hp hq
  have lo : Sh.Ok ⟨p, q, k'⟩ 140 := least_ok (by omega) k0' k1' hp hq (by omega) (by omega)
  walk_at "gw"
  have l1 := lo.ap; have l2 := lo.aq
  simp only at l1 l2
  have lo2 : Sh.Ok ⟨p, q, k'⟩ 200 := ⟨by simp only; omega, by simp only; omega, by simp only; omega, by simp only; omega, k0', by simp only; omega⟩
  have fin : ∀ (x y : Sh) (g' s' : Int), x.Ok 200 → y.Ok 200 → HOk g' s' → Q (.dat (.tup [.tup [.int x.p, .int x.q, .int x.k], .tup [.int y.p, .int y.q, .int y.k]])) (HM a g' s' M0) := h
  by_cases w0 : way = 0
  · simp only [w0, decide_true, if_true]
    exact ⟨by decide, fin ⟨p, q, k'⟩ ⟨p, q, k'⟩ _ _ lo2 lo2 hs5⟩
  simp only [w0, decide_false, Bool.false_eq_true, if_false]
  unfold as__law_pair_t5
  walk_at "gw"
  by_cases w1 : way = 1
  · simp only [w1, decide_true, if_true]
    refine ⟨_, _, _, rfl, k0', ?_⟩
    intro p2 q2 k2 k20 k21 hp2 hq2
    walk_at "gw"
    exact ⟨by decide, fin ⟨p, q, k'⟩ ⟨p2, q2, k2⟩ _ _ lo2 (least_ok (by omega) k20 k21 hp2 hq2 (by omega) (by omega)) hs5⟩
  simp only [w1, decide_false, Bool.false_eq_true, if_false]
  unfold as__law_pair_t4
  walk_at "gw"
  by_cases w2 : way = 2
  · simp only [w2, decide_true, if_true]
    refine ⟨a, g5, s5, M0, rfl, rfl, ha, hs5, ?_⟩
    intro x y g6 s6 x0 y0 x1 y1 hs6
    walk_at "gw"
    refine ⟨_, _, _, rfl, k0, ?_⟩
    intro p2 q2 k2 k20 k21 hp2 hq2
    walk_at "gw"
    refine ⟨_, _, _, rfl, k0, ?_⟩
    intro p3 q3 k3 k30 k31 hp3 hq3
    walk_at "gw"
    exact ⟨by decide, fin ⟨p2, q2, k2⟩ ⟨p3, q3, k3⟩ _ _ (least_ok (by omega) k20 k21 hp2 hq2 (by omega) (by omega)) (least_ok (by omega) k30 k31 hp3 hq3 (by omega) (by omega)) hs6⟩
  simp only [w2, decide_false, Bool.false_eq_true, if_false]
  unfold as__law_pair_t3
  walk_at "gw"
  by_cases w3 : way = 3
  · simp only [w3, decide_true, if_true]
    refine ⟨a, g5, s5, M0, rfl, rfl, ha, hs5, ?_⟩
    intro x y g6 s6 x0 y0 x1 y1 hs6
    walk_at "gw"
    refine ⟨_, _, _, rfl, k0', ?_⟩
    intro p2 q2 k2 k20 k21 hp2 hq2
    walk_at "gw"
    refine ⟨_, _, _, rfl, k0', ?_⟩
    intro p3 q3 k3 k30 k31 hp3 hq3
    walk_at "gw"
    exact ⟨by decide, fin ⟨p2, q2, k2⟩ ⟨p3, q3, k3⟩ _ _ (least_ok (by omega) k20 k21 hp2 hq2 (by omega) (by omega)) (least_ok (by omega) k30 k31 hp3 hq3 (by omega) (by omega)) hs6⟩
  simp only [w3, decide_false, Bool.false_eq_true, if_false]
  unfold as__law_pair_t2
  walk_at "gw"
  by_cases w4 : way = 4
  · simp only [w4, decide_true, if_true]
    refine ⟨mul_l (by decide) (by decide), mul_l (by decide) (by decide), _, _, _, rfl, by omega, ?_⟩
    intro p2 q2 k2 k20 k21 hp2 hq2
    walk_at "gw"
    exact ⟨by decide, fin ⟨p, q, k'⟩ ⟨p2, q2, k2⟩ _ _ lo2 (least_ok (by omega) k20 k21 hp2 hq2 (by omega) (by omega)) hs5⟩
  simp only [w4, decide_false, Bool.false_eq_true, if_false]
  unfold as__law_pair_t1
  walk_at "gw"
  refine ⟨a, g5, s5, M0, rfl, rfl, ha, hs5, ?_⟩
  intro z3 g6 s6 z30 z31 hs6
  walk_at "gw"
  refine ⟨a, g6, s6, M0, rfl, rfl, ha, hs6, ?_⟩
  intro z4 g7 s7 z40 z41 hs7
  walk_at "gw"
  refine ⟨a, g7, s7, M0, _, rfl, rfl, ha, hs7, by decide, by decide, ?_⟩
  intro t g8 s8 t0 t1 hs8
  walk_at "gw"
  refine ⟨_, _, _, rfl, t0, ?_⟩
  intro p2 q2 k2 k20 k21 hp2 hq2
  walk_at "gw"
  exact ⟨by decide, fin ⟨p, q, k'⟩ ⟨p2, q2, k2⟩ _ _ lo2 (least_ok (by omega) k20 k21 hp2 hq2 (by omega) (by omega)) hs8⟩
theorem less_at {a b : Sh} {N : Int} (ha : 0 ≤ a.k) (hb : 0 ≤ b.k) (h1 : a.k ≤ N) (h2 : b.k ≤ N) : Less a b = Pos (b.p * pw (N - b.k) - a.p * pw (N - a.k)) (b.q * pw (N - b.k) - a.q * pw (N - a.k)) := by
  obtain ⟨g1, g2, g3⟩ := mx_ge a.k b.k
  have e1 : pw (N - b.k) = pw (mx a.k b.k - b.k) * pw (N - mx a.k b.k) := by rw [← pw_add (by omega) (by omega)]; congr 1; omega
  have e2 : pw (N - a.k) = pw (mx a.k b.k - a.k) * pw (N - mx a.k b.k) := by rw [← pw_add (by omega) (by omega)]; congr 1; omega
  unfold Less
  rw [e1, e2, ← pos_scale _ _ (pw_pos (N - mx a.k b.k)), Int.sub_mul, Int.sub_mul]
  simp only [Int.mul_assoc]
theorem less_trans {a b c : Sh} (ha : 0 ≤ a.k) (hb : 0 ≤ b.k) (hc : 0 ≤ c.k) (h1 : Less a b = true) (h2 : Less b c = true) : Less a c = true := by
  rw [less_at (N := a.k + b.k + c.k) (by omega) (by omega) (by omega) (by omega), pos_iff] at h1 h2 ⊢
  have := pz_add h1 h2
  simp only [show ∀ x y z : Int, y - x + (z - y) = z - x from fun x y z => by omega] at this
  exact this
theorem sh_bbl (a b : Bool) : shOk (.lst [.bl a, .bl b]) = true := by
  refine sh_of ?_ ?_ ?_ <;> cases a <;> cases b <;> decide
theorem law_b1 {A : AEnds} {sl : Slot} {s0 s1 s2 s3 s4 s5 s6 s10 : Slot} {x y : Sh} {M : Mem} (hx : x.Ok 200) (hy : y.Ok 200)
    (h : ∀ s9, A.nx [s0, s1, s2, s3, s4, s5, s6, .dat x.d, .dat y.d, s9, s10] M) : as_law_b1 A [s0, s1, s2, s3, s4, s5, s6, .dat x.d, .dat y.d, sl, s10] M := by
  unfold as_law_b1
  walk_at "gw"
  refine ⟨x, y, rfl, hx, hy, ?_⟩
  walk_at "gw"
  refine ⟨x, y, rfl, hx, hy, ?_⟩
  walk_at "gw"
  refine ⟨x, y, rfl, hx, hy, ?_⟩
  have hsh := sh_bbl (Less x y) (Less x y)
  walk_at "gwx"
  refine ⟨by decide, by decide, ?_⟩
  simp only [decide_true, Bool.not_true, Bool.false_eq_true, if_false, h]
theorem law_b3 {A : AEnds} {s0 s1 s3 s4 s5 s6 s7 s8 s9 s10 : Slot} {xs : List Sh} {a : Addr} {g s : Int} {M : Mem} (hx : ∀ x ∈ xs, x.Ok 200) (hl : xs.length = 12) (ha : a ∉ dom M) (hs : HOk g s)
    (h3 : s3 = .own (.lst (xs.map Sh.d)) ∨ s3 = .dat (.lst (xs.map Sh.d)))
    (h : ∀ g s s5 s6 s10, HOk g s → A.nx [s0, s1, .dat (.ref a), .dat (.lst (xs.map Sh.d)), s4, s5, s6, s7, s8, s9, s10] (HM a g s M)) :
    as_law_b3 A [s0, s1, .dat (.ref a), s3, s4, s5, s6, s7, s8, s9, s10] (HM a g s M) := by
  unfold as_law_b3
  have ll : (xs.map Sh.d).length = 12 := by rw [List.length_map]; exact hl
  have inn : ∀ d ∈ xs.map Sh.d, ∃ x : Sh, d = x.d ∧ x.Ok 200 := fun d hd => by
    obtain ⟨x, e1, rfl⟩ := List.mem_map.mp hd
    exact ⟨x, rfl, hx x e1⟩
  rcases h3 with rfl | rfl
  all_goals
    walk_at "gw"
    refine ⟨a, g, s, M, _, rfl, rfl, ha, hs, by omega, by omega, ?_⟩
    intro d1 g1 s1' h1 hs1
    obtain ⟨x1, rfl, ok1⟩ := inn _ h1
    walk_at "gw"
    refine ⟨a, g1, s1', M, _, rfl, rfl, ha, hs1, by omega, by omega, ?_⟩
    intro d2 g2 s2' h2 hs2
    obtain ⟨x2, rfl, ok2⟩ := inn _ h2
    walk_at "gw"
    refine ⟨a, g2, s2', M, _, rfl, rfl, ha, hs2, by omega, by omega, ?_⟩
    intro d3 g3 s3' h3 hs3
    obtain ⟨x3, rfl, ok3⟩ := inn _ h3
    walk_at "gw"
    refine ⟨x1, x2, rfl, ok1, ok2, ?_⟩
    walk_at "gw"
    by_cases l1 : Less x1 x2 = true
    · simp only [l1, if_true]
      refine ⟨x2, x3, rfl, ok2, ok3, ?_⟩
      walk_at "gw"
      by_cases l2 : Less x2 x3 = true
      · simp only [l2, if_true]
        refine ⟨x1, x3, rfl, ok1, ok3, ?_⟩
        walk_at "gw"
        simp only [less_trans ok1.k0 ok2.k0 ok3.k0 l1 l2, Bool.not_true, Bool.false_eq_true, if_false]
        exact h _ _ _ _ _ hs3
      · simp only [l2, Bool.false_eq_true, if_false]
        exact h _ _ _ _ _ hs3
    · simp only [l1, Bool.false_eq_true, if_false]
      exact h _ _ _ _ _ hs3
theorem rd_law : ∀ ds M Q, S_law ds M Q → as_law (endsOf Q) (slots N_law.length ds) M := by
  rintro ds M Q ⟨ns, rfl, rfl, hl, h⟩
  show as_law (endsOf Q) [.dat _, .non, .non, .non, .non, .non, .non, .non, .non, .non, .non] _
  unfold as_law
  walk_at "gw"
  refine ⟨⟨by (repeat' split) <;> omega, by (repeat' split) <;> omega⟩, ?_⟩
  have lim : (if (if ((ns.map D.int).length : Int) < 6 then ((ns.map D.int).length : Int) else 6) > 1 then (if ((ns.map D.int).length : Int) < 6 then ((ns.map D.int).length : Int) else 6) else 1) ≤ 6 := by (repeat' split) <;> omega
  refine forR (fun i n Γ M' => ∃ (s1 s2 s3 s4 s5 s6 s7 s8 s9 s10 : Slot), 0 ≤ i ∧ i + n ≤ 6 ∧ Γ = [.dat (.scr (ns.map .int)), s1, s2, s3, s4, s5, s6, s7, s8, s9, s10]) ?_ ?_ _ ⟨_, _, _, _, _, _, _, _, _, _, by decide, by omega, rfl⟩
  · rintro i Γ M' ⟨s1, s2, s3, s4, s5, s6, s7, s8, s9, s10, i0, i1, rfl⟩
    simp only [as_law_t2]
    walk_at "gw"
    exact h _
  · rintro i n Γ M' K ⟨s1, s2, s3, s4, s5, s6, s7, s8, s9, s10, i0, i1, rfl⟩ hK
    unfold as_law_b4
    walk_at "gw"
    refine ⟨ns, i, rfl, i0, by omega, ?_⟩
    intro a g s ha hs
    walk_at "gw"
    refine ⟨⟨by decide, by decide⟩, ?_⟩
    generalize hscr : D.scr (ns.map .int) = scr at hK ⊢
    refine forR (fun j m Γ M'' => ∃ (g s : Int) (xs : List Sh) (s4 s5 s6 s7 s8 s9 s10 : Slot), HOk g s ∧ (∀ x ∈ xs, x.Ok 200) ∧ xs.length + 2 * m = 12 ∧ M'' = HM a g s M' ∧ Γ = [.dat scr, .dat (.int i), .dat (.ref a), .own (.lst (xs.map Sh.d)), s4, s5, s6, s7, s8, s9, s10]) ?_ ?_ _ ⟨g, s, [], _, _, _, _, _, _, _, hs, by simp, by decide, rfl, rfl⟩
    · rintro j Γ M'' ⟨g, s, xs, s4, s5, s6, s7, s8, s9, s10, hs, hx, hxl, rfl, rfl⟩
      simp only [as_law_t1]
      walk_at "gw"
      refine ⟨⟨by decide, by decide⟩, ?_⟩
      refine forR (fun j m Γ M'' => ∃ (g s : Int) (s3 s4 s5 s6 s10 : Slot), HOk g s ∧ (s3 = .own (.lst (xs.map Sh.d)) ∨ s3 = .dat (.lst (xs.map Sh.d))) ∧ M'' = HM a g s M' ∧ Γ = [.dat scr, .dat (.int i), .dat (.ref a), s3, s4, s5, s6, s7, s8, s9, s10]) ?_ ?_ _ ⟨g, s, _, _, _, _, _, hs, .inl rfl, rfl, rfl⟩
      · rintro j Γ M'' ⟨g, s, s3, s4, s5, s6, s10, hs, h3, rfl, rfl⟩
        exact hK _ _ ⟨_, _, _, _, _, _, _, _, _, _, by omega, by omega, rfl⟩
      · rintro j m Γ M'' K2 ⟨g, s, s3, s4, s5, s6, s10, hs, h3, rfl, rfl⟩ hK2
        walk_at "gw"
        exact law_b3 hx (by omega) ha hs h3 fun g s s5 s6 s10 hs => hK2 _ _ ⟨g, s, _, _, _, _, _, hs, .inr rfl, rfl, rfl⟩
    · rintro j m Γ M'' K2 ⟨g, s, xs, s4, s5, s6, s7, s8, s9, s10, hs, hx, hxl, rfl, rfl⟩ hK2
      unfold as_law_b2
      walk_at "gw"
      refine ⟨a, g, s, M', rfl, rfl, ha, hs, ?_⟩
      intro x y g1 s1 hx1 hy1 hs1
      walk_at "gw"
      refine ⟨by decide, by rw [List.length_map]; omega, by decide, by decide, by decide, ?_⟩
      simp only [forW, aForL]
      walk_at "gw"
      refine law_b1 hx1 hy1 fun s9 => ?_
      walk_at "gw"
      refine law_b1 hy1 hx1 fun s9 => ?_
      refine hK2 _ _ ⟨g1, s1, xs ++ [x, y], _, _, _, _, _, _, _, hs1, ?_, by simp; omega, rfl, by rw [List.map_append]; rfl⟩
      intro z hz
      rcases List.mem_append.mp hz with e | e
      · exact hx z e
      · simp only [List.mem_cons, List.not_mem_nil, or_false] at e
        rcases e with rfl | rfl
        · exact hx1
        · exact hy1

open PyProof.Rows
/-! ### the walks (printed by gen.py) -/
structure Txt (K : PySem.W.Frag) (mg : Str → Option Value) : Prop where
  range : mg "range" = none
  max : mg "max" = none
  len : mg "len" = none
  abs : mg "abs" = none
  int : mg "int" = none
  min : mg "min" = none
  repr : mg "repr" = none
  g_NO_SHARE : Glob K mg "NO_SHARE" (.tup [.int 0, .int 0, .int 0])
section
variable {P : Program} {w : World} {K : PySem.W.Frag} {mg : Str → Option Value} {base : Heap}
theorem sc_twos : FnScope N_twos ["many"] (defScope s_twos) := ⟨rfl, rfl, rfl, by decide +kernel, rfl, by decide +kernel, by decide +kernel⟩
theorem walk_twos (T : Txt K mg) {f : Addr} {cd : Value} {A : Around} {outer : List Env} {s : Shared} {H : Hp} {E : XK} (hr : Room 0 (A.deeper (envOfC "twos" (defScope s_twos) s.heap.objs.size f cd))) (gd : A.guards = some []) :
    ∃ ts, QSs (cxOf CX0 P w K mg base N_twos "twos" (defScope s_twos) f cd A outer s H E).nox (defBody s_twos) ts as_twos := ⟨_, (qss_cons (qs_setF 1 sc_twos.nd q_int)
    (qss_cons (qs_for (qi_range1 T.range (qa_cons (qv 0) qa_nil)) (qg_name 2 sc_twos.nd) (qss_one (qs_augM 1 sc_twos.nd q_int)))
    (qss_one (qs_ret (qv 1)))))⟩
theorem sc_lowest_share : FnScope N_lowest_share ["p", "q", "k"] (defScope s_lowest_share) := ⟨rfl, rfl, rfl, by decide +kernel, rfl, by decide +kernel, by decide +kernel⟩
theorem walk_lowest_share (T : Txt K mg) {f : Addr} {cd : Value} {A : Around} {outer : List Env} {s : Shared} {H : Hp} {E : XK} (hr : Room 0 (A.deeper (envOfC "lowest_share" (defScope s_lowest_share) s.heap.objs.size f cd))) (gd : A.guards = some []) :
    ∃ ts, QSs (cxOf CX0 P w K mg base N_lowest_share "lowest_share" (defScope s_lowest_share) f cd A outer s H E).nox (defBody s_lowest_share) ts as_lowest_share := ⟨_, (qss_cons (qs_while (QW.qt (qw_and (qt_cmp c_gt (qv 2) q_int) (qw_and (qt_cmp (c_eq hr.units) (q_mod (qv 0) q_int) q_int) (qw_and1 (qt_cmp (c_eq hr.units) (q_mod (qv 1) q_int) q_int))))) (qss_one (qs_par3 0 1 2 sc_lowest_share.nd (qa_cons (q_div (qv 0) q_int) (qa_cons (q_div (qv 1) q_int) (qa_cons (q_sub (qv 2) q_int) qa_nil))))))
    (qss_one (qs_ret (q_tup (qa_cons (qv 0) (qa_cons (qv 1) (qa_cons (qv 2) qa_nil)))))))⟩
theorem sc_shares_together : FnScope N_shares_together ["some"] (defScope s_shares_together) := ⟨rfl, rfl, rfl, by decide +kernel, rfl, by decide +kernel, by decide +kernel⟩
theorem walk_shares_together (T : Txt K mg) (c_twos : Cal P w K mg base "twos" ["many"] 1 S_twos) (c_lowest_share : Cal P w K mg base "lowest_share" ["p", "q", "k"] 1 S_lowest_share) {f : Addr} {cd : Value} {A : Around} {outer : List Env} {s : Shared} {H : Hp} {E : XK} (hr : Room 1 (A.deeper (envOfC "shares_together" (defScope s_shares_together) s.heap.objs.size f cd))) (gd : A.guards = some []) :
    ∃ ts, QSs (cxOf CX0 P w K mg base N_shares_together "shares_together" (defScope s_shares_together) f cd A outer s H E).nox (defBody s_shares_together) ts as_shares_together := ⟨_, (qss_cons (qs_unp (q_glob T.g_NO_SHARE) (qg_tup (qgs_cons (qg_name 1 sc_shares_together.nd) (qgs_cons (qg_name 2 sc_shares_together.nd) (qgs_cons (qg_name 3 sc_shares_together.nd) qgs_nil)))))
    (qss_cons (qs_for (qi_tup (qv 0)) (qg_tup (qgs_cons (qg_name 4 sc_shares_together.nd) (qgs_cons (qg_name 5 sc_shares_together.nd) (qgs_cons (qg_name 6 sc_shares_together.nd) qgs_nil)))) (qss_cons (qs_setF 7 sc_shares_together.nd (q_max2 T.max (qv 3) (qv 6)))
    (qss_cons (qs_setF 1 sc_shares_together.nd (q_add (q_mul (qv 1) (q_callC c_twos (hr.mono (by decide)) gd (qa_cons (q_sub (qv 7) (qv 3)) qa_nil))) (q_mul (qv 4) (q_callC c_twos (hr.mono (by decide)) gd (qa_cons (q_sub (qv 7) (qv 6)) qa_nil)))))
    (qss_cons (qs_setF 2 sc_shares_together.nd (q_add (q_mul (qv 2) (q_callC c_twos (hr.mono (by decide)) gd (qa_cons (q_sub (qv 7) (qv 3)) qa_nil))) (q_mul (qv 5) (q_callC c_twos (hr.mono (by decide)) gd (qa_cons (q_sub (qv 7) (qv 6)) qa_nil)))))
    (qss_one (qs_setF 3 sc_shares_together.nd (qv 7)))))))
    (qss_one (qs_ret (q_callC c_lowest_share (hr.mono (by decide)) gd (qa_cons (qv 1) (qa_cons (qv 2) (qa_cons (qv 3) qa_nil))))))))⟩
theorem sc_is_above_nought : FnScope N_is_above_nought ["p", "q"] (defScope s_is_above_nought) := ⟨rfl, rfl, rfl, by decide +kernel, rfl, by decide +kernel, by decide +kernel⟩
theorem walk_is_above_nought (T : Txt K mg) {f : Addr} {cd : Value} {A : Around} {outer : List Env} {s : Shared} {H : Hp} {E : XK} (hr : Room 0 (A.deeper (envOfC "is_above_nought" (defScope s_is_above_nought) s.heap.objs.size f cd))) (gd : A.guards = some []) :
    ∃ ts, QSs (cxOf CX0 P w K mg base N_is_above_nought "is_above_nought" (defScope s_is_above_nought) f cd A outer s H E).nox (defBody s_is_above_nought) ts as_is_above_nought := ⟨_, (qss_cons (qs_if (QW.qt (qw_and (qt_cmp c_ge (qv 0) q_int) (qw_and1 (qt_cmp c_ge (qv 1) q_int)))) (qss_one (qs_ret (q_or (q_cmp c_gt (qv 0) q_int) (q_one (q_cmp c_gt (qv 1) q_int))))) qss_nil)
    (qss_cons (qs_if (QW.qt (qw_and (qt_cmp c_le (qv 0) q_int) (qw_and1 (qt_cmp c_le (qv 1) q_int)))) (qss_one (qs_ret q_bl)) qss_nil)
    (qss_one (qs_ret (q_cmp (c_eq hr.units) (q_cmp c_gt (q_mul (qv 0) (qv 0)) (q_mul (q_mul q_int (qv 1)) (qv 1))) (q_cmp c_gt (qv 0) q_int))))))⟩
theorem sc_is_less : FnScope N_is_less ["one", "other"] (defScope s_is_less) := ⟨rfl, rfl, rfl, by decide +kernel, rfl, by decide +kernel, by decide +kernel⟩
theorem walk_is_less (T : Txt K mg) (c_shares_together : Cal P w K mg base "shares_together" ["some"] 2 S_shares_together) (c_is_above_nought : Cal P w K mg base "is_above_nought" ["p", "q"] 1 S_is_above_nought) {f : Addr} {cd : Value} {A : Around} {outer : List Env} {s : Shared} {H : Hp} {E : XK} (hr : Room 2 (A.deeper (envOfC "is_less" (defScope s_is_less) s.heap.objs.size f cd))) (gd : A.guards = some []) :
    ∃ ts, QSs (cxOf CX0 P w K mg base N_is_less "is_less" (defScope s_is_less) f cd A outer s H E).nox (defBody s_is_less) ts as_is_less := ⟨_, (qss_cons (qs_unp (q_callC c_shares_together (hr.mono (by decide)) gd (qa_cons (q_tup (qa_cons (qv 1) (qa_cons (q_tup (qa_cons (q_neg (q_ixS (qv 0) q_int)) (qa_cons (q_neg (q_ixS (qv 0) q_int)) (qa_cons (q_ixS (qv 0) q_int) qa_nil)))) qa_nil))) qa_nil)) (qg_tup (qgs_cons (qg_name 2 sc_is_less.nd) (qgs_cons (qg_name 3 sc_is_less.nd) (qgs_cons (qg_name 4 sc_is_less.nd) qgs_nil)))))
    (qss_one (qs_ret (q_callC c_is_above_nought (hr.mono (by decide)) gd (qa_cons (qv 2) (qa_cons (qv 3) qa_nil))))))⟩
theorem sc__law_hand : FnScope N__law_hand ["_law_script", "_law_k"] (defScope s__law_hand) := ⟨rfl, rfl, rfl, by decide +kernel, rfl, by decide +kernel, by decide +kernel⟩
theorem walk__law_hand (T : Txt K mg) {f : Addr} {cd : Value} {A : Around} {outer : List Env} {s : Shared} {H : Hp} {E : XK} (hr : Room 0 (A.deeper (envOfC "_law_hand" (defScope s__law_hand) s.heap.objs.size f cd))) (gd : A.guards = some []) :
    ∃ ts, QSs (cxOf CX0 P w K mg base N__law_hand "_law_hand" (defScope s__law_hand) f cd A outer s H E).nox (defBody s__law_hand) ts as__law_hand := ⟨_, (qss_cons (qs_setF 2 sc__law_hand.nd (q_add (q_mul q_int (qv 1)) (q_len T.len (qv 0))))
    (qss_cons (qs_if (qt_cmp c_lt (qv 1) (q_len T.len (qv 0))) (qss_one (qs_setF 2 sc__law_hand.nd (q_ixS (qv 0) (qv 1)))) qss_nil)
    (qss_cons (qs_setF 3 sc__law_hand.nd (q_mul (q_mod (q_abs T.abs (qv 2)) (q_powW (q_powW q_int q_int) q_int)) (q_intB T.int (q_cmp c_ge (q_abs T.abs (qv 2)) (q_powW q_int q_int)))))
    (qss_one (qs_ret (q_sh (q_lst (qa_cons (qv 3) (qa_cons (q_mod (q_mul (q_add (q_add (q_mod (qv 2) q_int) (q_mul (q_mul q_int (qv 1)) (qv 1))) q_int) q_int) q_int) qa_nil)))))))))⟩
theorem sc__law_take : FnScope N__law_take ["_law_hand_here", "_law_many"] (defScope s__law_take) := ⟨rfl, rfl, rfl, by decide +kernel, rfl, by decide +kernel, by decide +kernel⟩
theorem walk__law_take (T : Txt K mg) {f : Addr} {cd : Value} {A : Around} {outer : List Env} {s : Shared} {H : Hp} {E : XK} (hr : Room 0 (A.deeper (envOfC "_law_take" (defScope s__law_take) s.heap.objs.size f cd))) (gd : A.guards = some []) :
    ∃ ts, QSs (cxOf CX0 P w K mg base N__law_take "_law_take" (defScope s__law_take) f cd A outer s H E).nox (defBody s__law_take) ts as__law_take := ⟨_, (qss_cons (qs_if (qt_cmp c_gt (q_ixS (qv 0) q_int) q_int) (qss_cons (qs_setF 2 sc__law_take.nd (q_mod (q_ixS (qv 0) q_int) (qv 1)))
    (qss_cons (qs_setI (q_div (q_ixS (qv 0) q_int) (qv 1)) (qv 0) q_int)
    (qss_one (qs_ret (qv 2))))) qss_nil)
    (qss_cons (qs_setI (q_mod (q_add (q_mul (q_ixS (qv 0) q_int) q_int) q_int) q_int) (qv 0) q_int)
    (qss_one (qs_ret (q_mod (q_div (q_mod (q_mul (q_div (q_ixS (qv 0) q_int) q_int) (q_add (q_mod (q_ixS (qv 0) q_int) q_int) q_int)) q_int) q_int) (qv 1))))))⟩
theorem sc__law_pick : FnScope N__law_pick ["_law_hand_here", "_law_some"] (defScope s__law_pick) := ⟨rfl, rfl, rfl, by decide +kernel, rfl, by decide +kernel, by decide +kernel⟩
theorem walk__law_pick (T : Txt K mg) (c__law_take : Cal P w K mg base "_law_take" ["_law_hand_here", "_law_many"] 1 S__law_take) {f : Addr} {cd : Value} {A : Around} {outer : List Env} {s : Shared} {H : Hp} {E : XK} (hr : Room 1 (A.deeper (envOfC "_law_pick" (defScope s__law_pick) s.heap.objs.size f cd))) (gd : A.guards = some []) :
    ∃ ts, QSs (cxOf CX0 P w K mg base N__law_pick "_law_pick" (defScope s__law_pick) f cd A outer s H E).nox (defBody s__law_pick) ts as__law_pick := ⟨_, (qss_one (qs_ret (q_ixS (qv 1) (q_callC c__law_take (hr.mono (by decide)) gd (qa_cons (qv 0) (qa_cons (q_len T.len (qv 1)) qa_nil))))))⟩
theorem sc__law_great : FnScope N__law_great ["_law_hand_here"] (defScope s__law_great) := ⟨rfl, rfl, rfl, by decide +kernel, rfl, by decide +kernel, by decide +kernel⟩
theorem walk__law_great (T : Txt K mg) (c__law_pick : Cal P w K mg base "_law_pick" ["_law_hand_here", "_law_some"] 2 S__law_pick) (c__law_take : Cal P w K mg base "_law_take" ["_law_hand_here", "_law_many"] 1 S__law_take) {f : Addr} {cd : Value} {A : Around} {outer : List Env} {s : Shared} {H : Hp} {E : XK} (hr : Room 2 (A.deeper (envOfC "_law_great" (defScope s__law_great) s.heap.objs.size f cd))) (gd : A.guards = some []) :
    ∃ ts, QSs (cxOf CX0 P w K mg base N__law_great "_law_great" (defScope s__law_great) f cd A outer s H E).nox (defBody s__law_great) ts as__law_great := ⟨_, (qss_one (qs_ret (q_callC c__law_pick (hr.mono (by decide)) gd (qa_cons (qv 0) (qa_cons (q_lst (qa_cons q_int (qa_cons q_int (qa_cons (q_neg q_int) (qa_cons (q_sub (q_callC c__law_take (hr.mono (by decide)) gd (qa_cons (qv 0) (qa_cons q_int qa_nil))) q_int) (qa_cons (q_sub (q_callC c__law_take (hr.mono (by decide)) gd (qa_cons (qv 0) (qa_cons q_int qa_nil))) q_int) (qa_cons (q_sub (q_callC c__law_take (hr.mono (by decide)) gd (qa_cons (qv 0) (qa_cons (q_powW q_int q_int) qa_nil))) q_int) qa_nil))))))) qa_nil)))))⟩
theorem sc__law_least : FnScope N__law_least ["_law_p", "_law_q", "_law_k"] (defScope s__law_least) := ⟨rfl, rfl, rfl, by decide +kernel, rfl, by decide +kernel, by decide +kernel⟩
theorem walk__law_least (T : Txt K mg) {f : Addr} {cd : Value} {A : Around} {outer : List Env} {s : Shared} {H : Hp} {E : XK} (hr : Room 0 (A.deeper (envOfC "_law_least" (defScope s__law_least) s.heap.objs.size f cd))) (gd : A.guards = some []) :
    ∃ ts, QSs (cxOf CX0 P w K mg base N__law_least "_law_least" (defScope s__law_least) f cd A outer s H E).nox (defBody s__law_least) ts as__law_least := ⟨_, (qss_cons (qs_while (QW.qt (qw_and (qt_cmp c_gt (qv 2) q_int) (qw_and (qt_cmp (c_eq hr.units) (q_mod (qv 0) q_int) q_int) (qw_and1 (qt_cmp (c_eq hr.units) (q_mod (qv 1) q_int) q_int))))) (qss_one (qs_par3 0 1 2 sc__law_least.nd (qa_cons (q_div (qv 0) q_int) (qa_cons (q_div (qv 1) q_int) (qa_cons (q_sub (qv 2) q_int) qa_nil))))))
    (qss_one (qs_ret (q_tup (qa_cons (qv 0) (qa_cons (qv 1) (qa_cons (qv 2) qa_nil)))))))⟩
theorem sc__law_root : FnScope N__law_root ["_law_number"] (defScope s__law_root) := ⟨rfl, rfl, rfl, by decide +kernel, rfl, by decide +kernel, by decide +kernel⟩
theorem walk__law_root (T : Txt K mg) {f : Addr} {cd : Value} {A : Around} {outer : List Env} {s : Shared} {H : Hp} {E : XK} (hr : Room 0 (A.deeper (envOfC "_law_root" (defScope s__law_root) s.heap.objs.size f cd))) (gd : A.guards = some []) :
    ∃ ts, QSs (cxOf CX0 P w K mg base N__law_root "_law_root" (defScope s__law_root) f cd A outer s H E).nox (defBody s__law_root) ts as__law_root := ⟨_, (qss_cons (qs_par 1 2 sc__law_root.nd (qa_cons q_int (qa_cons (q_add (qv 0) q_int) qa_nil)))
    (qss_cons (qs_while (qt_cmp c_gt (q_sub (qv 2) (qv 1)) q_int) (qss_cons (qs_setF 3 sc__law_root.nd (q_div (q_add (qv 1) (qv 2)) q_int))
    (qss_one (qs_unp (q_ifExp (qt_cmp c_le (q_mul (qv 3) (qv 3)) (qv 0)) (q_tup (qa_cons (qv 3) (qa_cons (qv 2) qa_nil))) (q_tup (qa_cons (qv 1) (qa_cons (qv 3) qa_nil)))) (qg_tup (qgs_cons (qg_name 1 sc__law_root.nd) (qgs_cons (qg_name 2 sc__law_root.nd) qgs_nil)))))))
    (qss_one (qs_ret (qv 1)))))⟩
theorem sc__law_is_less : FnScope N__law_is_less ["_law_left", "_law_right"] (defScope s__law_is_less) := ⟨rfl, rfl, rfl, by decide +kernel, rfl, by decide +kernel, by decide +kernel⟩
theorem walk__law_is_less (T : Txt K mg) (c__law_root : Cal P w K mg base "_law_root" ["_law_number"] 1 S__law_root) {f : Addr} {cd : Value} {A : Around} {outer : List Env} {s : Shared} {H : Hp} {E : XK} (hr : Room 1 (A.deeper (envOfC "_law_is_less" (defScope s__law_is_less) s.heap.objs.size f cd))) (gd : A.guards = some []) :
    ∃ ts, QSs (cxOf CX0 P w K mg base N__law_is_less "_law_is_less" (defScope s__law_is_less) f cd A outer s H E).nox (defBody s__law_is_less) ts as__law_is_less := ⟨_, (qss_cons (qs_setF 2 sc__law_is_less.nd (q_max2 T.max (q_ixS (qv 0) q_int) (q_ixS (qv 1) q_int)))
    (qss_cons (qs_unp (q_tup (qa_cons q_int (qa_cons q_int qa_nil))) (qg_tup (qgs_cons (qg_name 3 sc__law_is_less.nd) (qgs_cons (qg_name 4 sc__law_is_less.nd) qgs_nil))))
    (qss_cons (qs_for (qi_tup (q_tup (qa_cons (q_tup (qa_cons (q_ixS (qv 0) q_int) (qa_cons (q_ixS (qv 0) q_int) (qa_cons (q_ixS (qv 0) q_int) (qa_cons q_int qa_nil))))) (qa_cons (q_tup (qa_cons (q_ixS (qv 1) q_int) (qa_cons (q_ixS (qv 1) q_int) (qa_cons (q_ixS (qv 1) q_int) (qa_cons (q_neg q_int) qa_nil))))) qa_nil)))) (qg_tup (qgs_cons (qg_name 5 sc__law_is_less.nd) (qgs_cons (qg_name 6 sc__law_is_less.nd) (qgs_cons (qg_name 7 sc__law_is_less.nd) (qgs_cons (qg_name 8 sc__law_is_less.nd) qgs_nil))))) (qss_cons (qs_for (qi_range1 T.range (qa_cons (q_sub (qv 2) (qv 7)) qa_nil)) (qg_name 9 sc__law_is_less.nd) (qss_one (qs_par 5 6 sc__law_is_less.nd (qa_cons (q_mul q_int (qv 5)) (qa_cons (q_mul q_int (qv 6)) qa_nil)))))
    (qss_one (qs_par 3 4 sc__law_is_less.nd (qa_cons (q_add (qv 3) (q_mul (qv 8) (qv 5))) (qa_cons (q_add (qv 4) (q_mul (qv 8) (qv 6))) qa_nil))))))
    (qss_cons (qs_if (qt_cmp (c_eq hr.units) (qv 4) q_int) (qss_one (qs_ret (q_cmp c_lt (qv 3) q_int))) qss_nil)
    (qss_cons (qs_setF 10 sc__law_is_less.nd (q_callC c__law_root (hr.mono (by decide)) gd (qa_cons (q_mul (q_mul q_int (qv 4)) (qv 4)) qa_nil)))
    (qss_one (qs_ret (q_ifExp (qt_cmp c_gt (qv 4) q_int) (q_cmp c_lt (q_add (qv 3) (qv 10)) q_int) (q_cmp c_lt (q_sub (q_sub (qv 3) (qv 10)) q_int) q_int)))))))))⟩
theorem sc__law_near : FnScope N__law_near ["_law_hand_here"] (defScope s__law_near) := ⟨rfl, rfl, rfl, by decide +kernel, rfl, by decide +kernel, by decide +kernel⟩
theorem walk__law_near (T : Txt K mg) (c__law_take : Cal P w K mg base "_law_take" ["_law_hand_here", "_law_many"] 1 S__law_take) {f : Addr} {cd : Value} {A : Around} {outer : List Env} {s : Shared} {H : Hp} {E : XK} (hr : Room 1 (A.deeper (envOfC "_law_near" (defScope s__law_near) s.heap.objs.size f cd))) (gd : A.guards = some []) :
    ∃ ts, QSs (cxOf CX0 P w K mg base N__law_near "_law_near" (defScope s__law_near) f cd A outer s H E).nox (defBody s__law_near) ts as__law_near := ⟨_, (qss_cons (qs_unp (q_tup (qa_cons q_int (qa_cons q_int qa_nil))) (qg_tup (qgs_cons (qg_name 1 sc__law_near.nd) (qgs_cons (qg_name 2 sc__law_near.nd) qgs_nil))))
    (qss_cons (qs_for (qi_range1 T.range (qa_cons (q_callC c__law_take (hr.mono (by decide)) gd (qa_cons (qv 0) (qa_cons q_int qa_nil))) qa_nil)) (qg_name 3 sc__law_near.nd) (qss_one (qs_par 1 2 sc__law_near.nd (qa_cons (q_add (qv 1) (q_mul q_int (qv 2))) (qa_cons (q_add (qv 1) (qv 2)) qa_nil)))))
    (qss_one (qs_ret (q_tup (qa_cons (qv 1) (qa_cons (qv 2) qa_nil)))))))⟩
theorem sc__law_pair : FnScope N__law_pair ["_law_hand_here"] (defScope s__law_pair) := ⟨rfl, rfl, rfl, by decide +kernel, rfl, by decide +kernel, by decide +kernel⟩
theorem walk__law_pair (T : Txt K mg) (c__law_pick : Cal P w K mg base "_law_pick" ["_law_hand_here", "_law_some"] 2 S__law_pick) (c__law_take : Cal P w K mg base "_law_take" ["_law_hand_here", "_law_many"] 1 S__law_take) (c__law_least : Cal P w K mg base "_law_least" ["_law_p", "_law_q", "_law_k"] 1 S__law_least) (c__law_great : Cal P w K mg base "_law_great" ["_law_hand_here"] 3 S__law_great) (c__law_near : Cal P w K mg base "_law_near" ["_law_hand_here"] 2 S__law_near) {f : Addr} {cd : Value} {A : Around} {outer : List Env} {s : Shared} {H : Hp} {E : XK} (hr : Room 3 (A.deeper (envOfC "_law_pair" (defScope s__law_pair) s.heap.objs.size f cd))) (gd : A.guards = some []) :
    ∃ ts, QSs (cxOf CX0 P w K mg base N__law_pair "_law_pair" (defScope s__law_pair) f cd A outer s H E).nox (defBody s__law_pair) ts as__law_pair := ⟨_, (qss_cons (qs_par 1 2 sc__law_pair.nd (qa_cons (q_callC c__law_take (hr.mono (by decide)) gd (qa_cons (qv 0) (qa_cons q_int qa_nil))) (qa_cons (q_callC c__law_pick (hr.mono (by decide)) gd (qa_cons (qv 0) (qa_cons (q_lst (qa_cons q_int (qa_cons q_int (qa_cons q_int (qa_cons (q_callC c__law_take (hr.mono (by decide)) gd (qa_cons (qv 0) (qa_cons q_int qa_nil))) (qa_cons q_int qa_nil)))))) qa_nil))) qa_nil)))
    (qss_cons (qs_setF 3 sc__law_pair.nd (q_callC c__law_least (hr.mono (by decide)) gd (qa_cons (q_callC c__law_great (hr.mono (by decide)) gd (qa_cons (qv 0) qa_nil)) (qa_cons (q_callC c__law_great (hr.mono (by decide)) gd (qa_cons (qv 0) qa_nil)) (qa_cons (qv 2) qa_nil)))))
    (qss_cons (qs_if (qt_cmp (c_eq hr.units) (qv 1) q_int) (qss_one (qs_ret (q_tup (qa_cons (qv 3) (qa_cons (qv 3) qa_nil))))) qss_nil)
    (qss_cons (qs_if (qt_cmp (c_eq hr.units) (qv 1) q_int) (qss_one (qs_ret (q_tup (qa_cons (qv 3) (qa_cons (q_callC c__law_least (hr.mono (by decide)) gd (qa_cons (q_add (q_ixS (qv 3) q_int) q_int) (qa_cons (q_ixS (qv 3) q_int) (qa_cons (q_ixS (qv 3) q_int) qa_nil)))) qa_nil))))) qss_nil)
    (qss_cons (qs_if (qt_cmp (c_eq hr.units) (qv 1) q_int) (qss_cons (qs_unp (q_callC c__law_near (hr.mono (by decide)) gd (qa_cons (qv 0) qa_nil)) (qg_tup (qgs_cons (qg_name 4 sc__law_pair.nd) (qgs_cons (qg_name 5 sc__law_pair.nd) qgs_nil))))
    (qss_one (qs_ret (q_tup (qa_cons (q_callC c__law_least (hr.mono (by decide)) gd (qa_cons (qv 4) (qa_cons q_int (qa_cons (qv 2) qa_nil)))) (qa_cons (q_callC c__law_least (hr.mono (by decide)) gd (qa_cons q_int (qa_cons (qv 5) (qa_cons (qv 2) qa_nil)))) qa_nil)))))) qss_nil)
    (qss_cons (qs_if (qt_cmp (c_eq hr.units) (qv 1) q_int) (qss_cons (qs_unp (q_callC c__law_near (hr.mono (by decide)) gd (qa_cons (qv 0) qa_nil)) (qg_tup (qgs_cons (qg_name 4 sc__law_pair.nd) (qgs_cons (qg_name 5 sc__law_pair.nd) qgs_nil))))
    (qss_one (qs_ret (q_tup (qa_cons (q_callC c__law_least (hr.mono (by decide)) gd (qa_cons (q_add (q_ixS (qv 3) q_int) (qv 4)) (qa_cons (q_ixS (qv 3) q_int) (qa_cons (q_ixS (qv 3) q_int) qa_nil)))) (qa_cons (q_callC c__law_least (hr.mono (by decide)) gd (qa_cons (q_ixS (qv 3) q_int) (qa_cons (q_add (q_ixS (qv 3) q_int) (qv 5)) (qa_cons (q_ixS (qv 3) q_int) qa_nil)))) qa_nil)))))) qss_nil)
    (qss_cons (qs_if (qt_cmp (c_eq hr.units) (qv 1) q_int) (qss_one (qs_ret (q_tup (qa_cons (qv 3) (qa_cons (q_callC c__law_least (hr.mono (by decide)) gd (qa_cons (q_add (q_mul q_int (q_ixS (qv 3) q_int)) q_int) (qa_cons (q_mul q_int (q_ixS (qv 3) q_int)) (qa_cons (q_add (q_ixS (qv 3) q_int) q_int) qa_nil)))) qa_nil))))) qss_nil)
    (qss_one (qs_ret (q_tup (qa_cons (qv 3) (qa_cons (q_callC c__law_least (hr.mono (by decide)) gd (qa_cons (q_callC c__law_great (hr.mono (by decide)) gd (qa_cons (qv 0) qa_nil)) (qa_cons (q_callC c__law_great (hr.mono (by decide)) gd (qa_cons (qv 0) qa_nil)) (qa_cons (q_callC c__law_take (hr.mono (by decide)) gd (qa_cons (qv 0) (qa_cons q_int qa_nil))) qa_nil)))) qa_nil))))))))))))⟩
theorem sc_law : FnScope N_law ["_law_script"] (defScope s_law) := ⟨rfl, rfl, rfl, by decide +kernel, rfl, by decide +kernel, by decide +kernel⟩
theorem walk_law (T : Txt K mg) (c__law_hand : Cal P w K mg base "_law_hand" ["_law_script", "_law_k"] 1 S__law_hand) (c__law_pair : Cal P w K mg base "_law_pair" ["_law_hand_here"] 4 S__law_pair) (c__law_is_less : Cal P w K mg base "_law_is_less" ["_law_left", "_law_right"] 2 S__law_is_less) (c_is_less : Cal P w K mg base "is_less" ["one", "other"] 3 S_is_less) (c__law_pick : Cal P w K mg base "_law_pick" ["_law_hand_here", "_law_some"] 2 S__law_pick) (p_is_less_0 : PCal P w K mg base "is_less" ["one", "other"] 0 ["other", "one"] [1, 0] 3 S_is_less) {f : Addr} {cd : Value} {A : Around} {outer : List Env} {s : Shared} {H : Hp} {E : XK} (hr : Room 4 (A.deeper (envOfC "law" (defScope s_law) s.heap.objs.size f cd))) (gd : A.guards = some []) :
    ∃ ts, QSs (cxOf CX0 P w K mg base N_law "law" (defScope s_law) f cd A outer s H E).nox (defBody s_law) ts as_law := ⟨_, (qss_cons (qs_for (qi_range1 T.range (qa_cons (q_max2 T.max q_int (q_min2 T.min q_int (q_len T.len (qv 0)))) qa_nil)) (qg_name 1 sc_law.nd) (qss_cons (qs_setF 2 sc_law.nd (q_callC c__law_hand (hr.mono (by decide)) gd (qa_cons (qv 0) (qa_cons (qv 1) qa_nil))))
    (qss_cons (qs_set 3 sc_law.nd (q_lst qa_nil))
    (qss_cons (qs_for (qi_range1 T.range (qa_cons q_int qa_nil)) (qg_name 4 sc_law.nd) (qss_cons (qs_unp (q_callC c__law_pair (hr.mono (by decide)) gd (qa_cons (qv 2) qa_nil)) (qg_tup (qgs_cons (qg_name 5 sc_law.nd) (qgs_cons (qg_name 6 sc_law.nd) qgs_nil))))
    (qss_cons (qs_expr (q_extend (qv 3) (qa_cons (q_lst (qa_cons (qv 5) (qa_cons (qv 6) qa_nil))) qa_nil)))
    (qss_one (qs_for (qi_tup (q_tup (qa_cons (q_tup (qa_cons (qv 5) (qa_cons (qv 6) qa_nil))) (qa_cons (q_tup (qa_cons (qv 6) (qa_cons (qv 5) qa_nil))) qa_nil)))) (qg_tup (qgs_cons (qg_name 7 sc_law.nd) (qgs_cons (qg_name 8 sc_law.nd) qgs_nil))) (qss_cons (qs_setF 9 sc_law.nd (q_callC c__law_is_less (hr.mono (by decide)) gd (qa_cons (qv 7) (qa_cons (qv 8) qa_nil))))
    (qss_one (qs_if (qt_cmp c_neS (q_repr gd (hu_big hr) T.repr (q_lst (qa_cons (q_callC c_is_less (hr.mono (by decide)) gd (qa_cons (qv 7) (qa_cons (qv 8) qa_nil))) (qa_cons (q_callP0 p_is_less_0 (hr.mono (by decide)) gd (qk_cons (qv 8) (qk_cons (qv 7) qk_nil))) qa_nil)))) (q_repr gd (hu_big hr) T.repr (q_lst (qa_cons (qv 9) (qa_cons (qv 9) qa_nil))))) (qss_one (qs_ret q_bl)) qss_nil))))))))
    (qss_one (qs_for (qi_range1 T.range (qa_cons q_int qa_nil)) (qg_name 4 sc_law.nd) (qss_cons (qs_par3 5 6 10 sc_law.nd (qa_cons (q_callC c__law_pick (hr.mono (by decide)) gd (qa_cons (qv 2) (qa_cons (qv 3) qa_nil))) (qa_cons (q_callC c__law_pick (hr.mono (by decide)) gd (qa_cons (qv 2) (qa_cons (qv 3) qa_nil))) (qa_cons (q_callC c__law_pick (hr.mono (by decide)) gd (qa_cons (qv 2) (qa_cons (qv 3) qa_nil))) qa_nil))))
    (qss_one (qs_if (QW.qt (qw_and (qt_val (q_callC c_is_less (hr.mono (by decide)) gd (qa_cons (qv 5) (qa_cons (qv 6) qa_nil)))) (qw_and (qt_val (q_callC c_is_less (hr.mono (by decide)) gd (qa_cons (qv 6) (qa_cons (qv 10) qa_nil)))) (qw_and1 (qt_not (qt_val (q_callC c_is_less (hr.mono (by decide)) gd (qa_cons (qv 5) (qa_cons (qv 10) qa_nil))))))))) (qss_one (qs_ret q_bl)) qss_nil)))))))))
    (qss_one (qs_ret q_bl)))⟩
end
/-! ### the end (printed by gen.py) -/
section
variable {P : Program} {w : World} {K : PySem.W.Frag} {mg : Str → Option Value} {base : Heap}
theorem ok_twos {f : Addr} {fd : FuncData} (F : Fun K "twos" "twos" s_twos f fd) (T : Txt K mg) : FnG P w K mg base CX0 1 f fd ["many"] (spA K 1 S_twos) :=
  fn_ok F sc_twos ar_twos (fun _ _ _ _ _ _ hr gd => walk_twos T hr gd) rd_twos
theorem ok_lowest_share {f : Addr} {fd : FuncData} (F : Fun K "lowest_share" "lowest_share" s_lowest_share f fd) (T : Txt K mg) : FnG P w K mg base CX0 1 f fd ["p", "q", "k"] (spA K 3 S_lowest_share) :=
  fn_ok F sc_lowest_share ar_lowest_share (fun _ _ _ _ _ _ hr gd => walk_lowest_share T hr gd) rd_lowest_share
theorem ok_shares_together {f : Addr} {fd : FuncData} (F : Fun K "shares_together" "shares_together" s_shares_together f fd) (T : Txt K mg) (c_twos : Cal P w K mg base "twos" ["many"] 1 S_twos) (c_lowest_share : Cal P w K mg base "lowest_share" ["p", "q", "k"] 1 S_lowest_share) : FnG P w K mg base CX0 2 f fd ["some"] (spA K 1 S_shares_together) :=
  fn_ok F sc_shares_together ar_shares_together (fun _ _ _ _ _ _ hr gd => walk_shares_together T c_twos c_lowest_share hr gd) rd_shares_together
theorem ok_is_above_nought {f : Addr} {fd : FuncData} (F : Fun K "is_above_nought" "is_above_nought" s_is_above_nought f fd) (T : Txt K mg) : FnG P w K mg base CX0 1 f fd ["p", "q"] (spA K 2 S_is_above_nought) :=
  fn_ok F sc_is_above_nought ar_is_above_nought (fun _ _ _ _ _ _ hr gd => walk_is_above_nought T hr gd) rd_is_above_nought
theorem ok_is_less {f : Addr} {fd : FuncData} (F : Fun K "is_less" "is_less" s_is_less f fd) (T : Txt K mg) (c_shares_together : Cal P w K mg base "shares_together" ["some"] 2 S_shares_together) (c_is_above_nought : Cal P w K mg base "is_above_nought" ["p", "q"] 1 S_is_above_nought) : FnG P w K mg base CX0 3 f fd ["one", "other"] (spA K 2 S_is_less) :=
  fn_ok F sc_is_less ar_is_less (fun _ _ _ _ _ _ hr gd => walk_is_less T c_shares_together c_is_above_nought hr gd) rd_is_less
theorem ok__law_hand {f : Addr} {fd : FuncData} (F : Fun K "_law_hand" "_law_hand" s__law_hand f fd) (T : Txt K mg) : FnG P w K mg base CX0 1 f fd ["_law_script", "_law_k"] (spA K 2 S__law_hand) :=
  fn_ok F sc__law_hand ar__law_hand (fun _ _ _ _ _ _ hr gd => walk__law_hand T hr gd) rd__law_hand
theorem ok__law_take {f : Addr} {fd : FuncData} (F : Fun K "_law_take" "_law_take" s__law_take f fd) (T : Txt K mg) : FnG P w K mg base CX0 1 f fd ["_law_hand_here", "_law_many"] (spA K 2 S__law_take) :=
  fn_ok F sc__law_take ar__law_take (fun _ _ _ _ _ _ hr gd => walk__law_take T hr gd) rd__law_take
theorem ok__law_pick {f : Addr} {fd : FuncData} (F : Fun K "_law_pick" "_law_pick" s__law_pick f fd) (T : Txt K mg) (c__law_take : Cal P w K mg base "_law_take" ["_law_hand_here", "_law_many"] 1 S__law_take) : FnG P w K mg base CX0 2 f fd ["_law_hand_here", "_law_some"] (spA K 2 S__law_pick) :=
  fn_ok F sc__law_pick ar__law_pick (fun _ _ _ _ _ _ hr gd => walk__law_pick T c__law_take hr gd) rd__law_pick
theorem ok__law_great {f : Addr} {fd : FuncData} (F : Fun K "_law_great" "_law_great" s__law_great f fd) (T : Txt K mg) (c__law_pick : Cal P w K mg base "_law_pick" ["_law_hand_here", "_law_some"] 2 S__law_pick) (c__law_take : Cal P w K mg base "_law_take" ["_law_hand_here", "_law_many"] 1 S__law_take) : FnG P w K mg base CX0 3 f fd ["_law_hand_here"] (spA K 1 S__law_great) :=
  fn_ok F sc__law_great ar__law_great (fun _ _ _ _ _ _ hr gd => walk__law_great T c__law_pick c__law_take hr gd) rd__law_great
theorem ok__law_least {f : Addr} {fd : FuncData} (F : Fun K "_law_least" "_law_least" s__law_least f fd) (T : Txt K mg) : FnG P w K mg base CX0 1 f fd ["_law_p", "_law_q", "_law_k"] (spA K 3 S__law_least) :=
  fn_ok F sc__law_least ar__law_least (fun _ _ _ _ _ _ hr gd => walk__law_least T hr gd) rd__law_least
theorem ok__law_root {f : Addr} {fd : FuncData} (F : Fun K "_law_root" "_law_root" s__law_root f fd) (T : Txt K mg) : FnG P w K mg base CX0 1 f fd ["_law_number"] (spA K 1 S__law_root) :=
  fn_ok F sc__law_root ar__law_root (fun _ _ _ _ _ _ hr gd => walk__law_root T hr gd) rd__law_root
theorem ok__law_is_less {f : Addr} {fd : FuncData} (F : Fun K "_law_is_less" "_law_is_less" s__law_is_less f fd) (T : Txt K mg) (c__law_root : Cal P w K mg base "_law_root" ["_law_number"] 1 S__law_root) : FnG P w K mg base CX0 2 f fd ["_law_left", "_law_right"] (spA K 2 S__law_is_less) :=
  fn_ok F sc__law_is_less ar__law_is_less (fun _ _ _ _ _ _ hr gd => walk__law_is_less T c__law_root hr gd) rd__law_is_less
theorem ok__law_near {f : Addr} {fd : FuncData} (F : Fun K "_law_near" "_law_near" s__law_near f fd) (T : Txt K mg) (c__law_take : Cal P w K mg base "_law_take" ["_law_hand_here", "_law_many"] 1 S__law_take) : FnG P w K mg base CX0 2 f fd ["_law_hand_here"] (spA K 1 S__law_near) :=
  fn_ok F sc__law_near ar__law_near (fun _ _ _ _ _ _ hr gd => walk__law_near T c__law_take hr gd) rd__law_near
theorem ok__law_pair {f : Addr} {fd : FuncData} (F : Fun K "_law_pair" "_law_pair" s__law_pair f fd) (T : Txt K mg) (c__law_pick : Cal P w K mg base "_law_pick" ["_law_hand_here", "_law_some"] 2 S__law_pick) (c__law_take : Cal P w K mg base "_law_take" ["_law_hand_here", "_law_many"] 1 S__law_take) (c__law_least : Cal P w K mg base "_law_least" ["_law_p", "_law_q", "_law_k"] 1 S__law_least) (c__law_great : Cal P w K mg base "_law_great" ["_law_hand_here"] 3 S__law_great) (c__law_near : Cal P w K mg base "_law_near" ["_law_hand_here"] 2 S__law_near) : FnG P w K mg base CX0 4 f fd ["_law_hand_here"] (spA K 1 S__law_pair) :=
  fn_ok F sc__law_pair ar__law_pair (fun _ _ _ _ _ _ hr gd => walk__law_pair T c__law_pick c__law_take c__law_least c__law_great c__law_near hr gd) rd__law_pair
theorem ok_law {f : Addr} {fd : FuncData} (F : Fun K "law" "law" s_law f fd) (T : Txt K mg) (c__law_hand : Cal P w K mg base "_law_hand" ["_law_script", "_law_k"] 1 S__law_hand) (c__law_pair : Cal P w K mg base "_law_pair" ["_law_hand_here"] 4 S__law_pair) (c__law_is_less : Cal P w K mg base "_law_is_less" ["_law_left", "_law_right"] 2 S__law_is_less) (c_is_less : Cal P w K mg base "is_less" ["one", "other"] 3 S_is_less) (c__law_pick : Cal P w K mg base "_law_pick" ["_law_hand_here", "_law_some"] 2 S__law_pick) (p_is_less_0 : PCal P w K mg base "is_less" ["one", "other"] 0 ["other", "one"] [1, 0] 3 S_is_less) : FnG P w K mg base CX0 5 f fd ["_law_script"] (spA K 1 S_law) :=
  fn_ok F sc_law ar_law (fun _ _ _ _ _ _ hr gd => walk_law T c__law_hand c__law_pair c__law_is_less c_is_less c__law_pick p_is_less_0 hr gd) rd_law
end
theorem all_mk {l : PySem.W.OpenLaw} {w : World} {K : PySem.W.Frag} {h : Heap} {mg : Str → Option Value} {fa : Addr} (X : K.In h) (G : h.Ns mainGlobals mg) (hfa : mg "law" = some (.ref fa))
    {f0 : Addr} {od0 an0 : Option Addr} {sl0 : Array (Option Value)} {oc0 kV0 dc0 pm0 cd0 ct0 : Value} (a0 : PySem.W.nsIn K mainGlobals "twos" = some (some (.ref f0))) (l0 : K.lookup f0 = some ⟨oc0, od0, .func (PySem.W.fnOf "twos" "twos" (defArgs s_twos) (defBody s_twos) (defScope s_twos) .none kV0 dc0 pm0 an0 cd0 ct0), sl0⟩) (q0 : PySem.W.codeIn K cd0 "twos" = true) (k0 : PySem.W.keepIn K (.ref f0) = true)
    {f1 : Addr} {od1 an1 : Option Addr} {sl1 : Array (Option Value)} {oc1 kV1 dc1 pm1 cd1 ct1 : Value} (a1 : PySem.W.nsIn K mainGlobals "lowest_share" = some (some (.ref f1))) (l1 : K.lookup f1 = some ⟨oc1, od1, .func (PySem.W.fnOf "lowest_share" "lowest_share" (defArgs s_lowest_share) (defBody s_lowest_share) (defScope s_lowest_share) .none kV1 dc1 pm1 an1 cd1 ct1), sl1⟩) (q1 : PySem.W.codeIn K cd1 "lowest_share" = true) (k1 : PySem.W.keepIn K (.ref f1) = true)
    {f2 : Addr} {od2 an2 : Option Addr} {sl2 : Array (Option Value)} {oc2 kV2 dc2 pm2 cd2 ct2 : Value} (a2 : PySem.W.nsIn K mainGlobals "shares_together" = some (some (.ref f2))) (l2 : K.lookup f2 = some ⟨oc2, od2, .func (PySem.W.fnOf "shares_together" "shares_together" (defArgs s_shares_together) (defBody s_shares_together) (defScope s_shares_together) .none kV2 dc2 pm2 an2 cd2 ct2), sl2⟩) (q2 : PySem.W.codeIn K cd2 "shares_together" = true) (k2 : PySem.W.keepIn K (.ref f2) = true)
    {f3 : Addr} {od3 an3 : Option Addr} {sl3 : Array (Option Value)} {oc3 kV3 dc3 pm3 cd3 ct3 : Value} (a3 : PySem.W.nsIn K mainGlobals "is_above_nought" = some (some (.ref f3))) (l3 : K.lookup f3 = some ⟨oc3, od3, .func (PySem.W.fnOf "is_above_nought" "is_above_nought" (defArgs s_is_above_nought) (defBody s_is_above_nought) (defScope s_is_above_nought) .none kV3 dc3 pm3 an3 cd3 ct3), sl3⟩) (q3 : PySem.W.codeIn K cd3 "is_above_nought" = true) (k3 : PySem.W.keepIn K (.ref f3) = true)
    {f4 : Addr} {od4 an4 : Option Addr} {sl4 : Array (Option Value)} {oc4 kV4 dc4 pm4 cd4 ct4 : Value} (a4 : PySem.W.nsIn K mainGlobals "is_less" = some (some (.ref f4))) (l4 : K.lookup f4 = some ⟨oc4, od4, .func (PySem.W.fnOf "is_less" "is_less" (defArgs s_is_less) (defBody s_is_less) (defScope s_is_less) .none kV4 dc4 pm4 an4 cd4 ct4), sl4⟩) (q4 : PySem.W.codeIn K cd4 "is_less" = true) (k4 : PySem.W.keepIn K (.ref f4) = true)
    {f5 : Addr} {od5 an5 : Option Addr} {sl5 : Array (Option Value)} {oc5 kV5 dc5 pm5 cd5 ct5 : Value} (a5 : PySem.W.nsIn K mainGlobals "_law_hand" = some (some (.ref f5))) (l5 : K.lookup f5 = some ⟨oc5, od5, .func (PySem.W.fnOf "_law_hand" "_law_hand" (defArgs s__law_hand) (defBody s__law_hand) (defScope s__law_hand) .none kV5 dc5 pm5 an5 cd5 ct5), sl5⟩) (q5 : PySem.W.codeIn K cd5 "_law_hand" = true) (k5 : PySem.W.keepIn K (.ref f5) = true)
    {f6 : Addr} {od6 an6 : Option Addr} {sl6 : Array (Option Value)} {oc6 kV6 dc6 pm6 cd6 ct6 : Value} (a6 : PySem.W.nsIn K mainGlobals "_law_take" = some (some (.ref f6))) (l6 : K.lookup f6 = some ⟨oc6, od6, .func (PySem.W.fnOf "_law_take" "_law_take" (defArgs s__law_take) (defBody s__law_take) (defScope s__law_take) .none kV6 dc6 pm6 an6 cd6 ct6), sl6⟩) (q6 : PySem.W.codeIn K cd6 "_law_take" = true) (k6 : PySem.W.keepIn K (.ref f6) = true)
    {f7 : Addr} {od7 an7 : Option Addr} {sl7 : Array (Option Value)} {oc7 kV7 dc7 pm7 cd7 ct7 : Value} (a7 : PySem.W.nsIn K mainGlobals "_law_pick" = some (some (.ref f7))) (l7 : K.lookup f7 = some ⟨oc7, od7, .func (PySem.W.fnOf "_law_pick" "_law_pick" (defArgs s__law_pick) (defBody s__law_pick) (defScope s__law_pick) .none kV7 dc7 pm7 an7 cd7 ct7), sl7⟩) (q7 : PySem.W.codeIn K cd7 "_law_pick" = true) (k7 : PySem.W.keepIn K (.ref f7) = true)
    {f8 : Addr} {od8 an8 : Option Addr} {sl8 : Array (Option Value)} {oc8 kV8 dc8 pm8 cd8 ct8 : Value} (a8 : PySem.W.nsIn K mainGlobals "_law_great" = some (some (.ref f8))) (l8 : K.lookup f8 = some ⟨oc8, od8, .func (PySem.W.fnOf "_law_great" "_law_great" (defArgs s__law_great) (defBody s__law_great) (defScope s__law_great) .none kV8 dc8 pm8 an8 cd8 ct8), sl8⟩) (q8 : PySem.W.codeIn K cd8 "_law_great" = true) (k8 : PySem.W.keepIn K (.ref f8) = true)
    {f9 : Addr} {od9 an9 : Option Addr} {sl9 : Array (Option Value)} {oc9 kV9 dc9 pm9 cd9 ct9 : Value} (a9 : PySem.W.nsIn K mainGlobals "_law_least" = some (some (.ref f9))) (l9 : K.lookup f9 = some ⟨oc9, od9, .func (PySem.W.fnOf "_law_least" "_law_least" (defArgs s__law_least) (defBody s__law_least) (defScope s__law_least) .none kV9 dc9 pm9 an9 cd9 ct9), sl9⟩) (q9 : PySem.W.codeIn K cd9 "_law_least" = true) (k9 : PySem.W.keepIn K (.ref f9) = true)
    {f10 : Addr} {od10 an10 : Option Addr} {sl10 : Array (Option Value)} {oc10 kV10 dc10 pm10 cd10 ct10 : Value} (a10 : PySem.W.nsIn K mainGlobals "_law_root" = some (some (.ref f10))) (l10 : K.lookup f10 = some ⟨oc10, od10, .func (PySem.W.fnOf "_law_root" "_law_root" (defArgs s__law_root) (defBody s__law_root) (defScope s__law_root) .none kV10 dc10 pm10 an10 cd10 ct10), sl10⟩) (q10 : PySem.W.codeIn K cd10 "_law_root" = true) (k10 : PySem.W.keepIn K (.ref f10) = true)
    {f11 : Addr} {od11 an11 : Option Addr} {sl11 : Array (Option Value)} {oc11 kV11 dc11 pm11 cd11 ct11 : Value} (a11 : PySem.W.nsIn K mainGlobals "_law_is_less" = some (some (.ref f11))) (l11 : K.lookup f11 = some ⟨oc11, od11, .func (PySem.W.fnOf "_law_is_less" "_law_is_less" (defArgs s__law_is_less) (defBody s__law_is_less) (defScope s__law_is_less) .none kV11 dc11 pm11 an11 cd11 ct11), sl11⟩) (q11 : PySem.W.codeIn K cd11 "_law_is_less" = true) (k11 : PySem.W.keepIn K (.ref f11) = true)
    {f12 : Addr} {od12 an12 : Option Addr} {sl12 : Array (Option Value)} {oc12 kV12 dc12 pm12 cd12 ct12 : Value} (a12 : PySem.W.nsIn K mainGlobals "_law_near" = some (some (.ref f12))) (l12 : K.lookup f12 = some ⟨oc12, od12, .func (PySem.W.fnOf "_law_near" "_law_near" (defArgs s__law_near) (defBody s__law_near) (defScope s__law_near) .none kV12 dc12 pm12 an12 cd12 ct12), sl12⟩) (q12 : PySem.W.codeIn K cd12 "_law_near" = true) (k12 : PySem.W.keepIn K (.ref f12) = true)
    {f13 : Addr} {od13 an13 : Option Addr} {sl13 : Array (Option Value)} {oc13 kV13 dc13 pm13 cd13 ct13 : Value} (a13 : PySem.W.nsIn K mainGlobals "_law_pair" = some (some (.ref f13))) (l13 : K.lookup f13 = some ⟨oc13, od13, .func (PySem.W.fnOf "_law_pair" "_law_pair" (defArgs s__law_pair) (defBody s__law_pair) (defScope s__law_pair) .none kV13 dc13 pm13 an13 cd13 ct13), sl13⟩) (q13 : PySem.W.codeIn K cd13 "_law_pair" = true) (k13 : PySem.W.keepIn K (.ref f13) = true)
    {f14 : Addr} {od14 an14 : Option Addr} {sl14 : Array (Option Value)} {oc14 kV14 dc14 pm14 cd14 ct14 : Value} (a14 : PySem.W.nsIn K mainGlobals "law" = some (some (.ref f14))) (l14 : K.lookup f14 = some ⟨oc14, od14, .func (PySem.W.fnOf "law" "law" (defArgs s_law) (defBody s_law) (defScope s_law) .none kV14 dc14 pm14 an14 cd14 ct14), sl14⟩) (q14 : PySem.W.codeIn K cd14 "law" = true) (k14 : PySem.W.keepIn K (.ref f14) = true)
    (z_range : PySem.W.nsIn K mainGlobals "range" = some none)
    (z_max : PySem.W.nsIn K mainGlobals "max" = some none)
    (z_len : PySem.W.nsIn K mainGlobals "len" = some none)
    (z_abs : PySem.W.nsIn K mainGlobals "abs" = some none)
    (z_int : PySem.W.nsIn K mainGlobals "int" = some none)
    (z_min : PySem.W.nsIn K mainGlobals "min" = some none)
    (z_repr : PySem.W.nsIn K mainGlobals "repr" = some none)
    {p_NO_SHARE : Addr} {t_NO_SHARE_0 t_NO_SHARE_1 t_NO_SHARE_2 : Tok} {d_NO_SHARE : Option Addr} {n_NO_SHARE : Nat} {s_NO_SHARE : Array (Option Value)} (g_NO_SHARE : PySem.W.nsIn K mainGlobals "NO_SHARE" = some (some (.ref p_NO_SHARE))) (h_NO_SHARE : K.lookup p_NO_SHARE = some ⟨.type "tuple", d_NO_SHARE, .seq #[.int (0) t_NO_SHARE_0, .int (0) t_NO_SHARE_1, .int (0) t_NO_SHARE_2] n_NO_SHARE, s_NO_SHARE⟩) :
    ∃ fd : FuncData, (∀ (s : Shared) (v : Value), BindsTo s fd ⟨[v], []⟩ [("_law_script", v)]) ∧ ∀ base : Heap, K.In base → base.Ns mainGlobals mg → FnG l.prog w K mg base CX0 5 fa fd ["_law_script"] (spLaw K SLawP) := by
  have T : Txt K mg := ⟨PySem.W.mg_none_of X G z_range, PySem.W.mg_none_of X G z_max, PySem.W.mg_none_of X G z_len, PySem.W.mg_none_of X G z_abs, PySem.W.mg_none_of X G z_int, PySem.W.mg_none_of X G z_min, PySem.W.mg_none_of X G z_repr, glob_tup (xs := [.int (0), .int (0), .int (0)]) (PySem.W.mg_of X G g_NO_SHARE) h_NO_SHARE rfl rfl (by simp [sizeLine]) (.cons ⟨_, rfl⟩ (.cons ⟨_, rfl⟩ (.cons ⟨_, rfl⟩ (.nil)))) (fun _ => by simp [RepL, Rep])⟩
  have e := hfa.symm.trans (PySem.W.mg_of X G a14)
  cases e
  refine ⟨_, fun s v => BindsTo.of_eq (fd := PySem.W.fnOf "law" "law" (defArgs s_law) (defBody s_law) (defScope s_law) .none kV14 dc14 pm14 an14 cd14 ct14) rfl, fun base _ _ => ?_⟩
  have F_twos := fun_mk (st := s_twos) l0 q0 k0
  have c_twos : Cal l.prog w K mg base "twos" ["many"] 1 S_twos := ⟨_, _, ok_twos F_twos T, PySem.W.mg_of X G a0, k0, F_twos.binds fun _ _ _ _ _ _ us hl => match us, hl with | [_], _ => rfl, ar_twos⟩
  have F_lowest_share := fun_mk (st := s_lowest_share) l1 q1 k1
  have c_lowest_share : Cal l.prog w K mg base "lowest_share" ["p", "q", "k"] 1 S_lowest_share := ⟨_, _, ok_lowest_share F_lowest_share T, PySem.W.mg_of X G a1, k1, F_lowest_share.binds fun _ _ _ _ _ _ us hl => match us, hl with | [_, _, _], _ => rfl, ar_lowest_share⟩
  have F_shares_together := fun_mk (st := s_shares_together) l2 q2 k2
  have c_shares_together : Cal l.prog w K mg base "shares_together" ["some"] 2 S_shares_together := ⟨_, _, ok_shares_together F_shares_together T c_twos c_lowest_share, PySem.W.mg_of X G a2, k2, F_shares_together.binds fun _ _ _ _ _ _ us hl => match us, hl with | [_], _ => rfl, ar_shares_together⟩
  have F_is_above_nought := fun_mk (st := s_is_above_nought) l3 q3 k3
  have c_is_above_nought : Cal l.prog w K mg base "is_above_nought" ["p", "q"] 1 S_is_above_nought := ⟨_, _, ok_is_above_nought F_is_above_nought T, PySem.W.mg_of X G a3, k3, F_is_above_nought.binds fun _ _ _ _ _ _ us hl => match us, hl with | [_, _], _ => rfl, ar_is_above_nought⟩
  have F_is_less := fun_mk (st := s_is_less) l4 q4 k4
  have c_is_less : Cal l.prog w K mg base "is_less" ["one", "other"] 3 S_is_less := ⟨_, _, ok_is_less F_is_less T c_shares_together c_is_above_nought, PySem.W.mg_of X G a4, k4, F_is_less.binds fun _ _ _ _ _ _ us hl => match us, hl with | [_, _], _ => rfl, ar_is_less⟩
  have p_is_less_0 : PCal l.prog w K mg base "is_less" ["one", "other"] 0 ["other", "one"] [1, 0] 3 S_is_less := ⟨_, _, ok_is_less F_is_less T c_shares_together c_is_above_nought, PySem.W.mg_of X G a4, k4, (fun s us ws _ h1 h2 => .of_eq (match us, ws, h1, h2 with | [], [_, _], _, _ => rfl)), ar_is_less⟩
  have F__law_hand := fun_mk (st := s__law_hand) l5 q5 k5
  have c__law_hand : Cal l.prog w K mg base "_law_hand" ["_law_script", "_law_k"] 1 S__law_hand := ⟨_, _, ok__law_hand F__law_hand T, PySem.W.mg_of X G a5, k5, F__law_hand.binds fun _ _ _ _ _ _ us hl => match us, hl with | [_, _], _ => rfl, ar__law_hand⟩
  have F__law_take := fun_mk (st := s__law_take) l6 q6 k6
  have c__law_take : Cal l.prog w K mg base "_law_take" ["_law_hand_here", "_law_many"] 1 S__law_take := ⟨_, _, ok__law_take F__law_take T, PySem.W.mg_of X G a6, k6, F__law_take.binds fun _ _ _ _ _ _ us hl => match us, hl with | [_, _], _ => rfl, ar__law_take⟩
  have F__law_pick := fun_mk (st := s__law_pick) l7 q7 k7
  have c__law_pick : Cal l.prog w K mg base "_law_pick" ["_law_hand_here", "_law_some"] 2 S__law_pick := ⟨_, _, ok__law_pick F__law_pick T c__law_take, PySem.W.mg_of X G a7, k7, F__law_pick.binds fun _ _ _ _ _ _ us hl => match us, hl with | [_, _], _ => rfl, ar__law_pick⟩
  have F__law_great := fun_mk (st := s__law_great) l8 q8 k8
  have c__law_great : Cal l.prog w K mg base "_law_great" ["_law_hand_here"] 3 S__law_great := ⟨_, _, ok__law_great F__law_great T c__law_pick c__law_take, PySem.W.mg_of X G a8, k8, F__law_great.binds fun _ _ _ _ _ _ us hl => match us, hl with | [_], _ => rfl, ar__law_great⟩
  have F__law_least := fun_mk (st := s__law_least) l9 q9 k9
  have c__law_least : Cal l.prog w K mg base "_law_least" ["_law_p", "_law_q", "_law_k"] 1 S__law_least := ⟨_, _, ok__law_least F__law_least T, PySem.W.mg_of X G a9, k9, F__law_least.binds fun _ _ _ _ _ _ us hl => match us, hl with | [_, _, _], _ => rfl, ar__law_least⟩
  have F__law_root := fun_mk (st := s__law_root) l10 q10 k10
  have c__law_root : Cal l.prog w K mg base "_law_root" ["_law_number"] 1 S__law_root := ⟨_, _, ok__law_root F__law_root T, PySem.W.mg_of X G a10, k10, F__law_root.binds fun _ _ _ _ _ _ us hl => match us, hl with | [_], _ => rfl, ar__law_root⟩
  have F__law_is_less := fun_mk (st := s__law_is_less) l11 q11 k11
  have c__law_is_less : Cal l.prog w K mg base "_law_is_less" ["_law_left", "_law_right"] 2 S__law_is_less := ⟨_, _, ok__law_is_less F__law_is_less T c__law_root, PySem.W.mg_of X G a11, k11, F__law_is_less.binds fun _ _ _ _ _ _ us hl => match us, hl with | [_, _], _ => rfl, ar__law_is_less⟩
  have F__law_near := fun_mk (st := s__law_near) l12 q12 k12
  have c__law_near : Cal l.prog w K mg base "_law_near" ["_law_hand_here"] 2 S__law_near := ⟨_, _, ok__law_near F__law_near T c__law_take, PySem.W.mg_of X G a12, k12, F__law_near.binds fun _ _ _ _ _ _ us hl => match us, hl with | [_], _ => rfl, ar__law_near⟩
  have F__law_pair := fun_mk (st := s__law_pair) l13 q13 k13
  have c__law_pair : Cal l.prog w K mg base "_law_pair" ["_law_hand_here"] 4 S__law_pair := ⟨_, _, ok__law_pair F__law_pair T c__law_pick c__law_take c__law_least c__law_great c__law_near, PySem.W.mg_of X G a13, k13, F__law_pair.binds fun _ _ _ _ _ _ us hl => match us, hl with | [_], _ => rfl, ar__law_pair⟩
  exact law_fn (ok_law (fun_mk (st := s_law) l14 q14 k14) T c__law_hand c__law_pair c__law_is_less c_is_less c__law_pick p_is_less_0)
theorem walk {l : PySem.W.OpenLaw} {q : Program} {loose : List Str} {XP : (Str → Option Value) → Heap → Prop} {YP : World → Heap → Prop} {d : DefRec} {K : Params → PySem.W.Frag} (hn : l.most = some 63) (hdf : d.params.defaults = [])
    (hY : ∀ (w : World) (h : Heap), YP w h → (K w.params).In h)
    (F : ∀ (w : World) (mg : Str → Option Value) (fa : Addr) (h : Heap), (K w.params).In h → h.Ns mainGlobals mg → mg d.name = some (.ref fa) → ∃ fd : FuncData, (∀ (s : Shared) (u : Value), BindsTo s fd ⟨[u], []⟩ [("_law_script", u)]) ∧
      ∀ base : Heap, (K w.params).In base → base.Ns mainGlobals mg → FnG l.prog w (K w.params) mg base CX0 5 fa fd ["_law_script"] (spLaw (K w.params) SLawP)) : PySem.W.WalkO q loose XP YP l.row.toRowW d [] (fun f vs => PySem.call f vs) :=
  law_walk (n := 63) (k := 5) hn (by decide) hdf ⟨rfl, by decide, by decide⟩ hY F sLawP_all
end Law
open PySem PySem.W PyProof.Rows in
set_option maxRecDepth 100000 in
set_option maxHeartbeats 0 in
theorem PySem.Challenge.cw_gatewaves_k04_which_share_is_less_holds : PySem.Challenge.rw_gatewaves_k04_which_share_is_less.Holds := by
  w_on; o_law; k_head; (case hw => w_witness2)
  k_fill
  refine Law.walk (l := PySem.Challenge.rw_gatewaves_k04_which_share_is_less) rfl rfl (fun w h Y => PySem.W.kIn_of Y) ?F
  case F =>
    intro w mg fa h KX G hmg
    refine' Law.all_mk KX G hmg ?a0 ?l0 ?q0 ?k0 ?a1 ?l1 ?q1 ?k1 ?a2 ?l2 ?q2 ?k2 ?a3 ?l3 ?q3 ?k3 ?a4 ?l4 ?q4 ?k4 ?a5 ?l5 ?q5 ?k5 ?a6 ?l6 ?q6 ?k6 ?a7 ?l7 ?q7 ?k7 ?a8 ?l8 ?q8 ?k8 ?a9 ?l9 ?q9 ?k9 ?a10 ?l10 ?q10 ?k10 ?a11 ?l11 ?q11 ?k11 ?a12 ?l12 ?q12 ?k12 ?a13 ?l13 ?q13 ?k13 ?a14 ?l14 ?q14 ?k14 ?z_range ?z_max ?z_len ?z_abs ?z_int ?z_min ?z_repr ?g_NO_SHARE ?h_NO_SHARE
    (case a0 => k_is)
    (case l0 => k_is)
    (case q0 => k_is)
    (case k0 => k_is)
    (case a1 => k_is)
    (case l1 => k_is)
    (case q1 => k_is)
    (case k1 => k_is)
    (case a2 => k_is)
    (case l2 => k_is)
    (case q2 => k_is)
    (case k2 => k_is)
    (case a3 => k_is)
    (case l3 => k_is)
    (case q3 => k_is)
    (case k3 => k_is)
    (case a4 => k_is)
    (case l4 => k_is)
    (case q4 => k_is)
    (case k4 => k_is)
    (case a5 => k_is)
    (case l5 => k_is)
    (case q5 => k_is)
    (case k5 => k_is)
    (case a6 => k_is)
    (case l6 => k_is)
    (case q6 => k_is)
    (case k6 => k_is)
    (case a7 => k_is)
    (case l7 => k_is)
    (case q7 => k_is)
    (case k7 => k_is)
    (case a8 => k_is)
    (case l8 => k_is)
    (case q8 => k_is)
    (case k8 => k_is)
    (case a9 => k_is)
    (case l9 => k_is)
    (case q9 => k_is)
    (case k9 => k_is)
    (case a10 => k_is)
    (case l10 => k_is)
    (case q10 => k_is)
    (case k10 => k_is)
    (case a11 => k_is)
    (case l11 => k_is)
    (case q11 => k_is)
    (case k11 => k_is)
    (case a12 => k_is)
    (case l12 => k_is)
    (case q12 => k_is)
    (case k12 => k_is)
    (case a13 => k_is)
    (case l13 => k_is)
    (case q13 => k_is)
    (case k13 => k_is)
    (case a14 => k_is)
    (case l14 => k_is)
    (case q14 => k_is)
    (case k14 => k_is)
    (case z_range => k_is)
    (case z_max => k_is)
    (case z_len => k_is)
    (case z_abs => k_is)
    (case z_int => k_is)
    (case z_min => k_is)
    (case z_repr => k_is)
    (case g_NO_SHARE => k_is)
    (case h_NO_SHARE => k_is)
