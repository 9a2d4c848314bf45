import PyProof.Rows.All
import Wide.All
import OpenK.AllK
import Wide.FinOn
import HandS.Dict
import HandS.TupSets
import KE.KeyNested
import HandS.ForMost
import HandS.Walk
import HandS.Style
import HandS.Flow
import HandS.Wide
import HandS.Zip
import HandS.More
import HandS.Rev
import HandS.Flt
import HandS.TupAny
import HandS.SortInts
import HandS.Exc
import HandS.Lambda
import HandS.EndBits
import PyProof.ReprLen
import HandS.Iter
import HandS.ListItems
import HandS.NoneIn
import KE.KDictZip
import HandS.IsInst
import HandS.Deep
import KE.KUnpackStar
import KE.SortData
import KE.DataCmp
import HandS.ForExc
import HandS.ExcInit
import HandS.ExcOwn
import HandS.ExcField
import HandS.ExcIs
import HandS.TryMany
import KE.KExcIs
import KE.KTryMore
import KE.KExcInit
import HandS.ExcValue
import PyProof.ExcBaseAll.LookupError
import PyProof.ExcBaseAll.RuntimeError
import PyProof.ExcBaseAll.ValueError
import HandS.Text
import HandS.Strs
import HandS.SetFor
import HandS.TupMul
import PyProof.NeKinds
import PyProof.TwoTypes
import PyProof.TwoTypesSub
import PyProof.AutoIntG7
import PyProof.Rows.StrBin
import PyProof.Rows.StrDigits
import HandS.DictTup
import KE.KDictWalk
import HandS.Conv
import KE.KDictSum
import KE.KDictPairs
import HandS.DictComp
import PyProof.Rows.TupDisplay
import PyProof.ReprRoads
import HandS.SetBool
import PyProof.EnumMake
import KE.GoesEnum
import KE.GoesRaise
import KE.KAsSuite
import KE.GoesZip
import KE.GoesMore
import PyProof.DictUpdate
import KE.GoesSet
import HandS.Defaults
import HandS.ToBytes
import HandS.SetKeys
import KE.DatumOrd
import HandS.SortKw
import HandS.ReCall
import HandS.WordsDict
import HandS.RevTup
import KE.DataMinMax
import KE.KDictItemsList
import HandS.CallSlots
import HandS.MakeKwOnly
import HandS.ReplaceLit
import HandS.ReplaceDef
import PySem.Challenge.RW_gatewaves_k20_programs_written
set_option Elab.async false
set_option linter.all false
set_option maxRecDepth 100000
set_option maxHeartbeats 8000000
namespace Gw
open PySem L2
def hashRow (r : List Int) : Int := reduceHash (Builtin.Tuple.tupleHashOf (r.map hashInt))
abbrev RE := List Int × Addr × V
abbrev REv := List Int × Addr × Value
def entR (x : REv) : DictEntry := ⟨hashRow x.1, .ref x.2.1, x.2.2⟩
def ReIs (p : RE) (q : REv) : Prop := p.1 = q.1 ∧ p.2.1 = q.2.1 ∧ RelV p.2.2 q.2.2
structure DcT (h : Heap) (a : Addr) (L : List RE) : Prop where
  ex : ∃ xs : List REv, Paired ReIs L xs ∧ ∃ o es ep, h.get? a = some o ∧ o.ExactDict ∧ o.data = .dict es ep ∧ es.toList = xs.map entR ∧ (xs.map (·.1)).Nodup
  few : L.length ≤ sizeLine
  sys : (a == sysModules) = false
def DcO (a : Addr) (L : List RE) : HO := .ext fun h => DcT h a L
def Nd (K : PySem.W.Frag) (H : Hp) (a : Addr) : Prop := (∃ o u, H a = some (.frz o u) ∧ o.dict = none) ∨ ∃ o, K.lookup a = some o ∧ o.dict = none
def SqN (K : PySem.W.Frag) (H : Hp) (a : Addr) (xs : List V) : Prop := SqT K H a xs ∧ Nd K H a
def KeyR (K : PySem.W.Frag) (H : Hp) (L : List RE) : Prop := ∀ p ∈ L, SqN K H p.2.1 (p.1.map V.int)
mutual
def hashN : NestedKey → Int
  | .none => reduceHash 0xFCA86420
  | .num i => hashInt i
  | .text _ => 0
  | .tup ks => reduceHash (Builtin.Tuple.tupleHashOf (hashNs ks))
def hashNs : List NestedKey → List Int
  | [] => []
  | k :: ks => hashN k :: hashNs ks
end
mutual
def freeN : NestedKey → Bool
  | .none => true
  | .num _ => true
  | .text _ => false
  | .tup ks => freeNs ks
def freeNs : List NestedKey → Bool
  | [] => true
  | k :: ks => freeN k && freeNs ks
end
abbrev NE := NestedKey × Addr × V
abbrev NEv := NestedKey × Addr × Value
def entN (x : NEv) : DictEntry := ⟨hashN x.1, .ref x.2.1, x.2.2⟩
def NeIs (p : NE) (q : NEv) : Prop := p.1 = q.1 ∧ p.2.1 = q.2.1 ∧ RelV p.2.2 q.2.2
structure DcM (h : Heap) (a : Addr) (L : List NE) : Prop where
  ex : ∃ xs : List NEv, Paired NeIs L xs ∧ ∃ o es ep, h.get? a = some o ∧ o.ExactDict ∧ o.data = .dict es ep ∧ es.toList = xs.map entN ∧ (xs.map (·.1)).Nodup
  few : L.length ≤ sizeLine
  sys : (a == sysModules) = false
def DcN (a : Addr) (L : List NE) : HO := .ext fun h => DcM h a L
mutual
/-- the value is such a key -/
def NkR (K : PySem.W.Frag) (H : Hp) : NestedKey → V → Prop
  | .none, v => v = .non
  | .num i, v => v = .int i
  | .text x, v => v = .str x
  | .tup ks, v => ∃ a xs, v = .ref a ∧ SqN K H a xs ∧ NkRL K H ks xs
def NkRL (K : PySem.W.Frag) (H : Hp) : List NestedKey → List V → Prop
  | [], vs => vs = []
  | k :: ks, vs => ∃ x r, vs = x :: r ∧ NkR K H k x ∧ NkRL K H ks r
end
def KeyN (K : PySem.W.Frag) (H : Hp) (L : List NE) : Prop := ∀ p ∈ L, freeN p.1 = true ∧ p.1.depth ≤ 8 ∧ NkR K H p.1 (.ref p.2.1)
end Gw

namespace Gw
open PySem L2

def Ex (H H' : Hp) : Prop := ∀ a o, H a = some o → H' a = some o
theorem Ex.refl (H : Hp) : Ex H H := fun _ _ h => h
theorem Ex.trans {H H1 H2 : Hp} (a : Ex H H1) (b : Ex H1 H2) : Ex H H2 := fun x o h => b x o (a x o h)
theorem Ex.new {H : Hp} {p : Addr} {o : HO} (h : H p = none) : Ex H (upd H p o) := fun a u e => by
  rw [upd_ne (ne_of_none e h)]; exact e
theorem Ex.none {H H' : Hp} {p : Addr} (e : Ex H H') (h : H' p = none) : H p = none := by
  cases q : H p with
  | none => rfl
  | some o => rw [e p o q] at h; cases h
theorem ex_rd {H H' : Hp} {a : Addr} {u : HO} (e : Ex H H') (h : Rd H a u) : Rd H' a u := by
  rcases h with h | ⟨o, h⟩
  · exact .inl (e _ _ h)
  · exact .inr ⟨o, e _ _ h⟩
theorem ex_l {K : PySem.W.Frag} {H H' : Hp} {a : Addr} {xs : List V} (e : Ex H H') (h : SqL K H a xs) : SqL K H' a xs := by
  rcases h with h | h
  · exact .inl (ex_rd e h)
  · exact .inr h
theorem ex_t {K : PySem.W.Frag} {H H' : Hp} {a : Addr} {xs : List V} (e : Ex H H') (h : SqT K H a xs) : SqT K H' a xs := by
  rcases h with h | h
  · exact .inl (ex_rd e h)
  · exact .inr h

theorem ex_nd {K : PySem.W.Frag} {H H' : Hp} {a : Addr} (e : Ex H H') (h : Nd K H a) : Nd K H' a := by
  rcases h with ⟨o, u, h, d⟩ | h
  · exact .inl ⟨o, u, e _ _ h, d⟩
  · exact .inr h
theorem ex_n {K : PySem.W.Frag} {H H' : Hp} {a : Addr} {xs : List V} (e : Ex H H') (h : SqN K H a xs) : SqN K H' a xs := ⟨ex_t e h.1, ex_nd e h.2⟩
def newT (H : Hp) (p : Addr) (o : Obj) (xs : List V) : Hp := upd H p (.frz o (.tup xs))
theorem SqN.new {K : PySem.W.Frag} {H : Hp} {p : Addr} {o : Obj} {xs : List V} (h : o.dict = none) : SqN K (upd H p (.frz o (.tup xs))) p xs :=
  ⟨.inl (.inr ⟨o, upd_same⟩), .inl ⟨o, _, upd_same, h⟩⟩

inductive D where
  | non | bl (b : Bool) | int (i : Int) | str (x : Str)
  | tup (ds : List D) | lst (ds : List D) | scr (ds : List D) | ref (a : Addr)
  | dct (ks : List L2.Key) (ds : List D)
  | exc (cn : Str) (ns : List Str) (ds : List D)
  | dcT (ks : List (List Int)) (ds : List D)
  | dcN (ks : List NestedKey) (ds : List D)

def xob (a C : Addr) (d : Option Addr) : HO := .ext fun h => ∃ (oe : Obj) (vs : Array Value), h.get? a = some oe ∧ Zc (.ref C) d oe ∧ oe.data = .fields vs
def XD (G : Hp) (d : Option Addr) (ws : List (Str × V)) : Prop := (d = none ∧ ws = []) ∨ ∃ dd, d = some dd ∧ G dd = some (.xd ws)
theorem XD.mono {G G' : Hp} {d : Option Addr} {ws : List (Str × V)} (e : Ex G G') (h : XD G d ws) : XD G' d ws := by
  rcases h with h | ⟨dd, h1, h2⟩
  · exact .inl h
  · exact .inr ⟨dd, h1, e _ _ h2⟩
mutual
def Rep (K : PySem.W.Frag) (G : Hp) : D → V → Prop
  | .non, v => v = .non
  | .bl b, v => v = .bl b
  | .int i, v => v = .int i
  | .str x, v => v = .str x
  | .ref a, v => v = .ref a
  | .tup ds, v => ∃ a xs, v = .ref a ∧ SqN K G a xs ∧ RepL K G ds xs
  | .lst ds, v => ∃ a xs, v = .ref a ∧ G a = some (.lst xs) ∧ RepL K G ds xs
  | .scr ds, v => ∃ a xs, v = .ref a ∧ SqL K G a xs ∧ RepL K G ds xs
  | .dct ks ds, v => ∃ a o xs, v = .ref a ∧ G a = some (.frz o (.dK (ks.zip xs))) ∧ ks.length = ds.length ∧ RepL K G ds xs
  | .exc cn ns ds, v => ∃ a C d ws, v = .ref a ∧ PySem.W.nsIn K mainGlobals cn = some (some (.ref C)) ∧ G a = some (xob a C d) ∧ XD G d ws ∧ ws.map (·.1) = ns ∧ RepL K G ds (ws.map (·.2))
  | .dcT ks ds, v => ∃ a o L, v = .ref a ∧ G a = some (.frz o (DcO a L)) ∧ L.map (·.1) = ks ∧ KeyR K G L ∧ RepL K G ds (L.map (·.2.2))
  | .dcN ks ds, v => ∃ a o L, v = .ref a ∧ G a = some (.frz o (DcN a L)) ∧ L.map (·.1) = ks ∧ KeyN K G L ∧ RepL K G ds (L.map (·.2.2))
def RepL (K : PySem.W.Frag) (G : Hp) : List D → List V → Prop
  | [], vs => vs = []
  | d :: ds, vs => ∃ x r, vs = x :: r ∧ Rep K G d x ∧ RepL K G ds r
end
section
variable {K : PySem.W.Frag} {G G' H H' : Hp}
theorem rep_tupN {ds : List D} {v : V} : Rep K G (.tup ds) v ↔ ∃ a xs, v = .ref a ∧ SqN K G a xs ∧ RepL K G ds xs := by rw [Rep]
theorem rep_tup {ds : List D} {v : V} (h : Rep K G (.tup ds) v) : ∃ a xs, v = .ref a ∧ SqT K G a xs ∧ RepL K G ds xs := by
  obtain ⟨a, xs, e, h1, h2⟩ := rep_tupN.mp h
  exact ⟨a, xs, e, h1.1, h2⟩
theorem rep_lst {ds : List D} {v : V} : Rep K G (.lst ds) v ↔ ∃ a xs, v = .ref a ∧ G a = some (.lst xs) ∧ RepL K G ds xs := by rw [Rep]
theorem rep_scr {ds : List D} {v : V} : Rep K G (.scr ds) v ↔ ∃ a xs, v = .ref a ∧ SqL K G a xs ∧ RepL K G ds xs := by rw [Rep]
theorem rep_dct {ks : List L2.Key} {ds : List D} {v : V} : Rep K G (.dct ks ds) v ↔ ∃ a o xs, v = .ref a ∧ G a = some (.frz o (.dK (ks.zip xs))) ∧ ks.length = ds.length ∧ RepL K G ds xs := by rw [Rep]
theorem rep_exc {cn : Str} {ns : List Str} {ds : List D} {v : V} : Rep K G (.exc cn ns ds) v ↔ ∃ a C d ws, v = .ref a ∧ PySem.W.nsIn K mainGlobals cn = some (some (.ref C)) ∧ G a = some (xob a C d) ∧ XD G d ws ∧ ws.map (·.1) = ns ∧ RepL K G ds (ws.map (·.2)) := by rw [Rep]
theorem rep_dcT {ks : List (List Int)} {ds : List D} {v : V} : Rep K G (.dcT ks ds) v ↔ ∃ a o L, v = .ref a ∧ G a = some (.frz o (DcO a L)) ∧ L.map (·.1) = ks ∧ KeyR K G L ∧ RepL K G ds (L.map (·.2.2)) := by rw [Rep]
theorem rep_dcN {ks : List NestedKey} {ds : List D} {v : V} : Rep K G (.dcN ks ds) v ↔ ∃ a o L, v = .ref a ∧ G a = some (.frz o (DcN a L)) ∧ L.map (·.1) = ks ∧ KeyN K G L ∧ RepL K G ds (L.map (·.2.2)) := by rw [Rep]
theorem KeyR.mono {L : List RE} (e : Ex G G') (h : KeyR K G L) : KeyR K G' L := fun p hp => ex_n e (h p hp)
mutual
theorem NkR.mono (e : Ex G G') : ∀ (k : NestedKey) (v : V), NkR K G k v → NkR K G' k v
  | .none, _, h => by rw [NkR] at *; exact h
  | .num _, _, h => by rw [NkR] at *; exact h
  | .text _, _, h => by rw [NkR] at *; exact h
  | .tup ks, v, h => by
    rw [NkR] at h ⊢
    obtain ⟨a, xs, e1, h1, h2⟩ := h
    exact ⟨a, xs, e1, ex_n e h1, NkRL.mono e ks xs h2⟩
theorem NkRL.mono (e : Ex G G') : ∀ (ks : List NestedKey) (vs : List V), NkRL K G ks vs → NkRL K G' ks vs
  | [], _, h => by rw [NkRL] at *; exact h
  | k :: ks, vs, h => by
    rw [NkRL] at h ⊢
    obtain ⟨x, r, e1, h1, h2⟩ := h
    exact ⟨x, r, e1, NkR.mono e k x h1, NkRL.mono e ks r h2⟩
end
theorem KeyN.mono {L : List NE} (e : Ex G G') (h : KeyN K G L) : KeyN K G' L := fun p hp => ⟨(h p hp).1, (h p hp).2.1, NkR.mono e _ _ (h p hp).2.2⟩
theorem repL_cons {d : D} {ds : List D} {vs : List V} : RepL K G (d :: ds) vs ↔ ∃ x r, vs = x :: r ∧ Rep K G d x ∧ RepL K G ds r := by rw [RepL]
theorem repL_nil {vs : List V} : RepL K G [] vs ↔ vs = [] := by rw [RepL]
mutual
theorem Rep.mono (e : Ex G G') : ∀ {d : D} {v : V}, Rep K G d v → Rep K G' d v
  | .non, _, h => by rw [Rep] at *; exact h
  | .bl _, _, h => by rw [Rep] at *; exact h
  | .int _, _, h => by rw [Rep] at *; exact h
  | .str _, _, h => by rw [Rep] at *; exact h
  | .ref _, _, h => by rw [Rep] at *; exact h
  | .tup _, _, h => by
    obtain ⟨a, xs, e1, h1, h2⟩ := rep_tupN.mp h
    exact rep_tupN.mpr ⟨a, xs, e1, ex_n e h1, RepL.mono e h2⟩
  | .lst _, _, h => by
    obtain ⟨a, xs, e1, h1, h2⟩ := rep_lst.mp h
    exact rep_lst.mpr ⟨a, xs, e1, e _ _ h1, RepL.mono e h2⟩
  | .scr _, _, h => by
    obtain ⟨a, xs, e1, h1, h2⟩ := rep_scr.mp h
    exact rep_scr.mpr ⟨a, xs, e1, ex_l e h1, RepL.mono e h2⟩
  | .dct _ _, _, h => by
    obtain ⟨a, o, xs, e1, h1, h0, h2⟩ := rep_dct.mp h
    exact rep_dct.mpr ⟨a, o, xs, e1, e _ _ h1, h0, RepL.mono e h2⟩
  | .exc _ _ _, _, h => by
    obtain ⟨a, C, d, ws, e1, h1, h2, h3, h4, h5⟩ := rep_exc.mp h
    exact rep_exc.mpr ⟨a, C, d, ws, e1, h1, e _ _ h2, h3.mono e, h4, RepL.mono e h5⟩
  | .dcT _ _, _, h => by
    obtain ⟨a, o, L, e1, h1, h2, h3, h4⟩ := rep_dcT.mp h
    exact rep_dcT.mpr ⟨a, o, L, e1, e _ _ h1, h2, h3.mono e, RepL.mono e h4⟩
  | .dcN _ _, _, h => by
    obtain ⟨a, o, L, e1, h1, h2, h3, h4⟩ := rep_dcN.mp h
    exact rep_dcN.mpr ⟨a, o, L, e1, e _ _ h1, h2, h3.mono e, RepL.mono e h4⟩
theorem RepL.mono (e : Ex G G') : ∀ {ds : List D} {vs : List V}, RepL K G ds vs → RepL K G' ds vs
  | [], _, h => by rw [RepL] at *; exact h
  | d :: ds, _, h => by
    obtain ⟨x, r, e1, h1, h2⟩ := repL_cons.mp h
    exact repL_cons.mpr ⟨x, r, e1, Rep.mono e h1, RepL.mono e h2⟩
end
theorem RepL.length : ∀ {ds : List D} {vs : List V}, RepL K G ds vs → vs.length = ds.length
  | [], _, h => by rw [repL_nil.mp h]; rfl
  | d :: ds, _, h => by
    obtain ⟨x, r, rfl, h1, h2⟩ := repL_cons.mp h
    rw [List.length_cons, List.length_cons, RepL.length h2]
theorem RepL.get : ∀ {ds : List D} {vs : List V} {i : Nat} {d : D}, RepL K G ds vs → ds[i]? = some d → ∃ v, vs[i]? = some v ∧ Rep K G d v
  | [], _, i, d, h, e => by simp at e
  | d0 :: ds, _, 0, d, h, e => by
    obtain ⟨x, r, rfl, h1, h2⟩ := repL_cons.mp h
    simp at e; subst e; exact ⟨x, rfl, h1⟩
  | d0 :: ds, _, i + 1, d, h, e => by
    obtain ⟨x, r, rfl, h1, h2⟩ := repL_cons.mp h
    simpa using RepL.get (i := i) h2 (by simpa using e)
theorem RepL.getV {ds : List D} {vs : List V} {i : Nat} {v : V} (h : RepL K G ds vs) (e : vs[i]? = some v) : ∃ d, ds[i]? = some d ∧ Rep K G d v := by
  have hl : i < ds.length := by rw [← h.length]; exact (List.getElem?_eq_some_iff.mp e).1
  obtain ⟨v', e', r⟩ := h.get (List.getElem?_eq_getElem hl)
  rw [e] at e'; cases e'
  exact ⟨_, List.getElem?_eq_getElem hl, r⟩
theorem RepL.append : ∀ {ds es : List D} {vs ws : List V}, RepL K G ds vs → RepL K G es ws → RepL K G (ds ++ es) (vs ++ ws)
  | [], _, _, _, h, h' => by rw [repL_nil.mp h]; exact h'
  | d :: ds, es, _, ws, h, h' => by
    obtain ⟨x, r, rfl, h1, h2⟩ := repL_cons.mp h
    exact repL_cons.mpr ⟨x, r ++ ws, rfl, h1, RepL.append h2 h'⟩
theorem RepL.one {d : D} {v : V} (h : Rep K G d v) : RepL K G [d] [v] := repL_cons.mpr ⟨v, [], rfl, h, repL_nil.mpr rfl⟩
theorem RepL.of_get : ∀ {ds : List D} {vs : List V}, vs.length = ds.length → (∀ (i : Nat) (d : D) (v : V), ds[i]? = some d → vs[i]? = some v → Rep K G d v) → RepL K G ds vs
  | [], vs, hl, _ => repL_nil.mpr (List.length_eq_zero_iff.mp hl)
  | d :: ds, [], hl, _ => by simp at hl
  | d :: ds, v :: vs, hl, h => repL_cons.mpr ⟨v, vs, rfl, h 0 d v rfl rfl, RepL.of_get (by simpa using hl) fun i d' v' a b => h (i + 1) d' v' (by simpa using a) (by simpa using b)⟩
theorem RepL.drop {ds : List D} {vs : List V} (n : Nat) (h : RepL K G ds vs) : RepL K G (ds.drop n) (vs.drop n) := by
  refine .of_get (by rw [List.length_drop, List.length_drop, h.length]) fun i d v a b => ?_
  rw [List.getElem?_drop] at a b
  obtain ⟨v', e, r⟩ := h.get a
  rw [b] at e; cases e; exact r
theorem RepL.take {ds : List D} {vs : List V} (n : Nat) (h : RepL K G ds vs) : RepL K G (ds.take n) (vs.take n) := by
  refine .of_get (by rw [List.length_take, List.length_take, h.length]) fun i d v a b => ?_
  rw [List.getElem?_take] at a b
  split at a
  · rename_i hi
    rw [if_pos hi] at b
    obtain ⟨v', e, r⟩ := h.get a
    rw [b] at e; cases e; exact r
  · cases a
theorem RepL.set {ds : List D} {vs : List V} {d : D} {v : V} (n : Nat) (h : RepL K G ds vs) (r : Rep K G d v) : RepL K G (ds.set n d) (vs.set n v) := by
  refine .of_get (by rw [List.length_set, List.length_set, h.length]) fun i d' v' a b => ?_
  rw [List.getElem?_set] at a b
  by_cases hi : n = i
  · rw [if_pos hi] at a b
    split at a
    · rename_i hn
      rw [if_pos (by rw [h.length]; exact hn)] at b
      cases a; cases b; exact r
    · cases a
  · rw [if_neg hi] at a b
    obtain ⟨w, e, q⟩ := h.get a
    rw [b] at e; cases e; exact q
theorem RepL.reverse {ds : List D} {vs : List V} (h : RepL K G ds vs) : RepL K G ds.reverse vs.reverse := by
  refine .of_get (by rw [List.length_reverse, List.length_reverse, h.length]) fun i d v a b => ?_
  have hi : i < ds.length := by simpa using (List.getElem?_eq_some_iff.mp a).1
  rw [List.getElem?_reverse hi] at a
  rw [List.getElem?_reverse (by rw [h.length]; exact hi), h.length] at b
  obtain ⟨w, e, q⟩ := h.get a
  rw [b] at e; cases e; exact q
theorem repL_map_int {ns : List Int} {vs : List V} : RepL K G (ns.map D.int) vs ↔ vs = ns.map V.int := by
  induction ns generalizing vs with
  | nil => exact repL_nil
  | cons n ns ih =>
    rw [List.map_cons, repL_cons]
    constructor
    · rintro ⟨x, r, rfl, h1, h2⟩
      rw [ih.mp h2, show x = V.int n by rw [Rep] at h1; exact h1]; rfl
    · rintro rfl
      exact ⟨_, _, rfl, by rw [Rep], ih.mpr rfl⟩
theorem repL_map_bl {bs : List Bool} {vs : List V} : RepL K G (bs.map D.bl) vs ↔ vs = bs.map V.bl := by
  induction bs generalizing vs with
  | nil => exact repL_nil
  | cons n ns ih =>
    rw [List.map_cons, repL_cons]
    constructor
    · rintro ⟨x, r, rfl, h1, h2⟩
      rw [ih.mp h2, show x = V.bl n by rw [Rep] at h1; exact h1]; rfl
    · rintro rfl
      exact ⟨_, _, rfl, by rw [Rep], ih.mpr rfl⟩
end

inductive Cell where
  | lst (ds : List D) | dct (ks : List L2.Key) (ds : List D) | dcT (ks : List (List Int)) (ds : List D) | dcN (ks : List NestedKey) (ds : List D) | ins (cn : Str) (ns : List Str) (ds : List D) | tab (q : Str)
inductive Slot where
  | non | dat (d : D) | own (c : Cell)
abbrev Mem := List (Addr × Cell)
abbrev Sl := List Slot
inductive Ret where
  | dat (d : D) | tmp (c : Cell) | var (i : Nat)
def CellOk (K : PySem.W.Frag) (G : Hp) (a : Addr) : Cell → HO → Prop
  | .lst ds, o => ∃ vs, o = .lst vs ∧ RepL K G ds vs
  | .dct ks ds, o => ∃ vs, o = .dK (ks.zip vs) ∧ ks.length = ds.length ∧ RepL K G ds vs
  | .dcT ks ds, o => ∃ L, o = DcO a L ∧ L.map (·.1) = ks ∧ KeyR K G L ∧ RepL K G ds (L.map (·.2.2))
  | .dcN ks ds, o => ∃ L, o = DcN a L ∧ L.map (·.1) = ks ∧ KeyN K G L ∧ RepL K G ds (L.map (·.2.2))
  | .ins cn ns ds, o => ∃ C dx ws, PySem.W.nsIn K mainGlobals cn = some (some (.ref C)) ∧ o = .ins C dx ws ∧ ws.map (·.1) = ns ∧ RepL K G ds (ws.map (·.2))
  | .tab q, o => ∃ ps : Array Value, o = .tbl ps ∧ TriplesOk ps.toList ∧ ∀ (pos : Pos) (cv : Value), codeAmong pos ps.toList = some cv → ∃ c, cv = .ref c ∧ G c = some (LamX.CodeO c q)
def Cel (K : PySem.W.Frag) (H G : Hp) (a : Addr) (c : Cell) : Prop := G a = none ∧ ∃ o, H a = some o ∧ CellOk K G a c o
def dom (M : Mem) : List Addr := M.map (·.1)
theorem CellOk.mono {K : PySem.W.Frag} {G G' : Hp} {a : Addr} {c : Cell} {o : HO} (e : Ex G G') (h : CellOk K G a c o) : CellOk K G' a c o := by
  cases c with
  | lst ds => obtain ⟨vs, e1, h1⟩ := h; exact ⟨vs, e1, h1.mono e⟩
  | dct ks ds => obtain ⟨vs, e1, h0, h1⟩ := h; exact ⟨vs, e1, h0, h1.mono e⟩
  | dcT ks ds => obtain ⟨L, e1, h0, h1, h2⟩ := h; exact ⟨L, e1, h0, h1.mono e, h2.mono e⟩
  | dcN ks ds => obtain ⟨L, e1, h0, h1, h2⟩ := h; exact ⟨L, e1, h0, h1.mono e, h2.mono e⟩
  | ins cn ns ds => obtain ⟨C, dx, ws, e0, e1, h0, h1⟩ := h; exact ⟨C, dx, ws, e0, e1, h0, h1.mono e⟩
  | tab q =>
    obtain ⟨ps, e1, h0, h1⟩ := h
    exact ⟨ps, e1, h0, fun pos cv hc => (h1 pos cv hc).imp fun c z => ⟨z.1, e _ _ z.2⟩⟩

structure Ent where
  H : Hp
  G : Hp
  A : List Addr
variable {ρ : Ent}
structure Refi (P B : Ent) : Prop where
  h : B.H = P.H
  a : B.A = P.A
  g : Ex P.G B.G
  gn : ∀ a o, B.G a = some o → P.G a = some o ∨ P.H a = none
theorem Refi.refl (P : Ent) : Refi P P := ⟨rfl, rfl, Ex.refl _, fun _ _ h => .inl h⟩
structure Stp (B : Ent) (H G : Hp) (M : Mem) : Prop where
  g : Ex B.G G
  fr : ∀ a o, B.H a = some o → a ∉ B.A → H a = some o
  gn : ∀ a o, G a = some o → B.G a = some o ∨ B.H a = none
  mn : ∀ a ∈ dom M, a ∈ B.A ∨ B.H a = none
  nn : ∀ a, H a = none → B.H a = none
def owned (σ : St) (Γ : Sl) (a : Addr) : Prop := ∃ (i : Nat) (c : Cell), Γ[i]? = some (Slot.own c) ∧ σ[i]? = some (some (V.ref a))
structure Ok (K : PySem.W.Frag) (ρ : Ent) (B : Ent) (σ : St) (H G : Hp) (Γ : Sl) (M : Mem) : Prop where
  st : Stp B H G M
  ex : Ex G H
  nd : (dom M).Nodup
  ms : ∀ a c, (a, c) ∈ M → Cel K H G a c
  dat : ∀ (i : Nat) (d : D), Γ[i]? = some (.dat d) → ∃ v, σ[i]? = some (some v) ∧ Rep K G d v
  own : ∀ (i : Nat) (c : Cell), Γ[i]? = some (.own c) → ∃ p, σ[i]? = some (some (.ref p)) ∧ B.H p = none ∧ p ∉ dom M ∧ Cel K H G p c
  dis : ∀ (i j : Nat) (ci cj : Cell) (p : Addr), Γ[i]? = some (.own ci) → Γ[j]? = some (.own cj) → σ[i]? = some (some (.ref p)) → σ[j]? = some (some (.ref p)) → i = j
  len : Γ.length = σ.length
  pb : Refi ρ B
structure Es (σ : St) (H G : Hp) (Γ : Sl) (M : Mem) (H' G' : Hp) (Γ' : Sl) (M' : Mem) : Prop where
  g : Ex G G'
  tmp : ∀ a o, H a = some o → G a = none → a ∉ dom M → ¬ owned σ Γ a → H' a = some o ∧ G' a = none ∧ a ∉ dom M' ∧ ¬ owned σ Γ' a
  nn : ∀ a, H' a = none → H a = none
def RepR (K : PySem.W.Frag) (B : Ent) (σ : St) (H0 H G : Hp) (Γ : Sl) (M : Mem) : Ret → V → Prop
  | .dat d, v => Rep K G d v
  | .tmp c, v => ∃ p, v = .ref p ∧ H0 p = none ∧ B.H p = none ∧ Cel K H G p c ∧ p ∉ dom M ∧ ¬ owned σ Γ p
  | .var i, v => σ[i]? = some (some v)
section
variable {K : PySem.W.Frag} {B : Ent} {σ : St} {H G H1 G1 H2 G2 H0 : Hp} {Γ Γ1 Γ2 : Sl} {M M1 M2 : Mem}
theorem Es.refl : Es σ H G Γ M H G Γ M := ⟨Ex.refl G, fun a o h g m n => ⟨h, g, m, n⟩, fun _ h => h⟩
theorem Es.trans (a : Es σ H G Γ M H1 G1 Γ1 M1) (b : Es σ H1 G1 Γ1 M1 H2 G2 Γ2 M2) : Es σ H G Γ M H2 G2 Γ2 M2 :=
  ⟨a.g.trans b.g, fun x o h g m n => let ⟨h', g', m', n'⟩ := a.tmp x o h g m n; b.tmp x o h' g' m' n', fun x h => a.nn x (b.nn x h)⟩
theorem RepR.old {r : Ret} {v : V} {H0' : Hp} (h : RepR K B σ H0 H G Γ M r v) (e : ∀ a, H0 a = none → H0' a = none) : RepR K B σ H0' H G Γ M r v := by
  cases r with
  | dat d => exact h
  | tmp c => obtain ⟨p, e1, h0, r⟩ := h; exact ⟨p, e1, e p h0, r⟩
  | var i => exact h
theorem RepR.es {r : Ret} {v : V} (h : RepR K B σ H0 H G Γ M r v) (e : Es σ H G Γ M H1 G1 Γ1 M1) : RepR K B σ H0 H1 G1 Γ1 M1 r v := by
  cases r with
  | dat d => exact Rep.mono e.g h
  | tmp c =>
    obtain ⟨p, e1, h0, hb, ⟨hg, o, ho, hc⟩, hm, hn⟩ := h
    obtain ⟨a1, a2, a3, a4⟩ := e.tmp p o ho hg hm hn
    exact ⟨p, e1, h0, hb, ⟨a2, o, a1, hc.mono e.g⟩, a3, a4⟩
  | var i => exact h
theorem Ok.new {p : Addr} {o : HO} (k : Ok K ρ B σ H G Γ M) (hp : H p = none) : Ok K ρ B σ (upd H p o) (upd G p o) Γ M ∧ Es σ H G Γ M (upd H p o) (upd G p o) Γ M := by
  have gp : G p = none := k.ex.none hp
  have eG : Ex G (upd G p o) := Ex.new gp
  have eH : Ex H (upd H p o) := Ex.new hp
  have cel : ∀ a c, Cel K H G a c → Cel K (upd H p o) (upd G p o) a c := fun a c ⟨h1, u, h2, h3⟩ =>
    have ne : a ≠ p := ne_of_none h2 hp
    ⟨by rw [upd_ne ne]; exact h1, u, eH _ _ h2, h3.mono eG⟩
  refine ⟨⟨⟨k.st.g.trans eG, fun a u h n => eH _ _ (k.st.fr a u h n), fun a u h => ?_, k.st.mn, fun a h => k.st.nn a (eH.none h)⟩, fun a u h => ?_, k.nd, fun a c h => cel a c (k.ms a c h), fun i d h => ?_, fun i c h => ?_, k.dis, k.len, k.pb⟩, eG, fun a u h g m n => ?_, fun _ h => eH.none h⟩
  · by_cases e : a = p
    · subst e; exact .inr (k.st.nn _ hp)
    · rw [upd_ne e] at h; exact k.st.gn a u h
  · by_cases e : a = p
    · subst e; rw [upd_same] at h ⊢; exact h
    · rw [upd_ne e] at h ⊢; exact k.ex a u h
  · obtain ⟨v, h1, h2⟩ := k.dat i d h
    exact ⟨v, h1, h2.mono eG⟩
  · obtain ⟨q, h1, h2, h3, h4⟩ := k.own i c h
    exact ⟨q, h1, h2, h3, cel q c h4⟩
  · have ne : a ≠ p := ne_of_none h hp
    exact ⟨eH _ _ h, by rw [upd_ne ne]; exact g, m, n⟩
theorem Ok.tmp {p : Addr} {o : HO} (k : Ok K ρ B σ H G Γ M) (hp : H p = none) : Ok K ρ B σ (upd H p o) G Γ M ∧ Es σ H G Γ M (upd H p o) G Γ M ∧ p ∉ dom M ∧ ¬ owned σ Γ p ∧ B.H p = none ∧ G p = none := by
  have gp : G p = none := k.ex.none hp
  have eH : Ex H (upd H p o) := Ex.new hp
  have cel : ∀ a c, Cel K H G a c → Cel K (upd H p o) G a c := fun a c ⟨h1, u, h2, h3⟩ => ⟨h1, u, eH _ _ h2, h3⟩
  have nm : p ∉ dom M := fun hm => by
    obtain ⟨⟨a, c⟩, h1, h2⟩ := List.mem_map.mp hm
    obtain ⟨_, u, h3, _⟩ := k.ms a c h1
    simp at h2; subst h2; rw [hp] at h3; cases h3
  have no : ¬ owned σ Γ p := fun ⟨i, c, h1, h2⟩ => by
    obtain ⟨q, h3, _, _, _, u, h4, _⟩ := k.own i c h1
    rw [h2] at h3; cases h3; rw [hp] at h4; cases h4
  exact ⟨⟨⟨k.st.g, fun a u h n => eH _ _ (k.st.fr a u h n), k.st.gn, k.st.mn, fun a h => k.st.nn a (eH.none h)⟩, k.ex.trans eH, k.nd, fun a c h => cel a c (k.ms a c h), k.dat, fun i c h => let ⟨q, h1, h2, h3, h4⟩ := k.own i c h; ⟨q, h1, h2, h3, cel q c h4⟩, k.dis, k.len, k.pb⟩,
    ⟨Ex.refl G, fun a u h g m n => ⟨eH _ _ h, g, m, n⟩, fun _ h => eH.none h⟩, nm, no, k.st.nn _ hp, gp⟩
theorem Ok.freeze {p : Addr} {o : HO} (k : Ok K ρ B σ H G Γ M) (hp : H p = some o) (hb : B.H p = none) (hm : p ∉ dom M) (hn : ¬ owned σ Γ p) (hg : G p = none) :
    Ok K ρ B σ H (upd G p o) Γ M ∧ Ex G (upd G p o) := by
  have eG : Ex G (upd G p o) := Ex.new hg
  have cel : ∀ a c, a ≠ p → Cel K H G a c → Cel K H (upd G p o) a c := fun a c ne ⟨h1, u, h2, h3⟩ => ⟨by rw [upd_ne ne]; exact h1, u, h2, h3.mono eG⟩
  refine ⟨⟨⟨k.st.g.trans eG, k.st.fr, fun a u h => ?_, k.st.mn, k.st.nn⟩, fun a u h => ?_, k.nd, fun a c h => cel a c (fun e => hm (e ▸ List.mem_map.mpr ⟨_, h, rfl⟩)) (k.ms a c h), fun i d h => ?_, fun i c h => ?_, k.dis, k.len, k.pb⟩, eG⟩
  · by_cases e : a = p
    · subst e; exact .inr hb
    · rw [upd_ne e] at h; exact k.st.gn a u h
  · by_cases e : a = p
    · subst e; rw [upd_same] at h; cases h; exact hp
    · rw [upd_ne e] at h; exact k.ex a u h
  · obtain ⟨v, h1, h2⟩ := k.dat i d h
    exact ⟨v, h1, h2.mono eG⟩
  · obtain ⟨q, h1, h2, h3, h4⟩ := k.own i c h
    exact ⟨q, h1, h2, h3, cel q c (fun e => hn ⟨i, c, h, e ▸ h1⟩) h4⟩
theorem getElem?_setS {l : Sl} {i j : Nat} {s t : Slot} (h : (l.set i s)[j]? = some t) : (j = i ∧ t = s) ∨ (j ≠ i ∧ l[j]? = some t) := by
  rw [List.getElem?_set] at h
  by_cases e : i = j
  · rw [if_pos e] at h
    split at h
    · cases h; exact .inl ⟨e.symm, rfl⟩
    · cases h
  · rw [if_neg e] at h; exact .inr ⟨fun q => e q.symm, h⟩
theorem Ok.frzSlot {i : Nat} {ds : List D} (k : Ok K ρ B σ H G Γ M) (hi : Γ[i]? = some (.own (.lst ds))) :
    ∃ G' v, Ok K ρ B σ H G' (Γ.set i (.dat (.lst ds))) M ∧ Es σ H G Γ M H G' (Γ.set i (.dat (.lst ds))) M ∧ σ[i]? = some (some v) ∧ Rep K G' (.lst ds) v := by
  obtain ⟨p, s1, hb, hm, hg, o, ho, vs, rfl, hr⟩ := k.own i _ hi
  have no : ¬ owned σ (Γ.set i .non) p := fun ⟨j, c, h1, h2⟩ => by
    rcases getElem?_setS h1 with ⟨_, e⟩ | ⟨ne, e⟩
    · cases e
    · exact ne (k.dis j i _ _ p e hi h2 s1)
  have k0 : Ok K ρ B σ H G (Γ.set i .non) M := ⟨k.st, k.ex, k.nd, k.ms, fun j d h => by
      rcases getElem?_setS h with ⟨_, e⟩ | ⟨_, e⟩
      · cases e
      · exact k.dat j d e, fun j c h => by
      rcases getElem?_setS h with ⟨_, e⟩ | ⟨_, e⟩
      · cases e
      · exact k.own j c e, fun j l c c' q h h' a b => by
      rcases getElem?_setS h with ⟨_, e⟩ | ⟨_, e⟩
      · cases e
      rcases getElem?_setS h' with ⟨_, e'⟩ | ⟨_, e'⟩
      · cases e'
      exact k.dis j l c c' q e e' a b, by rw [List.length_set]; exact k.len, k.pb⟩
  obtain ⟨k1, eG⟩ := k0.freeze ho hb hm no hg
  have rp : Rep K (upd G p (.lst vs)) (.lst ds) (.ref p) := rep_lst.mpr ⟨p, vs, rfl, upd_same, hr.mono eG⟩
  refine ⟨_, _, ⟨k1.st, k1.ex, k1.nd, k1.ms, fun j d h => ?_, fun j c h => ?_, fun j l c c' q h h' a b => ?_, by rw [List.length_set]; exact k.len, k.pb⟩, ⟨eG, fun a u h g m n => ?_, fun _ h => h⟩, s1, rp⟩
  · rcases getElem?_setS h with ⟨e1, e⟩ | ⟨ne, e⟩
    · cases e; subst e1; exact ⟨_, s1, rp⟩
    · exact k1.dat j d (by rw [List.getElem?_set_ne (fun q => ne q.symm)]; exact e)
  · rcases getElem?_setS h with ⟨_, e⟩ | ⟨ne, e⟩
    · cases e
    · exact k1.own j c (by rw [List.getElem?_set_ne (fun q => ne q.symm)]; exact e)
  · rcases getElem?_setS h with ⟨_, e⟩ | ⟨_, e⟩
    · cases e
    rcases getElem?_setS h' with ⟨_, e'⟩ | ⟨_, e'⟩
    · cases e'
    exact k.dis j l c c' q e e' a b
  · have ne : a ≠ p := fun e => n ⟨i, _, hi, e ▸ s1⟩
    refine ⟨h, by rw [upd_ne ne]; exact g, m, fun ⟨j, c, h1, h2⟩ => n ?_⟩
    rcases getElem?_setS h1 with ⟨_, e⟩ | ⟨_, e⟩
    · cases e
    · exact ⟨j, c, e, h2⟩
end
end Gw

namespace Gw
open PySem PySem.Spec L2 PyProof.Rows
abbrev tupO (us : List Value) : Obj := { cls := .type "tuple", data := .seq us.toArray }
def NewT (H : Hp) (xs : List V) (Q : VK) : Prop := ∀ p o, H p = none → o.dict = none → Q (.ref p) (upd H p (.frz o (.tup xs)))
section
variable {X : Cx} {pins : List (Addr × Obj)} {σ : L2.St} {H : Hp} {s : Shared}
theorem made_tup {xs : List V} {us : List Value} {Q : VK} (I : Inv X pins σ H s) (r : Vals xs us) (hz : xs.length ≤ sizeLine) (q : NewT H xs Q) : EP X pins σ Q (.ref s.heap.objs.size) { s with heap := s.heap.push (tupO us) } :=
  ⟨.ref _, _, I.laid (t' := s.toks) (o := .frz (tupO us) (.tup xs)) (fun _ _ z => Heap.get?_push_of_some _ z) (Nat.le_refl _) ⟨Heap.get?_push_size _ rfl, hz, us, r, IsTup.new _ _⟩, rfl, q _ _ (I.hok.fresh (Nat.le_refl _)) rfl⟩
def tTupN (t : TA) : TE := fun σ H Q => t σ H fun xs H1 => xs.length ≤ sizeLine ∧ NewT H1 xs Q
theorem pe_tupN {es : List Expr} {t : TA} {x1} {pos : Pos} (h : PA X es t) : PE X (.Tuple es x1 pos) (tTupN t) := ⟨fun pins s σ H Q I hq => by
  refine wpAny_Tuple_spliced (thn (h.run pos pins s σ H _ I hq) ?_)
  rintro us s1 ⟨xs, H1, I1, r, z, q⟩
  exact ⟨r.length ▸ z, made_tup I1 r z q⟩⟩
def rCatN (K : PySem.W.Frag) : R2 := fun x y H Q => ∃ a b xs ys, x = .ref a ∧ y = .ref b ∧ SqT K H a xs ∧ SqT K H b ys ∧ xs.length + ys.length ≤ sizeLine ∧
  (xs = [] → Q (.ref b) H) ∧ (xs ≠ [] → ys = [] → Q (.ref a) H) ∧ (xs ≠ [] → ys ≠ [] → NewT H (xs ++ ys) Q)
theorem op_catN : OpR X (binaryOp .Add) (rCatN X.K) := by
  rintro pins s σ H x y v u Q I rx ry ⟨a, b, xs, ys, rfl, rfl, ha, hb, hz, q0, q1, q2⟩
  cases rx; cases ry
  obtain ⟨vs, r1, t1, _⟩ := I.tuple ha
  obtain ⟨ws, r2, t2, _⟩ := I.tuple hb
  by_cases e : xs = []
  · subst e
    cases r1
    exact cat_tup0 t1 t2 ⟨.ref b, H, I, rfl, q0 rfl⟩
  · refine HT.cat_tup t1 t2 (fun z => e (r1.nil_iff.mp z)) (fun z => ⟨.ref a, H, I, rfl, q1 e (r2.nil_iff.mp z)⟩) (fun z => ?_) (by rw [← r1.length, ← r2.length]; exact hz)
    exact made_tup I (r1.append r2) (by rw [List.length_append]; exact hz) (q2 e fun w => z (r2.nil_iff.mpr w))
def rSlN (K : PySem.W.Frag) : V → Option Int → Option Int → Hp → VK → Prop := fun x lo hi H Q => ∃ a xs, x = .ref a ∧ SqT K H a xs ∧
  (HT.sIx xs.length 0 lo = 0 ∧ HT.sIx xs.length xs.length hi = xs.length → Q (.ref a) H) ∧ (¬ (HT.sIx xs.length 0 lo = 0 ∧ HT.sIx xs.length xs.length hi = xs.length) → NewT H (cutV xs lo hi) Q)
theorem sl_tupN : SlR X (rSlN X.K) := by
  rintro pins s σ H x v vl vu lo hi sl Q I rx hs pl pu ⟨a, xs, rfl, hx, q1, q2⟩
  by_cases whole : HT.sIx xs.length 0 lo = 0 ∧ HT.sIx xs.length xs.length hi = xs.length
  · exact sl_tupA pins s σ H _ v vl vu lo hi sl Q I rx hs pl pu ⟨a, xs, rfl, hx, q1, fun z => absurd whole z⟩
  · cases rx
    obtain ⟨us, r, t, hz⟩ := I.tuple hx
    have e : us.toArray.size = xs.length := by rw [List.size_toArray, r.length]
    refine ⟨"tuple", _, PyProof.Rows.slot_tuple_getitem.lookup, t.typeIs, HT.getItem_tuple_cut t hs pl pu (e.symm ▸ whole) ?_ (e.symm ▸ hz)⟩
    rw [e]
    exact made_tup I ((r.drop _).take _) (Nat.le_trans (cutV_length xs lo hi) hz) (q2 whole)
def rTupN (K : PySem.W.Frag) : List V → Hp → VK → Prop := fun xs H Q => ∃ p ys, xs = [.ref p] ∧ ((SqL K H p ys ∧ NewT H ys Q) ∨ (SqT K H p ys ∧ Q (.ref p) H))
theorem call_tupN : CallR X (.type "tuple") (rTupN X.K) := by
  rintro pins s σ H xs us Q I r ⟨p, ys, rfl, h⟩
  rcases h with ⟨hl, q⟩ | ht
  · obtain ⟨u, rfl, ru⟩ := vals1 r
    cases ru
    obtain ⟨ws, rw_, l, hz⟩ := I.list hl
    refine call_tuple_list l.isList (fun h' k => ?_) (by rw [List.size_toArray, ← rw_.length]; exact hz)
    exact made_tup (s := { s with heap := h' }) (I.kept (t' := s.toks) k) rw_ hz q
  · exact call_tuple_of pins s σ H _ us Q I r ⟨p, ys, rfl, .inr ht⟩
end
end Gw

namespace Gw
open PySem L2
variable {ρ : Ent}

abbrev AE := Sl → Mem → (Ret → Sl → Mem → Prop) → Prop
abbrev AT := Sl → Mem → (Bool → Sl → Mem → Prop) → Prop
abbrev AA := Sl → Mem → (List D → Sl → Mem → Prop) → Prop
abbrev AOp := Ret → Ret → Sl → Mem → (Ret → Sl → Mem → Prop) → Prop
abbrev AUn := Ret → Sl → Mem → (Ret → Sl → Mem → Prop) → Prop
structure AEnds where
  nx : Sl → Mem → Prop
  rt : Ret → Sl → Mem → Prop
  bk : Sl → Mem → Prop
  ct : Sl → Mem → Prop
abbrev AS := AEnds → Sl → Mem → Prop

section
variable (K : PySem.W.Frag) (ρ : Ent)
def Kont (B : Ent) (σ : St) (H G : Hp) (Γ : Sl) (M : Mem) (Q : Ret → Sl → Mem → Prop) (R : VK) : Prop :=
  ∀ v H' G' Γ' M' r, Ok K ρ B σ H' G' Γ' M' → Es σ H G Γ M H' G' Γ' M' → RepR K B σ H H' G' Γ' M' r v → Q r Γ' M' → R v H'
def RdE (te : TE) (ae : AE) : Prop := ∀ B σ H G Γ M Q R, Ok K ρ B σ H G Γ M → ae Γ M Q → Kont K ρ B σ H G Γ M Q R → te σ H R
def RdT (tt : TT) (at' : AT) : Prop := ∀ B σ H G Γ M (Q : Bool → Sl → Mem → Prop) (R : Bool → Hp → Prop), Ok K ρ B σ H G Γ M → at' Γ M Q →
  (∀ b H' G' Γ' M', Ok K ρ B σ H' G' Γ' M' → Es σ H G Γ M H' G' Γ' M' → Q b Γ' M' → R b H') → tt σ H R
def RdA (ta : TA) (aa : AA) : Prop := ∀ B σ H G Γ M (Q : List D → Sl → Mem → Prop) (R : List V → Hp → Prop), Ok K ρ B σ H G Γ M → aa Γ M Q →
  (∀ vs H' G' Γ' M' ds, Ok K ρ B σ H' G' Γ' M' → Es σ H G Γ M H' G' Γ' M' → RepL K G' ds vs → Q ds Γ' M' → R vs H') → ta σ H R
def RdO (r : R2) (ao : AOp) : Prop := ∀ B σ H H1 H2 G Γ M rx ry x y Q R, Ok K ρ B σ H G Γ M → RepR K B σ H1 H G Γ M rx x → RepR K B σ H2 H G Γ M ry y → ao rx ry Γ M Q → Kont K ρ B σ H G Γ M Q R → r x y H R
def RdU (r : List V → Hp → VK → Prop) (au : AUn) : Prop := ∀ B σ H H1 G Γ M rx x Q R, Ok K ρ B σ H G Γ M → RepR K B σ H1 H G Γ M rx x → au rx Γ M Q → Kont K ρ B σ H G Γ M Q R → r [x] H R
def RdU2 (r : List V → Hp → VK → Prop) (ao : AOp) : Prop := ∀ B σ H H1 H2 G Γ M rx ry x y Q R, Ok K ρ B σ H G Γ M → RepR K B σ H1 H G Γ M rx x → RepR K B σ H2 H G Γ M ry y → ao rx ry Γ M Q → Kont K ρ B σ H G Γ M Q R → r [x, y] H R
def RdV (r : V → Hp → VK → Prop) (au : AUn) : Prop := ∀ B σ H H1 G Γ M rx x Q R, Ok K ρ B σ H G Γ M → RepR K B σ H1 H G Γ M rx x → au rx Γ M Q → Kont K ρ B σ H G Γ M Q R → r x H R
end
structure QE (X : Cx) (ρ : Ent) (e : Expr) (te : TE) (ae : AE) : Prop where
  pe : PE X e te
  rd : RdE X.K ρ te ae
structure QT (X : Cx) (ρ : Ent) (e : Expr) (tt : TT) (at' : AT) : Prop where
  pe : PT X e tt
  rd : RdT X.K ρ tt at'
structure QW (X : Cx) (ρ : Ent) (e : Expr) (tt : TT) (at' : AT) : Prop where
  pe : PW X e tt
  rd : RdT X.K ρ tt at'
structure QA (X : Cx) (ρ : Ent) (es : List Expr) (ta : TA) (aa : AA) : Prop where
  pe : PA X es ta
  rd : RdA X.K ρ ta aa

section
variable {X : Cx} {a b c : Expr} {ta tb tc te : TE} {aa ab ac ae : AE} {pos : Pos} {K : PySem.W.Frag} {B : Ent} {σ : St} {H G H1 G1 H2 G2 : Hp} {Γ Γ1 Γ2 : Sl} {M M1 M2 : Mem}
theorem Kont.es {Q : Ret → Sl → Mem → Prop} {R : VK} (k : Kont K ρ B σ H G Γ M Q R) (e : Es σ H G Γ M H1 G1 Γ1 M1) : Kont K ρ B σ H1 G1 Γ1 M1 Q R :=
  fun v H' G' Γ' M' r o e' rr q => k v H' G' Γ' M' r o (e.trans e') (rr.old fun p h => e.nn p h) q

def aVar (i : Nat) (Γ : Sl) (M : Mem) (Q : Ret → Sl → Mem → Prop) : Prop := match Γ[i]? with
  | some (.dat d) => Q (.dat d) Γ M
  | some (.own _) => Q (.var i) Γ M
  | _ => False
def aC (d : D) (Γ : Sl) (M : Mem) (Q : Ret → Sl → Mem → Prop) : Prop := Q (.dat d) Γ M
theorem rd_var (i : Nat) : RdE K ρ (tVar i) (aVar i) := by
  intro B σ H G Γ M Q R k h q
  unfold aVar at h
  split at h
  · rename_i d e
    obtain ⟨v, h1, h2⟩ := k.dat i d e
    exact ⟨v, h1, q v H G Γ M (.dat d) k .refl h2 h⟩
  · rename_i c e
    obtain ⟨p, h1, _⟩ := k.own i c e
    exact ⟨_, h1, q _ H G Γ M (.var i) k .refl h1 h⟩
  · exact h.elim
theorem rd_c {v : V} {d : D} (h : ∀ G, Rep K G d v) : RdE K ρ (tC v) (aC d) := fun _ _ H G Γ M _ _ k h' q => q v H G Γ M (.dat d) k .refl (h G) h'
theorem qv (i : Nat) {x : Str} {pos : Pos} (hN : X.N[i]? = some x := by rfl) (hv : Vis X.env.scope x := by first | exact Or.inl rfl | exact Or.inr (Or.inl rfl) | exact Or.inr (Or.inr rfl)) (hd : (x == ("__debug__" : Str)) = false := by decide)
    (hcd : (x == ("__classdict__" : Str)) = false := by decide) : QE X ρ (.Name x pos) (tVar i) (aVar i) := ⟨pe_var hN hv hd hcd, rd_var i⟩
theorem q_int {i j pos} : QE X ρ (.Constant (.int i) j pos) (tC (.int i)) (aC (.int i)) := ⟨pe_int, rd_c fun _ => by rw [Rep]⟩
theorem q_bl {b j pos} : QE X ρ (.Constant (.bool b) j pos) (tC (.bl b)) (aC (.bl b)) := ⟨pe_bl, rd_c fun _ => by rw [Rep]⟩
theorem q_non {j pos} : QE X ρ (.Constant .none j pos) (tC .non) (aC .non) := ⟨pe_non, rd_c fun _ => by rw [Rep]⟩
theorem q_str {x j pos} : QE X ρ (.Constant (.str x) j pos) (tC (.str x)) (aC (.str x)) := ⟨pe_str, rd_c fun _ => by rw [Rep]⟩

def frz (r : Ret) (Γ : Sl) (k : D → Sl → Prop) : Prop := match r with
  | .dat d => k d Γ
  | .tmp (.lst ds) => k (.lst ds) Γ
  | .tmp _ => False
  | .var i => match Γ[i]? with
    | some (.dat d) => k d Γ
    | some (.own (.lst ds)) => k (.lst ds) (Γ.set i (.dat (.lst ds)))
    | _ => False
theorem frz_ok {r : Ret} {v : V} {k : D → Sl → Prop} {H0 : Hp} (o : Ok K ρ B σ H1 G1 Γ1 M1) (e : Es σ H G Γ M H1 G1 Γ1 M1) (rr : RepR K B σ H H1 G1 Γ1 M1 r v) (h : frz r Γ1 k) :
    ∃ G2 Γ2 d, Ok K ρ B σ H1 G2 Γ2 M1 ∧ Es σ H G Γ M H1 G2 Γ2 M1 ∧ Rep K G2 d v ∧ k d Γ2 := by
  cases r with
  | dat d => exact ⟨G1, Γ1, d, o, e, rr, h⟩
  | tmp c =>
    obtain ⟨p, rfl, h0, hb, ⟨hg, u, hu, hc⟩, hm, hn⟩ := rr
    cases c with
    | lst ds =>
      obtain ⟨vs, rfl, hr⟩ := hc
      obtain ⟨k1, eG⟩ := o.freeze hu hb hm hn hg
      refine ⟨_, Γ1, .lst ds, k1, ⟨e.g.trans eG, fun a w h g m n => ?_, e.nn⟩, rep_lst.mpr ⟨p, vs, rfl, upd_same, hr.mono eG⟩, h⟩
      obtain ⟨a1, a2, a3, a4⟩ := e.tmp a w h g m n
      have ne : a ≠ p := ne_of_none h h0
      exact ⟨a1, by rw [upd_ne ne]; exact a2, a3, a4⟩
    | dct ks ds => exact h.elim
    | dcT ks ds => exact h.elim
    | dcN ks ds => exact h.elim
    | ins cn ns ds => exact h.elim
    | tab q => exact h.elim
  | var i =>
    unfold frz at h
    dsimp only at h
    split at h
    · rename_i d e1
      obtain ⟨v', h1, h2⟩ := o.dat i d e1
      have : v' = v := by have := (show σ[i]? = some (some v) from rr); rw [h1] at this; cases this; rfl
      subst this
      exact ⟨G1, Γ1, d, o, e, h2, h⟩
    · rename_i ds e1
      obtain ⟨G2, v', k1, e2, h1, h2⟩ := o.frzSlot e1
      have : v' = v := by have := (show σ[i]? = some (some v) from rr); rw [h1] at this; cases this; rfl
      subst this
      exact ⟨G2, _, _, k1, e.trans e2, h2, h⟩
    · exact h.elim
inductive Sq where
  | tup (ds : List D) | lst (ds : List D) | scr (ds : List D)
def Sq.ds : Sq → List D
  | .tup ds => ds
  | .lst ds => ds
  | .scr ds => ds
def sqD (M : Mem) : D → Option Sq
  | .tup ds => some (.tup ds)
  | .lst ds => some (.lst ds)
  | .scr ds => some (.scr ds)
  | .ref a => match M.lookup a with
    | some (.lst ds) => some (.lst ds)
    | _ => none
  | _ => none
def sqOf (r : Ret) (Γ : Sl) (M : Mem) : Option Sq := match r with
  | .dat d => sqD M d
  | .tmp (.lst ds) => some (.lst ds)
  | .tmp _ => none
  | .var i => match Γ[i]? with
    | some (.dat d) => sqD M d
    | some (.own (.lst ds)) => some (.lst ds)
    | _ => none
theorem lookup_mem {M : Mem} {a : Addr} {c : Cell} (h : M.lookup a = some c) : (a, c) ∈ M := by
  induction M with
  | nil => cases h
  | cons x M ih =>
    obtain ⟨b, c'⟩ := x
    rw [List.lookup_cons] at h
    by_cases e : a = b
    · subst e; rw [beq_self_eq_true] at h; cases h; exact List.mem_cons_self
    · rw [beq_eq_false_iff_ne.mpr e] at h; exact List.mem_cons_of_mem _ (ih h)
def SqR (K : PySem.W.Frag) (H G : Hp) (s : Sq) (v : V) : Prop := match s with
  | .tup ds => ∃ a xs, v = .ref a ∧ SqT K H a xs ∧ RepL K G ds xs
  | .lst ds => ∃ a xs, v = .ref a ∧ H a = some (.lst xs) ∧ RepL K G ds xs
  | .scr ds => ∃ a xs, v = .ref a ∧ SqL K H a xs ∧ RepL K G ds xs
theorem SqR.rd {s : Sq} {v : V} (h : SqR K H G s v) : ∃ a xs, v = .ref a ∧ ((∃ ds, s = .tup ds ∧ SqT K H a xs) ∨ ((∃ ds, s = .lst ds ∨ s = .scr ds) ∧ SqL K H a xs)) ∧ RepL K G s.ds xs := by
  cases s with
  | tup ds => obtain ⟨a, xs, e, h1, h2⟩ := h; exact ⟨a, xs, e, .inl ⟨ds, rfl, h1⟩, h2⟩
  | lst ds => obtain ⟨a, xs, e, h1, h2⟩ := h; exact ⟨a, xs, e, .inr ⟨⟨ds, .inl rfl⟩, SqL.of h1⟩, h2⟩
  | scr ds => obtain ⟨a, xs, e, h1, h2⟩ := h; exact ⟨a, xs, e, .inr ⟨⟨ds, .inr rfl⟩, h1⟩, h2⟩
theorem sqD_ok {d : D} {v : V} {s : Sq} (o : Ok K ρ B σ H G Γ M) (r : Rep K G d v) (h : sqD M d = some s) : SqR K H G s v := by
  unfold sqD at h
  split at h
  · cases h
    obtain ⟨a, xs, e, h1, h2⟩ := rep_tup r
    exact ⟨a, xs, e, ex_t o.ex h1, h2⟩
  · cases h
    obtain ⟨a, xs, e, h1, h2⟩ := rep_lst.mp r
    exact ⟨a, xs, e, o.ex _ _ h1, h2⟩
  · cases h
    obtain ⟨a, xs, e, h1, h2⟩ := rep_scr.mp r
    exact ⟨a, xs, e, ex_l o.ex h1, h2⟩
  · rename_i a
    split at h
    · rename_i ds e
      cases h
      obtain ⟨_, u, hu, vs, rfl, hr⟩ := o.ms a _ (lookup_mem e)
      rw [Rep] at r
      exact ⟨a, vs, r, hu, hr⟩
    · cases h
  · cases h
theorem sqOf_ok {r : Ret} {v : V} {s : Sq} {H0 : Hp} (o : Ok K ρ B σ H G Γ M) (rr : RepR K B σ H0 H G Γ M r v) (h : sqOf r Γ M = some s) : SqR K H G s v := by
  cases r with
  | dat d => exact sqD_ok o rr h
  | tmp c =>
    cases c with
    | lst ds =>
      cases h
      obtain ⟨p, rfl, h0, hb, ⟨hg, u, hu, vs, rfl, hr⟩, hm, hn⟩ := rr
      exact ⟨p, vs, rfl, hu, hr⟩
    | dct ks ds => cases h
    | dcT ks ds => cases h
    | dcN ks ds => cases h
    | ins cn ns ds => cases h
    | tab q => cases h
  | var i =>
    unfold sqOf at h
    dsimp only at h
    split at h
    · rename_i d e1
      obtain ⟨v', h1, h2⟩ := o.dat i d e1
      have : v' = v := by have := (show σ[i]? = some (some v) from rr); rw [h1] at this; cases this; rfl
      subst this
      exact sqD_ok o h2 h
    · rename_i ds e1
      cases h
      obtain ⟨p, s1, hb, hm, hg, u, ho, vs, rfl, hr⟩ := o.own i _ e1
      have : v = .ref p := by have := (show σ[i]? = some (some v) from rr); rw [s1] at this; cases this; rfl
      subst this
      exact ⟨p, vs, rfl, ho, hr⟩
    · cases h

def aOp (ao : AOp) (aa ab : AE) (Γ : Sl) (M : Mem) (Q : Ret → Sl → Mem → Prop) : Prop := aa Γ M fun x Γ1 M1 => ab Γ1 M1 fun y Γ2 M2 => ao x y Γ2 M2 Q
theorem rd_op {r : R2} {ao : AOp} (ho : RdO K ρ r ao) (ha : RdE K ρ ta aa) (hb : RdE K ρ tb ab) : RdE K ρ (tOp r ta tb) (aOp ao aa ab) := by
  intro B σ H G Γ M Q R k h q
  refine ha B σ H G Γ M _ _ k h fun v H1 G1 Γ1 M1 r1 k1 e1 rr1 h1 => ?_
  refine hb B σ H1 G1 Γ1 M1 _ _ k1 h1 fun u H2 G2 Γ2 M2 r2 k2 e2 rr2 h2 => ?_
  exact ho B σ H2 _ _ G2 Γ2 M2 r1 r2 v u Q R k2 (rr1.es e2) rr2 h2 (q.es (e1.trans e2))
theorem q_op {op : Operator} {r : R2} {ao : AOp} (ho : OpR X (binaryOp op) r) (hr : RdO X.K ρ r ao) (ha : QE X ρ a ta aa) (hb : QE X ρ b tb ab) : QE X ρ (.BinOp a op b pos) (tOp r ta tb) (aOp ao aa ab) := ⟨pe_op ho ha.pe hb.pe, rd_op hr ha.rd hb.rd⟩
structure CmpR (X : Cx) (ρ : Ent) (op : CmpOp) (r : R2) (ao : AOp) : Prop where
  ho : OpR X (compareOp op) r
  rd : RdO X.K ρ r ao
theorem q_cmp {op : CmpOp} {r : R2} {ao : AOp} (c : CmpR X ρ op r ao) (ha : QE X ρ a ta aa) (hb : QE X ρ b tb ab) (hm : behindInMarks op b = false := by first | exact nomark _ | rfl) : QE X ρ (.Compare a [op] [b] pos) (tOp r ta tb) (aOp ao aa ab) :=
  ⟨pe_cmpR c.ho ha.pe hb.pe hm, rd_op c.rd ha.rd hb.rd⟩
theorem q_ix {r : R2} {ao : AOp} (ho : IxR X r) (hr : RdO X.K ρ r ao) (ha : QE X ρ a ta aa) (hb : QE X ρ b tb ab) (hs : PlainIx b := by exact fun _ _ => rfl) : QE X ρ (.Subscript a b pos) (tOp r ta tb) (aOp ao aa ab) := ⟨pe_ix ho ha.pe hb.pe hs, rd_op hr ha.rd hb.rd⟩
def aI0 (g : Int → Int → D) (x : Ret) (y : Ret) (Γ : Sl) (M : Mem) (Q : Ret → Sl → Mem → Prop) : Prop := match x, y with
  | .dat (.int i), .dat (.int j) => Q (.dat (g i j)) Γ M
  | _, _ => False
def aIC (C : Int → Int → Prop) (g : Int → Int → D) (x : Ret) (y : Ret) (Γ : Sl) (M : Mem) (Q : Ret → Sl → Mem → Prop) : Prop := match x, y with
  | .dat (.int i), .dat (.int j) => C i j ∧ Q (.dat (g i j)) Γ M
  | _, _ => False
theorem rd_I0 {g : Int → Int → V} {g' : Int → Int → D} (hg : ∀ i j G, Rep K G (g' i j) (g i j)) : RdO K ρ (rI0 g) (aI0 g') := by
  intro B σ H H1 H2 G Γ M rx ry x y Q R k r1 r2 h q
  unfold aI0 at h
  split at h
  · rename_i i j
    have e1 : x = .int i := by have := r1; simp only [RepR, Rep] at this; exact this
    have e2 : y = .int j := by have := r2; simp only [RepR, Rep] at this; exact this
    exact ⟨i, j, e1, e2, q _ H G Γ M (.dat _) k .refl (hg i j G) h⟩
  · exact h.elim
theorem rd_IC {C : Int → Int → Prop} {g : Int → Int → V} {g' : Int → Int → D} (hg : ∀ i j G, Rep K G (g' i j) (g i j)) : RdO K ρ (rI C g) (aIC C g') := by
  intro B σ H H1 H2 G Γ M rx ry x y Q R k r1 r2 h q
  unfold aIC at h
  split at h
  · rename_i i j
    have e1 : x = .int i := by have := r1; simp only [RepR, Rep] at this; exact this
    have e2 : y = .int j := by have := r2; simp only [RepR, Rep] at this; exact this
    exact ⟨i, j, e1, e2, h.1, q _ H G Γ M (.dat _) k .refl (hg i j G) h.2⟩
  · exact h.elim
theorem q_add (ha : QE X ρ a ta aa) (hb : QE X ρ b tb ab) : QE X ρ (.BinOp a .Add b pos) (tOp (rI0 fun i j => .int (i + j)) ta tb) (aOp (aI0 fun i j => .int (i + j)) aa ab) := q_op op_add (rd_I0 fun _ _ _ => by rw [Rep]) ha hb
theorem q_sub (ha : QE X ρ a ta aa) (hb : QE X ρ b tb ab) : QE X ρ (.BinOp a .Sub b pos) (tOp (rI0 fun i j => .int (i - j)) ta tb) (aOp (aI0 fun i j => .int (i - j)) aa ab) := q_op op_sub (rd_I0 fun _ _ _ => by rw [Rep]) ha hb
def CM (i j : Int) : Prop := CMul i j ∨ CMulW i j
theorem op_mulA : OpR X (binaryOp .Mult) (rI CM fun i j => .int (i * j)) := fun pins s σ H x y v u Q I rx ry h => by
  obtain ⟨i, j, e1, e2, hc, q⟩ := h
  rcases hc with hc | hc
  · exact op_mul pins s σ H x y v u Q I rx ry ⟨i, j, e1, e2, hc, q⟩
  · exact op_mulW pins s σ H x y v u Q I rx ry ⟨i, j, e1, e2, hc, q⟩
theorem q_mul (ha : QE X ρ a ta aa) (hb : QE X ρ b tb ab) : QE X ρ (.BinOp a .Mult b pos) (tOp (rI CM fun i j => .int (i * j)) ta tb) (aOp (aIC CM fun i j => .int (i * j)) aa ab) := q_op op_mulA (rd_IC fun _ _ _ => by rw [Rep]) ha hb
theorem q_mod (ha : QE X ρ a ta aa) (hb : QE X ρ b tb ab) : QE X ρ (.BinOp a .Mod b pos) (tOp (rI (fun _ j => j ≠ 0) fun i j => .int (i.fmod j)) ta tb) (aOp (aIC (fun _ j => j ≠ 0) fun i j => .int (i.fmod j)) aa ab) := q_op op_modN (rd_IC fun _ _ _ => by rw [Rep]) ha hb
theorem q_div (ha : QE X ρ a ta aa) (hb : QE X ρ b tb ab) : QE X ρ (.BinOp a .FloorDiv b pos) (tOp (rI CDivW fun i j => .int (i / j)) ta tb) (aOp (aIC CDivW fun i j => .int (i / j)) aa ab) := q_op op_fdivW (rd_IC fun _ _ _ => by rw [Rep]) ha hb
theorem c_lt : CmpR X ρ .Lt (rI0 fun i j => .bl (decide (i < j))) (aI0 fun i j => .bl (decide (i < j))) := ⟨op_lt, rd_I0 fun _ _ _ => by rw [Rep]⟩
theorem c_le : CmpR X ρ .LtE (rI0 fun i j => .bl (decide (i ≤ j))) (aI0 fun i j => .bl (decide (i ≤ j))) := ⟨op_le, rd_I0 fun _ _ _ => by rw [Rep]⟩
theorem c_gt : CmpR X ρ .Gt (rI0 fun i j => .bl (decide (j < i))) (aI0 fun i j => .bl (decide (j < i))) := ⟨op_gt, rd_I0 fun _ _ _ => by rw [Rep]⟩
theorem c_ge : CmpR X ρ .GtE (rI0 fun i j => .bl (decide (j ≤ i))) (aI0 fun i j => .bl (decide (j ≤ i))) := ⟨op_ge, rd_I0 fun _ _ _ => by rw [Rep]⟩

def aNil (Γ : Sl) (M : Mem) (Q : List D → Sl → Mem → Prop) : Prop := Q [] Γ M
def aCons (aa : AE) (ar : AA) (Γ : Sl) (M : Mem) (Q : List D → Sl → Mem → Prop) : Prop := aa Γ M fun r Γ1 M1 => frz r Γ1 fun d Γ2 => ar Γ2 M1 fun ds Γ3 M3 => Q (d :: ds) Γ3 M3
theorem rd_nil : RdA K ρ tNil aNil := fun _ _ H G Γ M _ _ k h q => q [] H G Γ M [] k .refl (repL_nil.mpr rfl) h
theorem rd_cons {tr : TA} {ar : AA} (ha : RdE K ρ ta aa) (hr : RdA K ρ tr ar) : RdA K ρ (tCons ta tr) (aCons aa ar) := by
  intro B σ H G Γ M Q R k h q
  refine ha B σ H G Γ M _ _ k h fun v H1 G1 Γ1 M1 r k1 e1 rr h1 => ?_
  obtain ⟨G2, Γ2, d, k2, e2, rp, h2⟩ := frz_ok (H0 := H) k1 e1 rr h1
  refine hr B σ H1 G2 Γ2 M1 _ _ k2 h2 fun vs H3 G3 Γ3 M3 ds k3 e3 rl h3 => ?_
  exact q _ H3 G3 Γ3 M3 (d :: ds) k3 (e2.trans e3) (repL_cons.mpr ⟨v, vs, rfl, rp.mono e3.g, rl⟩) h3
theorem qa_nil : QA X ρ [] tNil aNil := ⟨pa_nil, rd_nil⟩
theorem qa_cons {es : List Expr} {tr : TA} {ar : AA} (ha : QE X ρ a ta aa) (hr : QA X ρ es tr ar) (hs : starEach (a :: es) X.env = (false, eval a X.env) :: starEach es X.env := by rfl) : QA X ρ (a :: es) (tCons ta tr) (aCons aa ar) := ⟨pa_cons ha.pe hr.pe hs, rd_cons ha.rd hr.rd⟩
def aTup (aa : AA) (Γ : Sl) (M : Mem) (Q : Ret → Sl → Mem → Prop) : Prop := aa Γ M fun ds Γ1 M1 => ds.length ≤ sizeLine ∧ Q (.dat (.tup ds)) Γ1 M1
def aLst (aa : AA) (Γ : Sl) (M : Mem) (Q : Ret → Sl → Mem → Prop) : Prop := aa Γ M fun ds Γ1 M1 => ds.length ≤ sizeLine ∧ Q (.tmp (.lst ds)) Γ1 M1
theorem rd_tup {tr : TA} {ar : AA} (ha : RdA K ρ tr ar) : RdE K ρ (tTupN tr) (aTup ar) := by
  intro B σ H G Γ M Q R k h q
  refine ha B σ H G Γ M _ _ k h fun vs H1 G1 Γ1 M1 ds k1 e1 rl ⟨hl, h1⟩ => ⟨by rw [rl.length]; exact hl, fun p o hp hd => ?_⟩
  obtain ⟨k2, e2⟩ := k1.new (o := .frz o (.tup vs)) hp
  exact q _ _ _ Γ1 M1 (.dat (.tup ds)) k2 (e1.trans e2) (rep_tupN.mpr ⟨p, vs, rfl, SqN.new hd, rl.mono e2.g⟩) h1
theorem rd_lst {tr : TA} {ar : AA} (ha : RdA K ρ tr ar) : RdE K ρ (tLst tr) (aLst ar) := by
  intro B σ H G Γ M Q R k h q
  refine ha B σ H G Γ M _ _ k h fun vs H1 G1 Γ1 M1 ds k1 e1 rl ⟨hl, h1⟩ => ⟨by rw [rl.length]; exact hl, fun p hp => ?_⟩
  obtain ⟨k2, e2, hm, hn, hb, hg⟩ := k1.tmp (o := .lst vs) hp
  exact q _ _ _ Γ1 M1 (.tmp (.lst ds)) k2 (e1.trans e2) ⟨p, rfl, e1.nn p hp, hb, ⟨hg, _, upd_same, vs, rfl, rl⟩, hm, hn⟩ h1
theorem q_tup {es : List Expr} {x1} {tr : TA} {ar : AA} (h : QA X ρ es tr ar) : QE X ρ (.Tuple es x1 pos) (tTupN tr) (aTup ar) := ⟨pe_tupN h.pe, rd_tup h.rd⟩
theorem q_lst {es : List Expr} {tr : TA} {ar : AA} (h : QA X ρ es tr ar) : QE X ρ (.List es pos) (tLst tr) (aLst ar) := ⟨pe_lst h.pe, rd_lst h.rd⟩
theorem Kont.newL {Q : Ret → Sl → Mem → Prop} {R : VK} {ds : List D} {vs : List V} (q : Kont K ρ B σ H G Γ M Q R) (k : Ok K ρ B σ H G Γ M) (rl : RepL K G ds vs) (h : Q (.tmp (.lst ds)) Γ M) : ∀ p, H p = none → R (.ref p) (upd H p (.lst vs)) := fun p hp => by
  obtain ⟨k2, e2, hm, hn, hb, hg⟩ := k.tmp (o := .lst vs) hp
  exact q _ _ _ Γ M (.tmp (.lst ds)) k2 e2 ⟨p, rfl, hp, hb, ⟨hg, _, upd_same, vs, rfl, rl⟩, hm, hn⟩ h
theorem Kont.newT {Q : Ret → Sl → Mem → Prop} {R : VK} {ds : List D} {vs : List V} (q : Kont K ρ B σ H G Γ M Q R) (k : Ok K ρ B σ H G Γ M) (rl : RepL K G ds vs) (h : Q (.dat (.tup ds)) Γ M) : NewT H vs R := fun p o hp hd => by
  obtain ⟨k2, e2⟩ := k.new (o := .frz o (.tup vs)) hp
  exact q _ _ _ Γ M (.dat (.tup ds)) k2 e2 (rep_tupN.mpr ⟨p, vs, rfl, SqN.new hd, rl.mono e2.g⟩) h

def aTst (aa : AE) (Γ : Sl) (M : Mem) (Q : Bool → Sl → Mem → Prop) : Prop := aa Γ M fun r Γ1 M1 => match r with
  | .dat (.bl b) => Q b Γ1 M1
  | _ => False
theorem rd_tst (ha : RdE K ρ ta aa) : RdT K ρ (tB ta) (aTst aa) := by
  intro B σ H G Γ M Q R k h q
  refine ha B σ H G Γ M _ _ k h fun v H1 G1 Γ1 M1 r k1 e1 rr h1 => ?_
  split at h1
  · rename_i b
    have e : v = .bl b := by have := rr; simp only [RepR, Rep] at this; exact this
    exact ⟨b, e, q b H1 G1 Γ1 M1 k1 e1 h1⟩
  · exact h1.elim
theorem qt_val (ha : QE X ρ a ta aa) (he : ∀ whole, isTrue a X.env whole = (do let v ← whole; standAt a.pos; holding [v] (truthy v)) := by intro _; rfl) : QT X ρ a (tB ta) (aTst aa) := ⟨pt_val ha.pe he, rd_tst ha.rd⟩
theorem rd_tst' (ha : RdE K ρ ta aa) : RdT K ρ (tTest ta) (aTst aa) := rd_tst ha
theorem qt_cmp {op : CmpOp} {r : R2} {ao : AOp} (c : CmpR X ρ op r ao) (ha : QE X ρ a ta aa) (hb : QE X ρ b tb ab) (hm : behindInMarks op b = false := by first | exact nomark _ | rfl) : QT X ρ (.Compare a [op] [b] pos) (tTest (tOp r ta tb)) (aTst (aOp ao aa ab)) :=
  ⟨pt_cmpR c.ho ha.pe hb.pe hm, rd_tst' (rd_op c.rd ha.rd hb.rd)⟩
def aChain (ao ao' : AOp) (aa ab ac : AE) (Γ : Sl) (M : Mem) (Q : Ret → Sl → Mem → Prop) : Prop := aa Γ M fun x Γ1 M1 => ab Γ1 M1 fun y Γ2 M2 => ao x y Γ2 M2 fun z Γ3 M3 => match z with
  | .dat (.bl k) => if k = true then ac Γ3 M3 fun w Γ4 M4 => ao' y w Γ4 M4 Q else Q (.dat (.bl false)) Γ3 M3
  | _ => False
theorem rd_chain {r r' : R2} {ao ao' : AOp} (ho : RdO K ρ r ao) (ho' : RdO K ρ r' ao') (ha : RdE K ρ ta aa) (hb : RdE K ρ tb ab) (hc : RdE K ρ tc ac) : RdE K ρ (tChain r r' ta tb tc) (aChain ao ao' aa ab ac) := by
  intro B σ H G Γ M Q R k h q
  refine ha B σ H G Γ M _ _ k h fun v H1 G1 Γ1 M1 r1 k1 e1 rr1 h1 => ?_
  refine hb B σ H1 G1 Γ1 M1 _ _ k1 h1 fun u H2 G2 Γ2 M2 r2 k2 e2 rr2 h2 => ?_
  refine ho B σ H2 _ _ G2 Γ2 M2 r1 r2 v u _ _ k2 (rr1.es e2) rr2 h2 fun z H3 G3 Γ3 M3 r3 k3 e3 rr3 h3 => ?_
  split at h3
  · rename_i c
    have e : z = .bl c := by have := rr3; simp only [RepR, Rep] at this; exact this
    refine ⟨c, e, ?_⟩
    cases c with
    | true => exact hc B σ H3 G3 Γ3 M3 _ _ k3 (by simpa using h3) fun w H4 G4 Γ4 M4 r4 k4 e4 rr4 h4 => ho' B σ H4 _ _ G4 Γ4 M4 r2 r4 u w Q R k4 ((rr2.es e3).es e4) rr4 h4 (q.es (((e1.trans e2).trans e3).trans e4))
    | false => exact q _ H3 G3 Γ3 M3 (.dat (.bl false)) k3 ((e1.trans e2).trans e3) (by simp only [RepR, Rep]) (by simpa using h3)
  · exact h3.elim
theorem q_chain {op op' : CmpOp} {r r' : R2} {ao ao' : AOp} (c1 : CmpR X ρ op r ao) (c2 : CmpR X ρ op' r' ao') (ha : QE X ρ a ta aa) (hb : QE X ρ b tb ab) (hc : QE X ρ c tc ac) (hm : lastMarks [op, op'] [b, c] = false := by with_unfolding_all rfl) :
    QE X ρ (.Compare a [op, op'] [b, c] pos) (tChain r r' ta tb tc) (aChain ao ao' aa ab ac) := ⟨pe_chain c1.ho c2.ho ha.pe hb.pe hc.pe hm, rd_chain c1.rd c2.rd ha.rd hb.rd hc.rd⟩
theorem qt_chain {op op' : CmpOp} {r r' : R2} {ao ao' : AOp} (c1 : CmpR X ρ op r ao) (c2 : CmpR X ρ op' r' ao') (ha : QE X ρ a ta aa) (hb : QE X ρ b tb ab) (hc : QE X ρ c tc ac) (hm : lastMarks [op, op'] [b, c] = false := by with_unfolding_all rfl) :
    QT X ρ (.Compare a [op, op'] [b, c] pos) (tTest (tChain r r' ta tb tc)) (aTst (aChain ao ao' aa ab ac)) := ⟨pt_chain c1.ho c2.ho ha.pe hb.pe hc.pe hm, rd_tst' (rd_chain c1.rd c2.rd ha.rd hb.rd hc.rd)⟩
def aAnd (t u : AT) (Γ : Sl) (M : Mem) (Q : Bool → Sl → Mem → Prop) : Prop := t Γ M fun c Γ1 M1 => if c = true then u Γ1 M1 Q else Q false Γ1 M1
def aOr (t u : AT) (Γ : Sl) (M : Mem) (Q : Bool → Sl → Mem → Prop) : Prop := t Γ M fun c Γ1 M1 => if c = true then Q true Γ1 M1 else u Γ1 M1 Q
def aNot (t : AT) (Γ : Sl) (M : Mem) (Q : Bool → Sl → Mem → Prop) : Prop := t Γ M fun c Γ1 M1 => Q (!c) Γ1 M1
theorem rd_and {tA tC : TT} {aA aC : AT} (ha : RdT K ρ tA aA) (hb : RdT K ρ tC aC) : RdT K ρ (tAnd tA tC) (aAnd aA aC) := by
  intro B σ H G Γ M Q R k h q
  refine ha B σ H G Γ M _ _ k h fun c H1 G1 Γ1 M1 k1 e1 h1 => ?_
  cases c with
  | true => exact hb B σ H1 G1 Γ1 M1 _ _ k1 (by simpa using h1) fun b H2 G2 Γ2 M2 k2 e2 h2 => q b H2 G2 Γ2 M2 k2 (e1.trans e2) h2
  | false => exact q false H1 G1 Γ1 M1 k1 e1 (by simpa using h1)
theorem rd_or {tA tC : TT} {aA aC : AT} (ha : RdT K ρ tA aA) (hb : RdT K ρ tC aC) : RdT K ρ (tOr tA tC) (aOr aA aC) := by
  intro B σ H G Γ M Q R k h q
  refine ha B σ H G Γ M _ _ k h fun c H1 G1 Γ1 M1 k1 e1 h1 => ?_
  cases c with
  | false => exact hb B σ H1 G1 Γ1 M1 _ _ k1 (by simpa using h1) fun b H2 G2 Γ2 M2 k2 e2 h2 => q b H2 G2 Γ2 M2 k2 (e1.trans e2) h2
  | true => exact q true H1 G1 Γ1 M1 k1 e1 (by simpa using h1)
theorem rd_not {tA : TT} {aA : AT} (ha : RdT K ρ tA aA) : RdT K ρ (tNot tA) (aNot aA) := by
  intro B σ H G Γ M Q R k h q
  exact ha B σ H G Γ M _ _ k h fun c H1 G1 Γ1 M1 k1 e1 h1 => q _ H1 G1 Γ1 M1 k1 e1 h1
theorem qw_and1 {tA : TT} {aA : AT} (ha : QT X ρ a tA aA) : QW X ρ (.BoolOp .And [a] pos) tA aA := ⟨pw_and1 ha.pe, ha.rd⟩
theorem qw_or1 {tA : TT} {aA : AT} (ha : QT X ρ a tA aA) : QW X ρ (.BoolOp .Or [a] pos) tA aA := ⟨pw_or1 ha.pe, ha.rd⟩
theorem qw_and {rest : List Expr} {tA tC : TT} {aA aC : AT} (ha : QT X ρ a tA aA) (hb : QW X ρ (.BoolOp .And (b :: rest) pos) tC aC) : QW X ρ (.BoolOp .And (a :: b :: rest) pos) (tAnd tA tC) (aAnd aA aC) := ⟨pw_and ha.pe hb.pe, rd_and ha.rd hb.rd⟩
theorem qw_or {rest : List Expr} {tA tC : TT} {aA aC : AT} (ha : QT X ρ a tA aA) (hb : QW X ρ (.BoolOp .Or (b :: rest) pos) tC aC) : QW X ρ (.BoolOp .Or (a :: b :: rest) pos) (tOr tA tC) (aOr aA aC) := ⟨pw_or ha.pe hb.pe, rd_or ha.rd hb.rd⟩
theorem QW.qt {t : TT} {at' : AT} (h : QW X ρ a t at') : QT X ρ a t at' := ⟨h.pe.pt, h.rd⟩
theorem qt_not {tA : TT} {aA : AT} (ha : QT X ρ a tA aA) : QT X ρ (.UnaryOp .Not a pos) (tNot tA) (aNot aA) := ⟨pt_not ha.pe, rd_not ha.rd⟩
def aAndV (aa ab : AE) (Γ : Sl) (M : Mem) (Q : Ret → Sl → Mem → Prop) : Prop := aa Γ M fun r Γ1 M1 => match r with
  | .dat (.bl c) => if c = true then ab Γ1 M1 Q else Q (.dat (.bl false)) Γ1 M1
  | _ => False
def aOrV (aa ab : AE) (Γ : Sl) (M : Mem) (Q : Ret → Sl → Mem → Prop) : Prop := aa Γ M fun r Γ1 M1 => match r with
  | .dat (.bl c) => if c = true then Q (.dat (.bl true)) Γ1 M1 else ab Γ1 M1 Q
  | _ => False
def aNotV (aa : AE) (Γ : Sl) (M : Mem) (Q : Ret → Sl → Mem → Prop) : Prop := aa Γ M fun r Γ1 M1 => match r with
  | .dat (.bl c) => Q (.dat (.bl (!c))) Γ1 M1
  | _ => False
theorem rd_andV (ha : RdE K ρ ta aa) (hb : RdE K ρ tb ab) : RdE K ρ (tAndV ta tb) (aAndV aa ab) := by
  intro B σ H G Γ M Q R k h q
  refine ha B σ H G Γ M _ _ k h fun v H1 G1 Γ1 M1 r k1 e1 rr h1 => ?_
  split at h1
  · rename_i c
    have e : v = .bl c := by have := rr; simp only [RepR, Rep] at this; exact this
    refine ⟨c, e, ?_⟩
    cases c with
    | true => exact hb B σ H1 G1 Γ1 M1 _ _ k1 (by simpa using h1) (q.es e1)
    | false => exact q _ H1 G1 Γ1 M1 (.dat (.bl false)) k1 e1 (by simp only [RepR, Rep]) (by simpa using h1)
  · exact h1.elim
theorem q_one {op} (h : QE X ρ a ta aa) : QE X ρ (.BoolOp op [a] pos) ta aa := ⟨pe_one h.pe, h.rd⟩
theorem q_and {rest : List Expr} (ha : QE X ρ a ta aa) (hb : QE X ρ (.BoolOp .And (b :: rest) pos) tb ab) : QE X ρ (.BoolOp .And (a :: b :: rest) pos) (tAndV ta tb) (aAndV aa ab) := ⟨pe_and ha.pe hb.pe, rd_andV ha.rd hb.rd⟩
def aIfE (t : AT) (aa ab : AE) (Γ : Sl) (M : Mem) (Q : Ret → Sl → Mem → Prop) : Prop := t Γ M fun c Γ1 M1 => if c = true then aa Γ1 M1 Q else ab Γ1 M1 Q
theorem q_ifExp {tA : TT} {aA : AT} (hc : QT X ρ c tA aA) (ha : QE X ρ a ta aa) (hb : QE X ρ b tb ab) : QE X ρ (.IfExp c a b pos) (tIf tA ta tb) (aIfE aA aa ab) := ⟨pe_ifExp hc.pe ha.pe hb.pe, by
  intro B σ H G Γ M Q R k h q
  refine hc.rd B σ H G Γ M _ _ k h fun c H1 G1 Γ1 M1 k1 e1 h1 => ?_
  cases c with
  | true => exact ha.rd B σ H1 G1 Γ1 M1 _ _ k1 (by simpa using h1) (q.es e1)
  | false => exact hb.rd B σ H1 G1 Γ1 M1 _ _ k1 (by simpa using h1) (q.es e1)⟩
def aUn (au : AUn) (aa : AE) (Γ : Sl) (M : Mem) (Q : Ret → Sl → Mem → Prop) : Prop := aa Γ M fun r Γ1 M1 => au r Γ1 M1 Q
theorem q_un {op : UnaryOp} {r : V → Hp → VK → Prop} {au : AUn} (ho : UnR X (unaryOp op) r) (hr : RdV X.K ρ r au) (ha : QE X ρ a ta aa) : QE X ρ (.UnaryOp op a pos) (tUn r ta) (aUn au aa) := ⟨pe_un ho ha.pe, fun B σ H G Γ M Q R k h q =>
  ha.rd B σ H G Γ M _ _ k h fun v H1 G1 Γ1 M1 rr k1 e1 r1 h1 => hr B σ H1 _ G1 Γ1 M1 rr v Q R k1 r1 h1 (q.es e1)⟩
def aNeg (r : Ret) (Γ : Sl) (M : Mem) (Q : Ret → Sl → Mem → Prop) : Prop := match r with
  | .dat (.int i) => Q (.dat (.int (-i))) Γ M
  | _ => False
theorem q_neg (ha : QE X ρ a ta aa) : QE X ρ (.UnaryOp .USub a pos) (tUn (rU fun i => .int (-i)) ta) (aUn aNeg aa) := q_un un_neg (fun B σ H H1 G Γ M rx x Q R k r1 h q => by
  unfold aNeg at h
  split at h
  · rename_i i
    have e1 : x = .int i := by have := r1; simp only [RepR, Rep] at this; exact this
    exact ⟨i, e1, q _ H G Γ M (.dat (.int (-i))) k .refl (by simp only [RepR, Rep]) h⟩
  · exact h.elim) ha

mutual
def toPy : D → PyData
  | .non => .none
  | .bl b => .bool b
  | .int i => .int i
  | .str x => .str x
  | .tup ds => .tuple (toPyL ds)
  | .lst ds => .list (toPyL ds)
  | .scr ds => .list (toPyL ds)
  | .ref _ => .none
  | .dct _ _ => .none
  | .exc _ _ _ => .none
  | .dcT _ _ => .none
  | .dcN _ _ => .none
def toPyL : List D → List PyData
  | [] => []
  | d :: ds => toPy d :: toPyL ds
end
mutual
def plain : D → Bool
  | .tup ds => plainL ds
  | .lst ds => plainL ds
  | .scr ds => plainL ds
  | .ref _ => false
  | .dct _ _ => false
  | .exc _ _ _ => false
  | .dcT _ _ => false
  | .dcN _ _ => false
  | .non => true
  | .bl _ => true
  | .int _ => true
  | .str _ => true
def plainL : List D → Bool
  | [] => true
  | d :: ds => plain d && plainL ds
end
mutual
theorem Rep.dp : ∀ {d : D} {v : V}, Rep K H d v → plain d = true → Dp K H v (toPy d)
  | .non, _, h, _ => by rw [Rep] at h; subst h; rw [toPy]; exact .non
  | .bl b, _, h, _ => by rw [Rep] at h; subst h; rw [toPy]; exact .bl b
  | .int i, _, h, _ => by rw [Rep] at h; subst h; rw [toPy]; exact .int i
  | .str x, _, h, _ => by rw [Rep] at h; subst h; rw [toPy]; exact .str x
  | .ref a, _, h, p => by rw [plain] at p; cases p
  | .dct _ _, _, h, p => by rw [plain] at p; cases p
  | .exc _ _ _, _, h, p => by rw [plain] at p; cases p
  | .dcT _ _, _, h, p => by rw [plain] at p; cases p
  | .dcN _ _, _, h, p => by rw [plain] at p; cases p
  | .tup ds, _, h, p => by
    obtain ⟨a, xs, rfl, h1, h2⟩ := rep_tup h
    rw [toPy]; exact .tup h1 (RepL.dp h2 (by rw [plain] at p; exact p))
  | .lst ds, _, h, p => by
    obtain ⟨a, xs, rfl, h1, h2⟩ := rep_lst.mp h
    rw [toPy]; exact .lst (SqL.of h1) (RepL.dp h2 (by rw [plain] at p; exact p))
  | .scr ds, _, h, p => by
    obtain ⟨a, xs, rfl, h1, h2⟩ := rep_scr.mp h
    rw [toPy]; exact .lst h1 (RepL.dp h2 (by rw [plain] at p; exact p))
theorem RepL.dp : ∀ {ds : List D} {vs : List V}, RepL K H ds vs → plainL ds = true → DpAll K H vs (toPyL ds)
  | [], _, h, _ => by rw [repL_nil.mp h, toPyL]; exact .nil
  | d :: ds, _, h, p => by
    obtain ⟨x, r, rfl, h1, h2⟩ := repL_cons.mp h
    rw [plainL, Bool.and_eq_true] at p
    rw [toPyL]; exact .cons (Rep.dp h1 p.1) (RepL.dp h2 p.2)
end
def dOf (r : Ret) (Γ : Sl) (M : Mem) : Option D := match r with
  | .dat (.ref a) => match M.lookup a with
    | some (.lst ds) => some (.lst ds)
    | _ => none
  | .dat d => some d
  | .tmp (.lst ds) => some (.lst ds)
  | .tmp _ => none
  | .var i => match Γ[i]? with
    | some (.dat d) => some d
    | some (.own (.lst ds)) => some (.lst ds)
    | _ => none
theorem dOf_ok {r : Ret} {v : V} {d : D} {H0 : Hp} (o : Ok K ρ B σ H G Γ M) (rr : RepR K B σ H0 H G Γ M r v) (h : dOf r Γ M = some d) : Rep K H d v := by
  have lst : ∀ ds, SqR K H G (.lst ds) v → Rep K H (.lst ds) v := fun ds ⟨a, xs, e, h1, h2⟩ => rep_lst.mpr ⟨a, xs, e, h1, h2.mono o.ex⟩
  cases r with
  | dat d' =>
    cases d' with
    | ref a =>
      simp only [dOf] at h
      split at h
      · rename_i ds e
        cases h
        exact lst ds (sqOf_ok o rr (by simp [sqOf, sqD, e]))
      · cases h
    | _ => cases h; exact Rep.mono o.ex rr
  | tmp c =>
    cases c with
    | lst ds => cases h; exact lst ds (sqOf_ok o rr rfl)
    | dct ks ds => cases h
    | dcT ks ds => cases h
    | dcN ks ds => cases h
    | ins cn ns ds => cases h
    | tab q => cases h
  | var i =>
    simp only [dOf] at h
    split at h
    · rename_i d' e1
      cases h
      obtain ⟨v', h1, h2⟩ := o.dat i d e1
      have : v' = v := by have := (show σ[i]? = some (some v) from rr); rw [h1] at this; cases this; rfl
      subst this
      exact h2.mono o.ex
    · rename_i ds e1
      cases h
      exact lst ds (sqOf_ok o rr (by simp [sqOf, e1]))
    · cases h
def cmpOk (d : D) : Bool := plain d && SeqAt.shaped (toPy d)
def eqD (d e : D) : Bool := PyData.eqv (toPy d) (toPy e)
def aEq (f : Bool → Bool) (x : Ret) (y : Ret) (Γ : Sl) (M : Mem) (Q : Ret → Sl → Mem → Prop) : Prop := match dOf x Γ M, dOf y Γ M with
  | some d, some e => cmpOk d = true ∧ cmpOk e = true ∧ Q (.dat (.bl (f (eqD d e)))) Γ M
  | _, _ => False
theorem rd_eqD : RdO K ρ (rEqD K) (aEq id) := by
  intro B σ H H1 H2 G Γ M rx ry x y Q R k r1 r2 h q
  unfold aEq at h
  split at h
  · rename_i d e hd he
    obtain ⟨c1, c2, h⟩ := h
    simp only [cmpOk, Bool.and_eq_true] at c1 c2
    exact ⟨_, _, (dOf_ok k r1 hd).dp c1.1, (dOf_ok k r2 he).dp c2.1, c1.2, c2.2, q _ H G Γ M (.dat (.bl _)) k .refl (by simp only [RepR, Rep]; rfl) h⟩
  · exact h.elim
theorem rd_neD : RdO K ρ (rNeD K) (aEq not) := by
  intro B σ H H1 H2 G Γ M rx ry x y Q R k r1 r2 h q
  unfold aEq at h
  split at h
  · rename_i d e hd he
    obtain ⟨c1, c2, h⟩ := h
    simp only [cmpOk, Bool.and_eq_true] at c1 c2
    exact ⟨_, _, (dOf_ok k r1 hd).dp c1.1, (dOf_ok k r2 he).dp c2.1, c1.2, c2.2, q _ H G Γ M (.dat (.bl _)) k .refl (by simp only [RepR, Rep]; rfl) h⟩
  · exact h.elim
theorem c_eq (hu : X.A.units + 64 < cLine) (hK : X.K = K := by rfl) : CmpR X ρ .Eq (rEqD K) (aEq id) := by subst hK; exact ⟨op_eqD hu, rd_eqD⟩
theorem c_ne (hu : X.A.units + 64 < cLine) (hK : X.K = K := by rfl) : CmpR X ρ .NotEq (rNeD K) (aEq not) := by subst hK; exact ⟨op_neD hu, rd_neD⟩
def flatD : D → Bool
  | .non => true | .bl _ => true | .int _ => true | .str _ => true
  | _ => false
def inD (d : D) (ds : List D) : Bool := ds.any fun e => eqD e d
theorem Rep.flat {d : D} {v : V} (h : Rep K G d v) (f : flatD d = true) : flatV v = true ∧ ∀ e w, Rep K G e w → flatD e = true → eqV w v = eqD e d := by
  cases d <;> simp [flatD] at f <;> rw [Rep] at h <;> subst h <;> refine ⟨rfl, fun e w he hf => ?_⟩ <;> cases e <;> simp [flatD] at hf <;> rw [Rep] at he <;> subst he <;> simp [eqV, eqD, toPy, PyData.eqv]
theorem RepL.flat {ds : List D} {vs : List V} (h : RepL K G ds vs) (f : ds.all flatD = true) : vs.all flatV = true := by
  rw [List.all_eq_true] at *
  intro v hv
  obtain ⟨i, hi⟩ := List.getElem?_of_mem hv
  obtain ⟨d, e, r⟩ := h.getV hi
  exact (r.flat (f d (List.mem_of_getElem? e))).1
theorem RepL.inV {ds : List D} {vs : List V} {d : D} {v : V} (h : RepL K G ds vs) (f : ds.all flatD = true) (r : Rep K G d v) (fd : flatD d = true) : L2.inV v vs = inD d ds := by
  induction ds generalizing vs with
  | nil => rw [repL_nil.mp h]; rfl
  | cons e ds ih =>
    obtain ⟨x, r', rfl, h1, h2⟩ := repL_cons.mp h
    rw [List.all_cons, Bool.and_eq_true] at f
    show (eqV x v || L2.inV v r') = (eqD e d || inD d ds)
    rw [ih h2 f.2, (r.flat fd).2 e x h1 f.1]
def aIn (f : Bool → Bool) (x : Ret) (y : Ret) (Γ : Sl) (M : Mem) (Q : Ret → Sl → Mem → Prop) : Prop := match x, sqOf y Γ M with
  | .dat d, some s => flatD d = true ∧ s.ds.all flatD = true ∧ Q (.dat (.bl (f (inD d s.ds)))) Γ M
  | _, _ => False
theorem rd_in {neg : Bool} {f : Bool → Bool} (hf : f = if neg then not else id) : RdO K ρ (rIn K neg) (aIn f) := by
  intro B σ H H1 H2 G Γ M rx ry x y Q R k r1 r2 h q
  unfold aIn at h
  split at h
  · rename_i d s hs
    obtain ⟨c1, c2, h⟩ := h
    have hr := sqOf_ok k r2 hs
    have r1' : Rep K G d x := r1
    obtain ⟨a, xs, e, hq', hl⟩ := hr.rd
    have hq : SqL K H a xs ∨ SqT K H a xs := by
      rcases hq' with ⟨_, _, z⟩ | ⟨_, z⟩
      · exact .inr z
      · exact .inl z
    refine ⟨a, xs, e, hq, (r1'.flat c1).1, hl.flat c2, q _ H G Γ M (.dat (.bl _)) k .refl ?_ h⟩
    rw [hl.inV c2 r1' c1]
    subst hf
    cases neg <;> simp [RepR, Rep]
  · exact h.elim
theorem c_in (hK : X.K = K := by rfl) : CmpR X ρ .In (rIn K false) (aIn id) := by subst hK; exact ⟨op_in_seq, rd_in rfl⟩
def isNon : D → Bool
  | .non => true
  | _ => false
def aIsN (f : Bool → Bool) (x : Ret) (y : Ret) (Γ : Sl) (M : Mem) (Q : Ret → Sl → Mem → Prop) : Prop := match x, y with
  | .dat d, .dat .non => Q (.dat (.bl (f (isNon d)))) Γ M
  | _, _ => False
theorem Rep.isNon {d : D} {v : V} (h : Rep K G d v) : decide (v = .non) = isNon d := by
  cases d with
  | non => rw [Rep] at h; subst h; rfl
  | bl b => rw [Rep] at h; subst h; rfl
  | int b => rw [Rep] at h; subst h; rfl
  | str b => rw [Rep] at h; subst h; rfl
  | ref b => rw [Rep] at h; subst h; rfl
  | tup b => obtain ⟨a, xs, rfl, _⟩ := rep_tup h; rfl
  | lst b => obtain ⟨a, xs, rfl, _⟩ := rep_lst.mp h; rfl
  | scr b => obtain ⟨a, xs, rfl, _⟩ := rep_scr.mp h; rfl
  | dct _ _ => obtain ⟨a, o, xs, rfl, _⟩ := rep_dct.mp h; rfl
  | exc _ _ _ => obtain ⟨a, C, d, ws, rfl, _⟩ := rep_exc.mp h; rfl
  | dcT _ _ => obtain ⟨a, o, L, rfl, _⟩ := rep_dcT.mp h; rfl
  | dcN _ _ => obtain ⟨a, o, L, rfl, _⟩ := rep_dcN.mp h; rfl
theorem c_isN : CmpR X ρ .Is (fun x y H Q => y = .non ∧ Q (.bl (decide (x = .non))) H) (aIsN id) := ⟨op_isN, by
  intro B σ H H1 H2 G Γ M rx ry x y Q R k r1 r2 h q
  unfold aIsN at h
  split at h
  · rename_i d
    refine ⟨by have := r2; simp only [RepR, Rep] at this; exact this, q _ H G Γ M (.dat (.bl _)) k .refl ?_ h⟩
    rw [Rep.isNon (show Rep _ _ d x from r1)]; simp [RepR, Rep]
  · exact h.elim⟩
theorem c_notN : CmpR X ρ .IsNot (fun x y H Q => y = .non ∧ Q (.bl (!decide (x = .non))) H) (aIsN not) := ⟨op_notN, by
  intro B σ H H1 H2 G Γ M rx ry x y Q R k r1 r2 h q
  unfold aIsN at h
  split at h
  · rename_i d
    refine ⟨by have := r2; simp only [RepR, Rep] at this; exact this, q _ H G Γ M (.dat (.bl _)) k .refl ?_ h⟩
    rw [Rep.isNon (show Rep _ _ d x from r1)]; simp [RepR, Rep]
  · exact h.elim⟩

def aIx (x : Ret) (y : Ret) (Γ : Sl) (M : Mem) (Q : Ret → Sl → Mem → Prop) : Prop := match sqOf x Γ M, y with
  | some s, .dat (.int i) => match atI s.ds i with
    | some d => Q (.dat d) Γ M
    | none => False
  | _, _ => False
theorem atI_rep {ds : List D} {vs : List V} {i : Int} {d : D} (h : RepL K G ds vs) (e : atI ds i = some d) : ∃ v, atI vs i = some v ∧ Rep K G d v := by
  unfold atI at *
  rw [h.length]
  cases hj : ixN ds.length i with
  | none => rw [hj] at e; cases e
  | some j => rw [hj] at e; exact h.get e
theorem rd_ixL : RdO K ρ (fun x y H Q => rIxL K x y H Q ∨ rIxT K x y H Q) aIx := by
  intro B σ H H1 H2 G Γ M rx ry x y Q R k r1 r2 h q
  unfold aIx at h
  split at h
  · rename_i s i hs
    split at h
    · rename_i d hd
      have ey : y = .int i := by have := r2; simp only [RepR, Rep] at this; exact this
      obtain ⟨a, xs, e, hq, h2⟩ := (sqOf_ok k r1 hs).rd
      obtain ⟨v, e', rv⟩ := atI_rep h2 hd
      rcases hq with ⟨_, _, h1⟩ | ⟨_, h1⟩
      · exact .inr ⟨a, xs, i, v, e, ey, h1, e', q _ H G Γ M (.dat d) k .refl rv h⟩
      · exact .inl ⟨a, xs, i, v, e, ey, h1, e', q _ H G Γ M (.dat d) k .refl rv h⟩
    · exact h.elim
  · exact h.elim
end
end Gw

namespace Gw
open PySem L2
variable {ρ : Ent}

section
variable {X : Cx} {a b c : Expr} {ta tb tc te : TE} {aa ab ac ae : AE} {pos : Pos} {K : PySem.W.Frag} {B : Ent} {σ : St} {H G H1 G1 H2 G2 : Hp} {Γ Γ1 Γ2 : Sl} {M M1 M2 : Mem}
theorem q_ixS (ha : QE X ρ a ta aa) (hb : QE X ρ b tb ab) (hs : PlainIx b := by exact fun _ _ => rfl) (hK : X.K = K := by rfl) : QE X ρ (.Subscript a b pos) (tOp (fun x y H Q => rIxL K x y H Q ∨ rIxT K x y H Q) ta tb) (aOp aIx aa ab) := by subst hK; exact q_ix (ix_list.or ix_tup) rd_ixL ha hb hs

def aCat (x : Ret) (y : Ret) (Γ : Sl) (M : Mem) (Q : Ret → Sl → Mem → Prop) : Prop := match sqOf x Γ M, sqOf y Γ M with
  | some (.lst ds), some (.lst es) => ds.length + es.length ≤ sizeLine ∧ Q (.tmp (.lst (ds ++ es))) Γ M
  | _, _ => False
theorem rd_cat : RdO K ρ rCat aCat := by
  intro B σ H H1 H2 G Γ M rx ry x y Q R k r1 r2 h q
  unfold aCat at h
  split at h
  · rename_i ds es hd he
    obtain ⟨a, xs, e, h1, h2⟩ := sqOf_ok k r1 hd
    obtain ⟨b, ys, e', h1', h2'⟩ := sqOf_ok k r2 he
    exact ⟨a, b, xs, ys, e, e', h1, h1', by rw [h2.length, h2'.length]; exact h.1, q.newL k (h2.append h2') h.2⟩
  · exact h.elim
theorem q_cat (ha : QE X ρ a ta aa) (hb : QE X ρ b tb ab) : QE X ρ (.BinOp a .Add b pos) (tOp rCat ta tb) (aOp aCat aa ab) := q_op op_cat rd_cat ha hb
def aRep (x : Ret) (y : Ret) (Γ : Sl) (M : Mem) (Q : Ret → Sl → Mem → Prop) : Prop := match sqOf x Γ M, y with
  | some (.lst ds), .dat (.int k) => (-(2 ^ 63) ≤ k ∧ k < 2 ^ 63 ∧ ds.length * k.toNat ≤ sizeLine) ∧ Q (.tmp (.lst (List.replicate k.toNat ds).flatten)) Γ M
  | _, _ => False
theorem RepL.rep {ds : List D} {vs : List V} (h : RepL K G ds vs) : ∀ n : Nat, RepL K G (List.replicate n ds).flatten (List.replicate n vs).flatten
  | 0 => repL_nil.mpr rfl
  | n + 1 => by rw [List.replicate_succ, List.replicate_succ, List.flatten_cons, List.flatten_cons]; exact h.append (RepL.rep h n)
theorem rd_rep : RdO K ρ rRep aRep := by
  intro B σ H H1 H2 G Γ M rx ry x y Q R k r1 r2 h q
  unfold aRep at h
  split at h
  · rename_i ds n hd
    obtain ⟨a, xs, e, h1, h2⟩ := sqOf_ok k r1 hd
    have ey : y = .int n := by have := r2; simp only [RepR, Rep] at this; exact this
    exact ⟨a, n, xs, e, ey, h1, h.1.1, h.1.2.1, by rw [h2.length]; exact h.1.2.2, q.newL k (h2.rep _) h.2⟩
  · exact h.elim
theorem q_rep (ha : QE X ρ a ta aa) (hb : QE X ρ b tb ab) : QE X ρ (.BinOp a .Mult b pos) (tOp rRep ta tb) (aOp aRep aa ab) := q_op op_rep rd_rep ha hb
def aCatT (x : Ret) (y : Ret) (Γ : Sl) (M : Mem) (Q : Ret → Sl → Mem → Prop) : Prop := match x, y with
  | .dat (.tup ds), .dat (.tup es) => ds.length + es.length ≤ sizeLine ∧ Q (.dat (.tup (ds ++ es))) Γ M
  | _, _ => False
theorem rd_catT : RdO K ρ (rCatN K) aCatT := by
  intro B σ H H1 H2 G Γ M rx ry x y Q R k r1 r2 h q
  unfold aCatT at h
  split at h
  · rename_i ds es
    have r1' : Rep K G (.tup ds) x := r1
    have r2' : Rep K G (.tup es) y := r2
    obtain ⟨a, xs, e, h1, h2⟩ := rep_tup r1'
    obtain ⟨b, ys, e', h1', h2'⟩ := rep_tup r2'
    refine ⟨a, b, xs, ys, e, e', ex_t k.ex h1, ex_t k.ex h1', by rw [h2.length, h2'.length]; exact h.1, fun z => ?_, fun _ z => ?_, fun _ _ => q.newT k (h2.append h2') h.2⟩
    · have : ds = [] := by cases ds with | nil => rfl | cons _ _ => obtain ⟨_, _, z', _⟩ := repL_cons.mp h2; rw [z] at z'; cases z'
      subst this; subst e'
      exact q _ H G Γ M (.dat (.tup es)) k .refl r2' h.2
    · have : es = [] := by cases es with | nil => rfl | cons _ _ => obtain ⟨_, _, z', _⟩ := repL_cons.mp h2'; rw [z] at z'; cases z'
      subst this; subst e
      exact q _ H G Γ M (.dat (.tup (ds ++ []))) k .refl (by rw [List.append_nil]; exact r1') h.2
  · exact h.elim
theorem q_catT (ha : QE X ρ a ta aa) (hb : QE X ρ b tb ab) (hK : X.K = K := by rfl) : QE X ρ (.BinOp a .Add b pos) (tOp (rCatN K) ta tb) (aOp aCatT aa ab) := by subst hK; exact q_op op_catN rd_catT ha hb
def aCatS (x : Ret) (y : Ret) (Γ : Sl) (M : Mem) (Q : Ret → Sl → Mem → Prop) : Prop := match x, y with
  | .dat (.str s), .dat (.str t) => s.length + t.length ≤ sizeLine ∧ Q (.dat (.str (s ++ t))) Γ M
  | _, _ => False
def cutD (xs : List D) (lo hi : Option Int) : List D := (xs.drop (HT.sIx xs.length 0 lo)).take (HT.sIx xs.length xs.length hi - HT.sIx xs.length 0 lo)
theorem RepL.cut {ds : List D} {vs : List V} {lo hi : Option Int} (h : RepL K G ds vs) : RepL K G (cutD ds lo hi) (cutV vs lo hi) := by
  unfold cutD cutV
  rw [h.length]
  exact (h.drop _).take _
abbrev AO := Sl → Mem → (Option Int → Sl → Mem → Prop) → Prop
structure QO (X : Cx) (ρ : Ent) (e : Option Expr) (to : TO) (ao : AO) : Prop where
  pe : PO X e to
  rd : ∀ B σ H G Γ M (Q : Option Int → Sl → Mem → Prop) (R : Option Int → Hp → Prop), Ok X.K ρ B σ H G Γ M → ao Γ M Q → (∀ o H' G' Γ' M', Ok X.K ρ B σ H' G' Γ' M' → Es σ H G Γ M H' G' Γ' M' → Q o Γ' M' → R o H') → to σ H R
def aON (Γ : Sl) (M : Mem) (Q : Option Int → Sl → Mem → Prop) : Prop := Q none Γ M
def aOS (aa : AE) (Γ : Sl) (M : Mem) (Q : Option Int → Sl → Mem → Prop) : Prop := aa Γ M fun r Γ1 M1 => match r with
  | .dat (.int i) => Q (some i) Γ1 M1
  | _ => False
theorem qo_none : QO X ρ none tNoPart aON := ⟨po_none, fun _ _ H G Γ M _ _ k h q => q none H G Γ M k .refl h⟩
theorem qo_some (h : QE X ρ a ta aa) : QO X ρ (some a) (tPart ta) (aOS aa) := ⟨po_some h.pe, fun B σ H G Γ M Q R k hh q => h.rd B σ H G Γ M _ _ k hh fun v H1 G1 Γ1 M1 r k1 e1 rr h1 => by
  split at h1
  · rename_i i
    have e : v = .int i := by have := rr; simp only [RepR, Rep] at this; exact this
    exact ⟨i, e, q (some i) H1 G1 Γ1 M1 k1 e1 h1⟩
  · exact h1.elim⟩
def aSl (aa : AE) (al ah : AO) (Γ : Sl) (M : Mem) (Q : Ret → Sl → Mem → Prop) : Prop := aa Γ M fun r Γ1 M1 => al Γ1 M1 fun lo Γ2 M2 => ah Γ2 M2 fun hi Γ3 M3 => match sqOf r Γ3 M3 with
  | some (.tup ds) => Q (.dat (.tup (cutD ds lo hi))) Γ3 M3
  | some s => Q (.tmp (.lst (cutD s.ds lo hi))) Γ3 M3
  | none => False
theorem cutD_all {ds : List D} {lo hi : Option Int} (h : HT.sIx ds.length 0 lo = 0 ∧ HT.sIx ds.length ds.length hi = ds.length) : cutD ds lo hi = ds := by
  unfold cutD
  rw [h.1, h.2, Nat.sub_zero, List.drop_zero, List.take_length]
theorem rep_of_sqT {r : Ret} {ds : List D} {v : V} {H0 : Hp} (k : Ok K ρ B σ H G Γ M) (rr : RepR K B σ H0 H G Γ M r v) (h : sqOf r Γ M = some (.tup ds)) : Rep K G (.tup ds) v := by
  have hd : ∀ d, Rep K G d v → sqD M d = some (.tup ds) → Rep K G (.tup ds) v := fun d r e => by
    cases d <;> simp [sqD] at e
    · subst e; exact r
    · split at e <;> simp at e
  cases r with
  | dat d => exact hd d rr h
  | tmp c => cases c <;> cases h
  | var i =>
    simp only [sqOf] at h
    split at h
    · rename_i d e1
      obtain ⟨v', h1, h2⟩ := k.dat i d e1
      have : v' = v := by have := (show σ[i]? = some (some v) from rr); rw [h1] at this; cases this; rfl
      subst this
      exact hd d h2 h
    · cases h
    · cases h
theorem q_sl {lo hi : Option Expr} {p2 : Pos} {tl th : TO} {al ah : AO} (he : QE X ρ a ta aa) (hl : QO X ρ lo tl al) (hh : QO X ρ hi th ah) (hK : X.K = K := by rfl) :
    QE X ρ (.Subscript a (.Slice lo hi none p2) pos) (tSl (fun x lo hi H Q => rSlL K x lo hi H Q ∨ rSlN K x lo hi H Q) ta tl th) (aSl aa al ah) := by subst hK; exact ⟨pe_slice (sl_list.or sl_tupN) he.pe hl.pe hh.pe, by
  intro B σ H G Γ M Q R k h q
  refine he.rd B σ H G Γ M _ _ k h fun v H1 G1 Γ1 M1 r1 k1 e1 rr1 h1 => ?_
  refine hl.rd B σ H1 G1 Γ1 M1 _ _ k1 h1 fun l H2 G2 Γ2 M2 k2 e2 h2 => ?_
  refine hh.rd B σ H2 G2 Γ2 M2 _ _ k2 h2 fun u H3 G3 Γ3 M3 k3 e3 h3 => ?_
  have rr := (rr1.es e2).es e3
  have q' := q.es ((e1.trans e2).trans e3)
  split at h3
  · rename_i ds hs
    have rp := rep_of_sqT k3 rr hs
    obtain ⟨a, xs, e, h1, h2⟩ := rep_tup rp
    refine .inr ⟨a, xs, e, ex_t k3.ex h1, fun z => ?_, fun _ => q'.newT k3 h2.cut h3⟩
    rw [h2.length] at z
    rw [cutD_all z] at h3
    rw [e] at rp
    exact q' _ H3 G3 Γ3 M3 (.dat (.tup ds)) k3 .refl rp h3
  · rename_i s hn hs
    obtain ⟨a, xs, e, hq, h2⟩ := (sqOf_ok k3 rr hs).rd
    rcases hq with ⟨ds, z, _⟩ | ⟨_, h1⟩
    · exact (hn ds z).elim
    · exact .inl ⟨a, xs, e, h1, q'.newL k3 h2.cut h3⟩
  · exact h3.elim⟩

def aCall1 (au : AUn) (aa : AE) (Γ : Sl) (M : Mem) (Q : Ret → Sl → Mem → Prop) : Prop := aa Γ M fun r Γ1 M1 => au r Γ1 M1 Q
def aCall2 (ao : AOp) (aa ab : AE) (Γ : Sl) (M : Mem) (Q : Ret → Sl → Mem → Prop) : Prop := aa Γ M fun x Γ1 M1 => ab Γ1 M1 fun y Γ2 M2 => ao x y Γ2 M2 Q
theorem rd_call1 {r : List V → Hp → VK → Prop} {au : AUn} (hr : RdU K ρ r au) (ha : RdE K ρ ta aa) : RdE K ρ (tCB r (tCons ta tNil)) (aCall1 au aa) := fun B σ H G Γ M Q R k h q =>
  ha B σ H G Γ M _ _ k h fun v H1 G1 Γ1 M1 rr k1 e1 r1 h1 => hr B σ H1 _ G1 Γ1 M1 rr v Q R k1 r1 h1 (q.es e1)
theorem rd_call2 {r : List V → Hp → VK → Prop} {ao : AOp} (hr : RdU2 K ρ r ao) (ha : RdE K ρ ta aa) (hb : RdE K ρ tb ab) : RdE K ρ (tCB r (tCons ta (tCons tb tNil))) (aCall2 ao aa ab) := fun B σ H G Γ M Q R k h q =>
  ha B σ H G Γ M _ _ k h fun v H1 G1 Γ1 M1 rr k1 e1 r1 h1 => hb B σ H1 G1 Γ1 M1 _ _ k1 h1 fun u H2 G2 Γ2 M2 rr2 k2 e2 r2 h2 => hr B σ H2 _ _ G2 Γ2 M2 rr rr2 v u Q R k2 (r1.es e2) r2 h2 (q.es (e1.trans e2))
theorem q_callB1 {id : String} {x : Str} {p : Pos} {r : List V → Hp → VK → Prop} {au : AUn} (hc : CallR X (.builtin id) r) (hr : RdU X.K ρ r au) (hm : X.mg x = none) (ha : QE X ρ a ta aa) (hg : Gl X x := by rfl) (hv : bootBuiltins x = some (.builtin id) := by decide +kernel) (hn : x ≠ "__name__" := by decide) (hdb : (x == ("__debug__" : Str)) = false := by decide)
    (na : starEach [a] X.env = (false, eval a X.env) :: starEach [] X.env := by rfl) : QE X ρ (.Call (.Name x p) [a] [] pos) (tCB r (tCons ta tNil)) (aCall1 au aa) := ⟨pe_callB hc hg hm hv (pa_cons ha.pe pa_nil na) hn hdb na, rd_call1 hr ha.rd⟩
theorem q_callT1 {T : String} {x : Str} {p : Pos} {r : List V → Hp → VK → Prop} {au : AUn} (hc : CallR X (.type T) r) (hr : RdU X.K ρ r au) (hm : X.mg x = none) (ha : QE X ρ a ta aa) (hg : Gl X x := by rfl) (hv : bootBuiltins x = some (.type T) := by decide +kernel) (hn : x ≠ "__name__" := by decide) (hdb : (x == ("__debug__" : Str)) = false := by decide)
    (na : starEach [a] X.env = (false, eval a X.env) :: starEach [] X.env := by rfl) : QE X ρ (.Call (.Name x p) [a] [] pos) (tCB r (tCons ta tNil)) (aCall1 au aa) := ⟨pe_callTy hc hg hm hv (pa_cons ha.pe pa_nil na) hn hdb na, rd_call1 hr ha.rd⟩
theorem q_callB2 {id : String} {x : Str} {p : Pos} {r : List V → Hp → VK → Prop} {ao : AOp} (hc : CallR X (.builtin id) r) (hr : RdU2 X.K ρ r ao) (hm : X.mg x = none) (ha : QE X ρ a ta aa) (hb : QE X ρ b tb ab) (hg : Gl X x := by rfl) (hv : bootBuiltins x = some (.builtin id) := by decide +kernel) (hn : x ≠ "__name__" := by decide) (hdb : (x == ("__debug__" : Str)) = false := by decide)
    (na : starEach [a, b] X.env = (false, eval a X.env) :: starEach [b] X.env := by rfl) (nb : starEach [b] X.env = (false, eval b X.env) :: starEach [] X.env := by rfl) (hpl : (backTo pos (starEach [b] X.env)).any (·.1) = false := by rfl) : QE X ρ (.Call (.Name x p) [a, b] [] pos) (tCB r (tCons ta (tCons tb tNil))) (aCall2 ao aa ab) :=
  ⟨pe_callB hc hg hm hv (pa_cons ha.pe (pa_cons hb.pe pa_nil nb) na) hn hdb na hpl, rd_call2 hr ha.rd hb.rd⟩

def aLen (r : Ret) (Γ : Sl) (M : Mem) (Q : Ret → Sl → Mem → Prop) : Prop := match sqOf r Γ M with
  | some s => Q (.dat (.int s.ds.length)) Γ M
  | none => False
theorem rd_len : RdU K ρ (fun xs H Q => ∃ p ys, xs = [.ref p] ∧ (SqL K H p ys ∨ SqT K H p ys) ∧ Q (.int ys.length) H) aLen := by
  intro B σ H H1 G Γ M rx x Q R k r1 h q
  unfold aLen at h
  split at h
  · rename_i s hs
    obtain ⟨a, xs, e, hq, h2⟩ := (sqOf_ok k r1 hs).rd
    subst e
    refine ⟨a, xs, rfl, ?_, q _ H G Γ M (.dat (.int _)) k .refl (by simp only [RepR, Rep]; rw [h2.length]) h⟩
    rcases hq with ⟨_, _, z⟩ | ⟨_, z⟩
    · exact .inr z
    · exact .inl z
  · exact h.elim
theorem q_len {p : Pos} (hm : X.mg "len" = none) (ha : QE X ρ a ta aa) (hg : Gl X "len" := by rfl) (na : starEach [a] X.env = (false, eval a X.env) :: starEach [] X.env := by rfl) (hK : X.K = K := by rfl) :
    QE X ρ (.Call (.Name "len" p) [a] [] pos) (tCB (fun xs H Q => ∃ p ys, xs = [.ref p] ∧ (SqL K H p ys ∨ SqT K H p ys) ∧ Q (.int ys.length) H) (tCons ta tNil)) (aCall1 aLen aa) := by subst hK; exact q_callB1 call_len_seq rd_len hm ha hg (na := na)
def blsOf : List D → Option (List Bool)
  | [] => some []
  | .bl b :: ds => (blsOf ds).map (b :: ·)
  | _ :: _ => none
theorem blsOf_ok : ∀ {ds : List D} {bs : List Bool}, blsOf ds = some bs → ds = bs.map .bl
  | [], _, h => by cases h; rfl
  | .bl b :: ds, _, h => by
    simp only [blsOf, Option.map_eq_some_iff] at h
    obtain ⟨bs, h1, rfl⟩ := h
    rw [blsOf_ok h1]; rfl
theorem blsOf_map (bs : List Bool) : blsOf (bs.map .bl) = some bs := by
  induction bs with
  | nil => rfl
  | cons b bs ih => rw [List.map_cons, blsOf, ih]; rfl
def aAllB (f : List Bool → Bool) (r : Ret) (Γ : Sl) (M : Mem) (Q : Ret → Sl → Mem → Prop) : Prop := match sqOf r Γ M with
  | some (.lst ds) => match blsOf ds with
    | some bs => Q (.dat (.bl (f bs))) Γ M
    | none => False
  | _ => False
theorem rd_all : RdU K ρ (rAll K) (aAllB (·.all id)) := by
  intro B σ H H1 G Γ M rx x Q R k r1 h q
  unfold aAllB at h
  split at h
  · rename_i ds hs
    split at h
    · rename_i bs hb
      obtain ⟨a, xs, e, hq, h2⟩ := sqOf_ok k r1 hs
      rw [blsOf_ok hb, repL_map_bl] at h2
      subst e; subst h2
      exact ⟨a, bs, rfl, SqL.of hq, q _ H G Γ M (.dat (.bl _)) k .refl (by simp only [RepR, Rep]) h⟩
    · exact h.elim
  · exact h.elim
theorem q_all {p : Pos} (hm : X.mg "all" = none) (ha : QE X ρ a ta aa) (hc : X.calm = true := by rfl) (hg : Gl X "all" := by rfl) (na : starEach [a] X.env = (false, eval a X.env) :: starEach [] X.env := by rfl) (hK : X.K = K := by rfl) :
    QE X ρ (.Call (.Name "all" p) [a] [] pos) (tCB (rAll K) (tCons ta tNil)) (aCall1 (aAllB (·.all id)) aa) := by subst hK; exact q_callB1 (cr_all hc) rd_all hm ha hg (na := na)
def aTuple (r : Ret) (Γ : Sl) (M : Mem) (Q : Ret → Sl → Mem → Prop) : Prop := match sqOf r Γ M with
  | some s => Q (.dat (.tup s.ds)) Γ M
  | none => False
theorem rd_tuple : RdU K ρ (rTupN K) aTuple := by
  intro B σ H H1 G Γ M rx x Q R k r1 h q
  unfold aTuple at h
  split at h
  · rename_i s hs
    obtain ⟨a, xs, e, hq, h2⟩ := (sqOf_ok k r1 hs).rd
    rcases hq with ⟨ds, z, hq⟩ | ⟨_, hq⟩
    · subst z
      have rp := rep_of_sqT k r1 hs
      subst e
      exact ⟨a, xs, rfl, .inr ⟨hq, q _ H G Γ M (.dat (.tup ds)) k .refl rp h⟩⟩
    · subst e
      exact ⟨a, xs, rfl, .inl ⟨hq, q.newT k h2 h⟩⟩
  · exact h.elim
theorem q_tuple {p : Pos} (hm : X.mg "tuple" = none) (ha : QE X ρ a ta aa) (hg : Gl X "tuple" := by rfl) (na : starEach [a] X.env = (false, eval a X.env) :: starEach [] X.env := by rfl) (hK : X.K = K := by rfl) :
    QE X ρ (.Call (.Name "tuple" p) [a] [] pos) (tCB (rTupN K) (tCons ta tNil)) (aCall1 aTuple aa) := by subst hK; exact q_callT1 call_tupN rd_tuple hm ha hg (na := na)
def aList (r : Ret) (Γ : Sl) (M : Mem) (Q : Ret → Sl → Mem → Prop) : Prop := match sqOf r Γ M with
  | some s => Q (.tmp (.lst s.ds)) Γ M
  | none => False
theorem rd_list : RdU K ρ (fun xs H Q => ∃ p ys, xs = [.ref p] ∧ (SqL K H p ys ∨ SqT K H p ys) ∧ ∀ l, H l = none → Q (.ref l) (upd H l (.lst ys))) aList := by
  intro B σ H H1 G Γ M rx x Q R k r1 h q
  unfold aList at h
  split at h
  · rename_i s hs
    obtain ⟨a, xs, e, hq, h2⟩ := (sqOf_ok k r1 hs).rd
    subst e
    refine ⟨a, xs, rfl, ?_, q.newL k h2 h⟩
    rcases hq with ⟨_, _, z⟩ | ⟨_, z⟩
    · exact .inr z
    · exact .inl z
  · exact h.elim
theorem q_list {p : Pos} (hm : X.mg "list" = none) (ha : QE X ρ a ta aa) (hg : Gl X "list" := by rfl) (na : starEach [a] X.env = (false, eval a X.env) :: starEach [] X.env := by rfl) (hK : X.K = K := by rfl) :
    QE X ρ (.Call (.Name "list" p) [a] [] pos) (tCB (fun xs H Q => ∃ p ys, xs = [.ref p] ∧ (SqL K H p ys ∨ SqT K H p ys) ∧ ∀ l, H l = none → Q (.ref l) (upd H l (.lst ys))) (tCons ta tNil)) (aCall1 aList aa) := by subst hK; exact q_callT1 call_list_of rd_list hm ha hg (na := na)
def aAbs (r : Ret) (Γ : Sl) (M : Mem) (Q : Ret → Sl → Mem → Prop) : Prop := match r with
  | .dat (.int i) => Q (.dat (.int (if i < 0 then -i else i))) Γ M
  | _ => False
theorem q_abs {p : Pos} (hm : X.mg "abs" = none) (ha : QE X ρ a ta aa) (hg : Gl X "abs" := by rfl) (na : starEach [a] X.env = (false, eval a X.env) :: starEach [] X.env := by rfl) :
    QE X ρ (.Call (.Name "abs" p) [a] [] pos) (tCB (fun xs H Q => ∃ i, xs = [.int i] ∧ Q (.int (if i < 0 then -i else i)) H) (tCons ta tNil)) (aCall1 aAbs aa) := q_callB1 call_abs (by
  intro B σ H H1 G Γ M rx x Q R k r1 h q
  unfold aAbs at h
  split at h
  · rename_i i
    have e : x = .int i := by have := r1; simp only [RepR, Rep] at this; exact this
    exact ⟨i, by rw [e], q _ H G Γ M (.dat (.int _)) k .refl (by simp only [RepR, Rep]) h⟩
  · exact h.elim) hm ha hg (na := na)
def aInt (r : Ret) (Γ : Sl) (M : Mem) (Q : Ret → Sl → Mem → Prop) : Prop := match r with
  | .dat (.int i) => Q (.dat (.int i)) Γ M
  | .dat (.bl k) => Q (.dat (.int (if k then 1 else 0))) Γ M
  | _ => False
theorem q_intB {p : Pos} (hm : X.mg "int" = none) (ha : QE X ρ a ta aa) (hg : Gl X "int" := by rfl) (na : starEach [a] X.env = (false, eval a X.env) :: starEach [] X.env := by rfl) :
    QE X ρ (.Call (.Name "int" p) [a] [] pos) (tCB (fun xs H Q => (∃ i, xs = [.int i] ∧ Q (.int i) H) ∨ ∃ k, xs = [.bl k] ∧ Q (.int (if k then 1 else 0)) H) (tCons ta tNil)) (aCall1 aInt aa) := q_callT1 call_int1 (by
  intro B σ H H1 G Γ M rx x Q R k r1 h q
  unfold aInt at h
  split at h
  · rename_i i
    have e : x = .int i := by have := r1; simp only [RepR, Rep] at this; exact this
    exact .inl ⟨i, by rw [e], q _ H G Γ M (.dat (.int _)) k .refl (by simp only [RepR, Rep]) h⟩
  · rename_i i
    have e : x = .bl i := by have := r1; simp only [RepR, Rep] at this; exact this
    exact .inr ⟨i, by rw [e], q _ H G Γ M (.dat (.int _)) k .refl (by simp only [RepR, Rep]) h⟩
  · exact h.elim) hm ha hg (na := na)
theorem rd_2I {g : Int → Int → Int} : RdU2 K ρ (fun xs H Q => ∃ i j, xs = [.int i, .int j] ∧ Q (.int (g i j)) H) (aI0 fun i j => .int (g i j)) := by
  intro B σ H H1 H2 G Γ M rx ry x y Q R k r1 r2 h q
  unfold aI0 at h
  split at h
  · rename_i i j
    have e1 : x = .int i := by have := r1; simp only [RepR, Rep] at this; exact this
    have e2 : y = .int j := by have := r2; simp only [RepR, Rep] at this; exact this
    exact ⟨i, j, by rw [e1, e2], q _ H G Γ M (.dat (.int _)) k .refl (by simp only [RepR, Rep]) h⟩
  · exact h.elim
theorem q_max2 {p : Pos} (hm : X.mg "max" = none) (ha : QE X ρ a ta aa) (hb : QE X ρ b tb ab) (hc : X.calm = true := by rfl) (hg : Gl X "max" := by rfl) (na : starEach [a, b] X.env = (false, eval a X.env) :: starEach [b] X.env := by rfl) (nb : starEach [b] X.env = (false, eval b X.env) :: starEach [] X.env := by rfl) (hpl : (backTo pos (starEach [b] X.env)).any (·.1) = false := by rfl) :
    QE X ρ (.Call (.Name "max" p) [a, b] [] pos) (tCB (fun xs H Q => ∃ i j, xs = [.int i, .int j] ∧ Q (.int (if j > i then j else i)) H) (tCons ta (tCons tb tNil))) (aCall2 (aI0 fun i j => .int (if j > i then j else i)) aa ab) :=
  q_callB2 (call_max2 hc) rd_2I hm ha hb hg (na := na) (nb := nb) (hpl := hpl)
theorem q_min2 {p : Pos} (hm : X.mg "min" = none) (ha : QE X ρ a ta aa) (hb : QE X ρ b tb ab) (hc : X.calm = true := by rfl) (hg : Gl X "min" := by rfl) (na : starEach [a, b] X.env = (false, eval a X.env) :: starEach [b] X.env := by rfl) (nb : starEach [b] X.env = (false, eval b X.env) :: starEach [] X.env := by rfl) (hpl : (backTo pos (starEach [b] X.env)).any (·.1) = false := by rfl) :
    QE X ρ (.Call (.Name "min" p) [a, b] [] pos) (tCB (fun xs H Q => ∃ i j, xs = [.int i, .int j] ∧ Q (.int (if j < i then j else i)) H) (tCons ta (tCons tb tNil))) (aCall2 (aI0 fun i j => .int (if j < i then j else i)) aa ab) :=
  q_callB2 (call_min2 hc) rd_2I hm ha hb hg (na := na) (nb := nb) (hpl := hpl)
def intsOf : List D → Option (List Int)
  | [] => some []
  | .int b :: ds => (intsOf ds).map (b :: ·)
  | _ :: _ => none
def isort (ns : List Int) : List Int := ns.mergeSort (fun a b => decide (a ≤ b))
def aSortI (r : Ret) (Γ : Sl) (M : Mem) (Q : Ret → Sl → Mem → Prop) : Prop := match sqOf r Γ M with
  | some (.lst ds) => match intsOf ds with
    | some ns => Q (.tmp (.lst ((isort ns).map .int))) Γ M
    | none => False
  | some (.scr ds) => match intsOf ds with
    | some ns => Q (.tmp (.lst ((isort ns).map .int))) Γ M
    | none => False
  | _ => False
end
end Gw

namespace Gw
open PySem L2 PyProof.Rows
variable {ρ : Ent}
structure FnG (P : Program) (w : World) (K : PySem.W.Frag) (mg : Str → Option Value) (base : Heap) (CX : CXT) (k : Nat) (f : Addr) (fd : FuncData) (ps : List Str) (sp : Sp) : Prop where
  arity : ∀ vs H Q E, sp vs H Q E → vs.length = ps.length
  go : ∀ (A : Around) (outer : List Env) (s : Shared) (H : Hp) (args : Args) (us : List Value) (vs : List V) (Q : VK) (E : XK), Room k A → A.guards = some [] → Env0 P w K mg base A outer s H →
    BindsTo s fd args (ps.zip us) → Vals vs us → sp vs H Q E → codeAny (model P w) A (.call (.ref f) args) (CR CX outer P w H s Q E) s
section
variable {P : Program} {w : World} {K : PySem.W.Frag} {mg : Str → Option Value} {base : Heap} {CX : CXT}
theorem FnG.mono {j k : Nat} {f : Addr} {fd : FuncData} {ps : List Str} {sp : Sp} (F : FnG P w K mg base CX j f fd ps sp) (h : j ≤ k) : FnG P w K mg base CX k f fd ps sp :=
  ⟨F.arity, fun A o s H ar us vs Q E r => F.go A o s H ar us vs Q E (r.mono h)⟩
theorem fnG_of {k : Nat} {x qual : Str} {st : Stmt} {f : Addr} {fd : FuncData} {N ps : List Str} {sp : Sp} (F : Fun K x qual st f fd) (S : FnScope N ps (defScope st)) (ar : ∀ vs H Q E, sp vs H Q E → vs.length = ps.length)
    (body : ∀ (cd : Value) (A : Around) (outer : List Env) (s : Shared) (H : Hp) (vs : List V) (Q : VK) (E : XK), Room k (A.deeper (envOfC qual (defScope st) s.heap.objs.size f cd)) → A.guards = some [] → sp vs H Q E →
      ∃ t, PSs (cxOf CX P w K mg base N qual (defScope st) f cd A outer s H E) (defBody st) t ∧ t { nx := fun _ H' => Q .non H', rt := Q } (start N vs) H) : FnG P w K mg base CX (k + 1) f fd ps sp := by
  obtain ⟨oc, od, kV, doc, pm, an, cd, ct, osl, rfl, lk, hcode⟩ := F.ex
  refine ⟨ar, fun A outer s H args us vs Q E room gd env bind rel hsp => ?_⟩
  have inK : K.In s.heap := env.mod.kin.keeps fun b o e => (env.bs b o e).1
  have noLim : s.heap.NoLimit := env.mod.nolimit.keeps fun b o e => (env.bs b o e).1
  have kinds : ∀ y ∈ ps.zip us, (defScope st).names.lookup y.1 = some .local ∨ ((defScope st).names.lookup y.1 = some .cell ∧ ((cellsFrom (s.heap.objs.size + 1) (defScope st).names []).lookup y.1).isSome = true) := by
    rintro ⟨nm, vl⟩ hy
    exact (S.par nm (List.of_mem_zip hy).1).imp id fun q => ⟨q, PySem.W.cellsFrom_some _ _ _ (.inl q)⟩
  apply codeAny_call_function room.depth (inK _ _ lk) rfl S.co S.gen rfl (PySem.W.codeRec_of inK hcode)
  apply bind
  apply wpAny_newFunctionEnv_cells S.kind kinds
  rintro env' rfl s1 inCall
  refine ⟨noLim.keeps inCall.toInCall.keep, codeAny_func ?_⟩
  obtain ⟨t, ht, hq⟩ := body cd A outer s H vs Q E (room.deeper _) gd hsp
  have I := inv_start (CX := CX) (E := E) S room.hd env (ar _ _ _ _ hsp) rel inCall
  refine wpAny_mono (ht.run [] s1 _ H _ I hq) (fun fl s' hs => ?_) fun _ _ z => z
  match fl, hs with
  | .ret u, ⟨v, _, H', J, rv, q⟩ => exact ⟨v, H', J.os, J.bare, J.base, J.hok, rv, q⟩
  | .next, ⟨_, H', J, q⟩ => exact ⟨V.non, H', J.os, J.bare, J.base, J.hok, rfl, q⟩
  | .brk, ⟨_, _, _, q⟩ => exact q.elim
  | .cont, ⟨_, _, _, q⟩ => exact q.elim
end
section
variable {X : Cx} {CX : CXT} {k : Nat} {f : Addr} {fd : FuncData} {ps ks : List Str} {sp : Sp} {E : XK} {x : Str} {p pos : Pos} {e : Expr} {es : List Expr} {t : TA}
theorem runG {pins : List (Addr × Obj)} {σ : L2.St} {H : Hp} {s : Shared} {Q : VK} {args : Args} {us : List Value} {vs : List V} (F : FnG X.prog X.w X.K X.mg X.base CX k f fd ps sp) (room : Room k X.A) (gd : X.A.guards = some []) (hx : Passes CX X E)
    (I : Inv X pins σ H s) (bind : BindsTo s fd args (ps.zip us)) (r : Vals vs us) (h : sp vs H Q E) : codeAny (model X.prog X.w) X.A (.call (.ref f) args) (fun r s' => match r with | .ok (.ret u) => EP X pins σ Q u s' | .ok _ => False | .error e => X.xe e s') s :=
  codeAny_mono (F.go X.A X.stack s H args us vs Q E room gd I.env0 bind r h) fun res s' hq => match res, hq with
    | .ok (.ret u), hq => I.after hq
    | .ok .next, hq => hq.elim
    | .ok .brk, hq => hq.elim
    | .ok .cont, hq => hq.elim
    | .error e, hq => hx pins σ H s e s' I hq
theorem callG {pins : List (Addr × Obj)} {σ : L2.St} {H : Hp} {s : Shared} {Q : VK} {us ws : List Value} {zs : List V} {us' : List Value} (F : FnG X.prog X.w X.K X.mg X.base CX k f fd ps sp) (room : Room k X.A) (gd : X.A.guards = some []) (hx : Passes CX X E)
    (I : Inv X pins σ H s) (bind : BindsTo s fd ⟨us, ks.zip ws⟩ (ps.zip us')) (r : Vals zs us') (h : sp zs H Q E) : wpAny (model X.prog X.w) X.A (call (.ref f) us (ks.zip ws)) (EP X pins σ Q) X.xe s :=
  wpAny_call (codeAny_mono (runG F room gd hx I bind r h) fun res s' hq => match res, hq with
    | .ok (.ret u), hq => hq
    | .ok .next, hq => hq.elim
    | .ok .brk, hq => hq.elim
    | .ok .cont, hq => hq.elim
    | .error e, hq => hq)
theorem pe_callG (F : FnG X.prog X.w X.K X.mg X.base CX k f fd ps sp) (room : Room k X.A) (gd : X.A.guards = some []) (hg : Gl X x) (hm : X.mg x = some (.ref f)) (hk : PySem.W.keepIn X.K (.ref f) = true) (hb : Binds X.K fd ps []) (hx : Passes CX X E)
    (ha : PA X (e :: es) t) (hdb : (x == ("__debug__" : Str)) = false) (he : starEach (e :: es) X.env = (false, eval e X.env) :: starEach es X.env) (hpl : (backTo pos (starEach es X.env)).any (·.1) = false) :
    PE X (.Call (.Name x p) (e :: es) [] pos) (tCall sp [] E t) := by
  refine ⟨fun pins s σ H Q I h => wpAny_Call_Name_kw (ld_glob I hg hm ?_ hdb)⟩
  refine PySem.W.callWith_K (h₀ := X.base) I.ok.mod.kin hk (thn (ha.run pos pins s σ H _ I h) ?_) he hpl
  rintro us s1 ⟨vs, H1, I1, r, q⟩
  rw [List.append_nil] at q
  have hl : us.length = ps.length := by rw [← r.length]; exact F.arity _ _ _ _ q
  have b := hb s1 us I1.kIn (by rw [List.append_nil]; exact hl)
  rw [List.append_nil] at b
  exact ⟨I1.kIn, callG (ks := []) (ws := []) F room gd hx I1 b r q⟩
theorem pe_callG0 (F : FnG X.prog X.w X.K X.mg X.base CX k f fd ps sp) (room : Room k X.A) (gd : X.A.guards = some []) (hg : Gl X x) (hm : X.mg x = some (.ref f)) (hk : PySem.W.keepIn X.K (.ref f) = true) (hb : Binds X.K fd ps []) (hx : Passes CX X E)
    (hdb : (x == ("__debug__" : Str)) = false) : PE X (.Call (.Name x p) [] [] pos) (tCall sp [] E tNil) := by
  refine ⟨fun pins s σ H Q I h => wpAny_Call_Name_kw (ld_glob I hg hm ?_ hdb)⟩
  have q : sp [] H Q E := h
  have hl : ([] : List Value).length = ps.length := F.arity _ _ _ _ q
  have b := hb s [] I.kIn (by rw [List.append_nil]; exact hl)
  exact PySem.W.callWith_K0 I.kIn hk (callG (ks := []) (ws := []) F room gd hx I b .nil q)
end
section
variable {X : Cx}
end
end Gw

namespace Gw
open PySem L2
variable {ρ : Ent}

abbrev ASp := List D → Mem → (Ret → Mem → Prop) → Prop
def Post (K : PySem.W.Frag) (H G : Hp) (M : Mem) (H' G' : Hp) (M' : Mem) : Prop :=
  Stp ⟨H, G, dom M⟩ H' G' M' ∧ Ex G' H' ∧ (dom M').Nodup ∧ ∀ a c, (a, c) ∈ M' → Cel K H' G' a c
def RetOk (K : PySem.W.Frag) (H H' G' : Hp) (M' : Mem) : Ret → V → Prop
  | .dat d, v => Rep K G' d v
  | .tmp c, v => ∃ p, v = .ref p ∧ H p = none ∧ Cel K H' G' p c ∧ p ∉ dom M'
  | .var _, _ => False
def spA (K : PySem.W.Frag) (n : Nat) (S : ASp) : Sp := fun vs H Q _ => ∃ G M ds, vs.length = n ∧ Ex G H ∧ (dom M).Nodup ∧ (∀ a c, (a, c) ∈ M → Cel K H G a c) ∧ RepL K G ds vs ∧
  ∃ Qa : Ret → Mem → Prop, S ds M Qa ∧ ∀ r M' v H' G', Qa r M' → Post K H G M H' G' M' → RetOk K H H' G' M' r v → Q v H'
section
variable {X : Cx} {a b c : Expr} {ta tb tc te : TE} {aa ab ac ae : AE} {pos : Pos} {K : PySem.W.Frag} {B : Ent} {σ : St} {H G H1 G1 H2 G2 : Hp} {Γ Γ1 Γ2 : Sl} {M M1 M2 : Mem}
theorem not_both {H : Hp} {x : Addr} {o : HO} (h : H x = some o) (z : H x = none) : False := by rw [h] at z; cases z
theorem Stp.trans (a : Stp B H1 G1 M1) (b : Stp ⟨H1, G1, dom M1⟩ H2 G2 M2) : Stp B H2 G2 M2 where
  g := a.g.trans b.g
  fr := fun x o h n => b.fr x o (a.fr x o h n) fun m => (a.mn x m).elim n (not_both h)
  gn := fun x o h => (b.gn x o h).elim (fun z => a.gn x o z) fun z => .inr (a.nn x z)
  mn := fun x h => (b.mn x h).elim (fun z => a.mn x z) fun z => .inr (a.nn x z)
  nn := fun x h => a.nn x (b.nn x h)
theorem Ok.call {H' G' : Hp} {M' : Mem} {r : Ret} {v : V} (k : Ok K ρ B σ H G Γ M) (p : Post K H G M H' G' M') (rr : RetOk K H H' G' M' r v) :
    Ok K ρ B σ H' G' Γ M' ∧ Es σ H G Γ M H' G' Γ M' ∧ RepR K B σ H H' G' Γ M' r v := by
  obtain ⟨st, ex, nd, ms⟩ := p
  have keep : ∀ x o, H x = some o → G x = none → x ∉ dom M → H' x = some o ∧ G' x = none ∧ x ∉ dom M' := fun x o h g m => by
    refine ⟨st.fr x o h m, ?_, fun z => (st.mn x z).elim m (not_both h)⟩
    cases e : G' x with
    | none => rfl
    | some u =>
      rcases st.gn x u e with z | z
      · exact (not_both z g).elim
      · exact (not_both h z).elim
  have k' : Ok K ρ B σ H' G' Γ M' := ⟨k.st.trans st, ex, nd, ms, fun i d h => let ⟨w, h1, h2⟩ := k.dat i d h; ⟨w, h1, h2.mono st.g⟩, fun i c h => by
    obtain ⟨q, h1, h2, h3, hg, o, ho, hc⟩ := k.own i c h
    obtain ⟨b1, b2, b3⟩ := keep q o ho hg h3
    exact ⟨q, h1, h2, b3, b2, o, b1, hc.mono st.g⟩, k.dis, k.len, k.pb⟩
  refine ⟨k', ⟨st.g, fun x o h g m n => let ⟨b1, b2, b3⟩ := keep x o h g m; ⟨b1, b2, b3, n⟩, st.nn⟩, ?_⟩
  cases r with
  | dat d => exact rr
  | tmp c =>
    obtain ⟨q, e, hq, hc, hm⟩ := rr
    refine ⟨q, e, hq, k.st.nn q hq, hc, hm, fun ⟨i, c', h1, h2⟩ => ?_⟩
    obtain ⟨q', h3, _, _, _, o, ho, _⟩ := k.own i c' h1
    rw [h2] at h3; cases h3; rw [hq] at ho; cases ho
  | var i => exact rr.elim
structure Wit (Q : Ret → Mem → Prop) : Type where
def ap (S : ASp) (ds : List D) (M : Mem) (Q : Ret → Mem → Prop) (_ : Wit Q) : Prop := S ds M Q
def aCall (S : ASp) (aa : AA) (Γ : Sl) (M : Mem) (Q : Ret → Sl → Mem → Prop) : Prop := aa Γ M fun ds Γ1 M1 => ap S ds M1 (fun r M2 => Q r Γ1 M2) ⟨⟩
def Ar (n : Nat) (S : ASp) : Prop := ∀ ds M Q, S ds M Q → ds.length = n
theorem rd_call {n : Nat} {S : ASp} {E : XK} {tr : TA} {ar : AA} (hn : Ar n S) (ha : RdA K ρ tr ar) : RdE K ρ (tCall (spA K n S) [] E tr) (aCall S ar) := by
  intro B σ H G Γ M Q R k h q
  refine ha B σ H G Γ M _ _ k h fun vs H1 G1 Γ1 M1 ds k1 e1 rl h1 => ?_
  refine ⟨G1, M1, ds, by rw [List.append_nil, rl.length]; exact hn _ _ _ h1, k1.ex, k1.nd, k1.ms, by rw [List.append_nil]; exact rl, _, h1, fun r M' v H' G' hq p rr => ?_⟩
  obtain ⟨k2, e2, r2⟩ := k1.call p rr
  exact q _ H' G' Γ1 M' r k2 (e1.trans e2) (r2.old e1.nn) hq
section
variable {CX : CXT} {k n : Nat} {f : Addr} {fd : FuncData} {ps ks : List Str} {S : ASp} {x : Str} {p : Pos} {es : List Expr} {tr : TA} {ar : AA}
theorem q_call (F : FnG X.prog X.w X.K X.mg X.base CX0 k f fd ps (spA X.K n S)) (hr : Room k X.A) (gd : X.A.guards = some []) (hm : X.mg x = some (.ref f)) (hk : PySem.W.keepIn X.K (.ref f) = true) (hb : Binds X.K fd ps []) (hn : Ar n S)
    (ha : QA X ρ (a :: es) tr ar) (hg : Gl X x := by rfl) (hdb : (x == ("__debug__" : Str)) = false := by decide) (he : starEach (a :: es) X.env = (false, eval a X.env) :: starEach es X.env := by rfl) (hpl : (backTo pos (starEach es X.env)).any (·.1) = false := by rfl) :
    QE X ρ (.Call (.Name x p) (a :: es) [] pos) (tCall (spA X.K n S) [] E0 tr) (aCall S ar) := ⟨pe_callG F hr gd hg hm hk hb pass0 ha.pe hdb he hpl, rd_call hn ha.rd⟩
theorem q_call0 (F : FnG X.prog X.w X.K X.mg X.base CX0 k f fd ps (spA X.K n S)) (hr : Room k X.A) (gd : X.A.guards = some []) (hm : X.mg x = some (.ref f)) (hk : PySem.W.keepIn X.K (.ref f) = true) (hb : Binds X.K fd ps []) (hn : Ar n S)
    (hg : Gl X x := by rfl) (hdb : (x == ("__debug__" : Str)) = false := by decide) :
    QE X ρ (.Call (.Name x p) [] [] pos) (tCall (spA X.K n S) [] E0 tNil) (aCall S aNil) := ⟨pe_callG0 F hr gd hg hm hk hb pass0 hdb, rd_call hn rd_nil⟩
structure QK (X : Cx) (ρ : Ent) (kws : List Keyword) (tk : TA) (ak : AA) : Prop where
  pe : PK X kws tk
  rd : RdA X.K ρ tk ak
theorem qk_nil : QK X ρ [] tNil aNil := ⟨pk_nil, rd_nil⟩
theorem qk_cons {kws : List Keyword} {nm : Option Str} {kpos : Pos} {tk : TA} {ak : AA} (ha : QE X ρ a ta aa) (hr : QK X ρ kws tk ak) : QK X ρ (⟨nm, a, kpos⟩ :: kws) (tCons ta tk) (aCons aa ak) := ⟨pk_cons ha.pe hr.pe, rd_cons ha.rd hr.rd⟩
structure Ord (gV : List V → List V → List V) (gD : List D → List D) : Prop where
  rep : ∀ {K G vs ds}, RepL K G ds vs → RepL K G (gD ds) (gV [] vs)
end

structure Sim (K : PySem.W.Frag) (ρ : Ent) (B : Ent) (A : AEnds) (E : Ends) : Prop where
  nx : ∀ σ H G Γ M, Ok K ρ B σ H G Γ M → A.nx Γ M → E.nx σ H
  rt : ∀ σ H0 H G Γ M r v, Ok K ρ B σ H G Γ M → RepR K B σ H0 H G Γ M r v → A.rt r Γ M → E.rt v H
  bk : ∀ σ H G Γ M, Ok K ρ B σ H G Γ M → A.bk Γ M → E.bk σ H
  ct : ∀ σ H G Γ M, Ok K ρ B σ H G Γ M → A.ct Γ M → E.ct σ H
def RdS (K : PySem.W.Frag) (ρ : Ent) (ts : TS) (as : AS) : Prop := ∀ B σ H G Γ M A E, Ok K ρ B σ H G Γ M → as A Γ M → Sim K ρ B A E → ts E σ H
structure QS (X : Cx) (ρ : Ent) (st : Stmt) (ts : TS) (as : AS) : Prop where
  pe : PS X st ts
  rd : RdS X.K ρ ts as
structure QSs (X : Cx) (ρ : Ent) (st : List Stmt) (ts : TS) (as : AS) : Prop where
  pe : PSs X st ts
  rd : RdS X.K ρ ts as
def aNext (A : AEnds) (Γ : Sl) (M : Mem) : Prop := A.nx Γ M
def aSeq (s t : AS) (A : AEnds) (Γ : Sl) (M : Mem) : Prop := s { A with nx := t A } Γ M
theorem Sim.seq {A : AEnds} {E : Ends} {t : AS} {tt : TS} (s : Sim K ρ B A E) (h : RdS K ρ tt t) : Sim K ρ B { A with nx := t A } { E with nx := tt E } :=
  ⟨fun σ H G Γ M k q => h B σ H G Γ M A E k q s, s.rt, s.bk, s.ct⟩
theorem qss_nil : QSs X ρ [] tNext aNext := ⟨pss_nil, fun _ σ H G Γ M _ _ k h s => s.nx σ H G Γ M k h⟩
theorem qss_cons {st : Stmt} {rest : List Stmt} {ts tr : TS} {as ar : AS} (h1 : QS X ρ st ts as) (h2 : QSs X ρ rest tr ar) : QSs X ρ (st :: rest) (tSeq ts tr) (aSeq as ar) :=
  ⟨pss_cons h1.pe h2.pe, fun B σ H G Γ M A E k h s => h1.rd B σ H G Γ M _ _ k h (s.seq h2.rd)⟩
theorem qss_one {st : Stmt} {ts : TS} {as : AS} (h1 : QS X ρ st ts as) : QSs X ρ [st] ts as := ⟨pss_one h1.pe, h1.rd⟩
def aBrk (A : AEnds) (Γ : Sl) (M : Mem) : Prop := A.bk Γ M
def aCnt (A : AEnds) (Γ : Sl) (M : Mem) : Prop := A.ct Γ M
def aDrop (aa : AE) (A : AEnds) (Γ : Sl) (M : Mem) : Prop := aa Γ M fun _ Γ1 M1 => A.nx Γ1 M1
theorem qs_expr (h : QE X ρ a ta aa) (hs : swapsWith a none pos.line X.env = pure false := by rfl) : QS X ρ (.Expr a pos) (tDrop ta) (aDrop aa) :=
  ⟨ps_expr h.pe hs, fun B σ H G Γ M A E k hh s => h.rd B σ H G Γ M _ _ k hh fun v H1 G1 Γ1 M1 r k1 _ _ q => s.nx σ H1 G1 Γ1 M1 k1 q⟩
def aRet (aa : AE) (A : AEnds) (Γ : Sl) (M : Mem) : Prop := aa Γ M fun r Γ1 M1 => A.rt r Γ1 M1
theorem qs_ret (h : QE X ρ a ta aa) : QS X ρ (.Return (some a) pos) (tRet ta) (aRet aa) :=
  ⟨ps_ret h.pe, fun B σ H G Γ M A E k hh s => h.rd B σ H G Γ M _ _ k hh fun v H1 G1 Γ1 M1 r k1 _ rr q => s.rt σ H H1 G1 Γ1 M1 r v k1 rr q⟩
def aIfS (t : AT) (s u : AS) (A : AEnds) (Γ : Sl) (M : Mem) : Prop := t Γ M fun b Γ1 M1 => if b = true then s A Γ1 M1 else u A Γ1 M1
theorem qs_if {tt : TT} {at' : AT} {s1 s2 : List Stmt} {ts tu : TS} {as au : AS} (hc : QT X ρ c tt at') (h1 : QSs X ρ s1 ts as) (h2 : QSs X ρ s2 tu au) : QS X ρ (.If c s1 s2 pos) (tIfS tt ts tu) (aIfS at' as au) :=
  ⟨ps_if hc.pe h1.pe h2.pe, fun B σ H G Γ M A E k h s => hc.rd B σ H G Γ M _ _ k h fun b H1 G1 Γ1 M1 k1 _ q => by
    cases b with
    | true => exact h1.rd B σ H1 G1 Γ1 M1 A E k1 (by simpa using q) s
    | false => exact h2.rd B σ H1 G1 Γ1 M1 A E k1 (by simpa using q) s⟩

theorem set_get {α : Type} {l : List α} {i j : Nat} {s t : α} (h : (l.set i s)[j]? = some t) : (j = i ∧ t = s) ∨ (j ≠ i ∧ l[j]? = some t) := by
  rw [List.getElem?_set] at h
  by_cases e : i = j
  · rw [if_pos e] at h
    split at h
    · cases h; exact .inl ⟨e.symm, rfl⟩
    · cases h
  · rw [if_neg e] at h; exact .inr ⟨fun q => e q.symm, h⟩
theorem lt_of_set {α : Type} {l : List α} {i : Nat} {s t : α} (h : (l.set i s)[i]? = some t) : i < l.length := by
  have := (List.getElem?_eq_some_iff.mp h).1
  rwa [List.length_set] at this
theorem owned_set {i : Nat} {v : V} {s : Slot} {x : Addr} (hs : ∀ c, s ≠ .own c) (h : owned (σ.set i (some v)) (Γ.set i s) x) : owned σ Γ x := by
  obtain ⟨j, c, h1, h2⟩ := h
  rcases set_get h1 with ⟨_, e⟩ | ⟨ne, e⟩
  · exact (hs c e.symm).elim
  · refine ⟨j, c, e, ?_⟩
    rw [List.getElem?_set_ne (fun q => ne q.symm)] at h2; exact h2
theorem Ok.setD {i : Nat} {d : D} {v : V} (k : Ok K ρ B σ H G Γ M) (r : Rep K G d v) : Ok K ρ B (σ.set i (some v)) H G (Γ.set i (.dat d)) M := by
  refine ⟨k.st, k.ex, k.nd, k.ms, fun j e h => ?_, fun j c h => ?_, fun j l c c' q h h' a b => ?_, by rw [List.length_set, List.length_set]; exact k.len, k.pb⟩
  · rcases set_get h with ⟨e1, e2⟩ | ⟨ne, e1⟩
    · cases e2; subst e1
      refine ⟨v, ?_, r⟩
      rw [List.getElem?_set_self]
      rw [← k.len]; exact lt_of_set h
    · rw [List.getElem?_set_ne (fun q => ne q.symm)]; exact k.dat j e e1
  · rcases set_get h with ⟨_, e2⟩ | ⟨ne, e1⟩
    · cases e2
    · rw [List.getElem?_set_ne (fun q => ne q.symm)]; exact k.own j c e1
  · rcases set_get h with ⟨_, e2⟩ | ⟨ne, e1⟩
    · cases e2
    rcases set_get h' with ⟨_, e2⟩ | ⟨ne', e1'⟩
    · cases e2
    rw [List.getElem?_set_ne (fun q => ne q.symm)] at a
    rw [List.getElem?_set_ne (fun q => ne' q.symm)] at b
    exact k.dis j l c c' q e1 e1' a b
theorem Ok.setO {i : Nat} {c : Cell} {p : Addr} (k : Ok K ρ B σ H G Γ M) (hb : B.H p = none) (hc : Cel K H G p c) (hm : p ∉ dom M) (hn : ¬ owned σ Γ p) : Ok K ρ B (σ.set i (some (.ref p))) H G (Γ.set i (.own c)) M := by
  refine ⟨k.st, k.ex, k.nd, k.ms, fun j e h => ?_, fun j c h => ?_, fun j l cj cl q h h' a b => ?_, by rw [List.length_set, List.length_set]; exact k.len, k.pb⟩
  · rcases set_get h with ⟨_, e2⟩ | ⟨ne, e1⟩
    · cases e2
    · rw [List.getElem?_set_ne (fun q => ne q.symm)]; exact k.dat j e e1
  · rcases set_get h with ⟨e1, e2⟩ | ⟨ne, e1⟩
    · cases e2; subst e1
      refine ⟨p, ?_, hb, hm, hc⟩
      rw [List.getElem?_set_self]
      rw [← k.len]; exact lt_of_set h
    · rw [List.getElem?_set_ne (fun q => ne q.symm)]; exact k.own j c e1
  · rcases set_get h with ⟨ei, e2⟩ | ⟨ne, e1⟩ <;> rcases set_get h' with ⟨ei', e2'⟩ | ⟨ne', e1'⟩
    · rw [ei, ei']
    · exfalso
      subst ei
      rw [List.getElem?_set_self (by rw [← k.len]; exact lt_of_set h)] at a
      cases a
      rw [List.getElem?_set_ne (fun q => ne' q.symm)] at b
      exact hn ⟨l, cl, e1', b⟩
    · exfalso
      subst ei'
      rw [List.getElem?_set_self (by rw [← k.len]; exact lt_of_set h')] at b
      cases b
      rw [List.getElem?_set_ne (fun q => ne q.symm)] at a
      exact hn ⟨j, cj, e1, a⟩
    · rw [List.getElem?_set_ne (fun q => ne q.symm)] at a
      rw [List.getElem?_set_ne (fun q => ne' q.symm)] at b
      exact k.dis j l cj cl q e1 e1' a b
def aAsg (aa : AE) (i : Nat) (A : AEnds) (Γ : Sl) (M : Mem) : Prop := aa Γ M fun r Γ1 M1 => match r with
  | .tmp c => A.nx (Γ1.set i (.own c)) M1
  | r => frz r Γ1 fun d Γ2 => A.nx (Γ2.set i (.dat d)) M1
def aAsgF (aa : AE) (i : Nat) (A : AEnds) (Γ : Sl) (M : Mem) : Prop := aa Γ M fun r Γ1 M1 => frz r Γ1 fun d Γ2 => A.nx (Γ2.set i (.dat d)) M1
theorem rd_asgF {i : Nat} (ha : RdE K ρ ta aa) : RdS K ρ (tAsg ta (gName i)) (aAsgF aa i) := fun B σ H G Γ M A E k h s => ha B σ H G Γ M _ _ k h fun v H1 G1 Γ1 M1 r k1 e1 rr h1 => by
  obtain ⟨G2, Γ2, d, k2, e2, rp, h2⟩ := frz_ok (H0 := H) k1 e1 rr h1
  exact s.nx _ H1 G2 _ M1 (k2.setD rp) h2
theorem rd_asg {i : Nat} (ha : RdE K ρ ta aa) : RdS K ρ (tAsg ta (gName i)) (aAsg aa i) := fun B σ H G Γ M A E k h s => ha B σ H G Γ M _ _ k h fun v H1 G1 Γ1 M1 r k1 e1 rr h1 => by
  cases r with
  | tmp c =>
    obtain ⟨p, rfl, h0, hb, hc, hm, hn⟩ := rr
    exact s.nx _ H1 G1 _ M1 (k1.setO hb hc hm hn) h1
  | dat d =>
    obtain ⟨G2, Γ2, d, k2, e2, rp, h2⟩ := frz_ok (H0 := H) k1 e1 rr h1
    exact s.nx _ H1 G2 _ M1 (k2.setD rp) h2
  | var j =>
    obtain ⟨G2, Γ2, d, k2, e2, rp, h2⟩ := frz_ok (H0 := H) k1 e1 rr h1
    exact s.nx _ H1 G2 _ M1 (k2.setD rp) h2
section
variable {i : Nat} {x : Str} {pos' : Pos}
theorem qs_set (i : Nat) (hN : X.N.Nodup) (h : QE X ρ a ta aa) (hi : X.N[i]? = some x := by rfl) (hx : Loc X.env.scope x := by first | exact Or.inl rfl | exact Or.inr rfl) (hs : swapsWith a (some (.Name x pos')) pos.line X.env = pure false := by rfl) (hf : X.fn x = true ∨ X.env.scope.names.lookup x = some .local := by first | exact .inl rfl | exact .inr rfl | assumption) :
    QS X ρ (.Assign [.Name x pos'] a pos) (tAsg ta (gName i)) (aAsg aa i) := ⟨ps_set hN hi hx h.pe hs hf, rd_asg h.rd⟩
theorem qs_setF (i : Nat) (hN : X.N.Nodup) (h : QE X ρ a ta aa) (hi : X.N[i]? = some x := by rfl) (hx : Loc X.env.scope x := by first | exact Or.inl rfl | exact Or.inr rfl) (hs : swapsWith a (some (.Name x pos')) pos.line X.env = pure false := by rfl) (hf : X.fn x = true ∨ X.env.scope.names.lookup x = some .local := by first | exact .inl rfl | exact .inr rfl | assumption) :
    QS X ρ (.Assign [.Name x pos'] a pos) (tAsg ta (gName i)) (aAsgF aa i) := ⟨ps_set hN hi hx h.pe hs hf, rd_asgF h.rd⟩
end
abbrev AG := D → Sl → (Sl → Prop) → Prop
abbrev AGs := List D → Sl → (Sl → Prop) → Prop
def tupT : Expr → Bool
  | .Tuple _ _ _ => true
  | _ => false
def RepB (K : PySem.W.Frag) (G : Hp) (b : Bool) (d : D) (v : V) : Prop := Rep K G d v ∨ (b = true ∧ ∃ ds a xs, d = .tup ds ∧ v = .ref a ∧ SqT K G a xs ∧ RepL K G ds xs)
theorem RepB.tup {K : PySem.W.Frag} {G : Hp} {b : Bool} {ds : List D} {v : V} (h : RepB K G b (.tup ds) v) : ∃ a xs, v = .ref a ∧ SqT K G a xs ∧ RepL K G ds xs := by
  rcases h with h | ⟨_, es, a, xs, e, h⟩
  · exact rep_tup h
  · cases e
    exact ⟨a, xs, h⟩
theorem RepB.rep {K : PySem.W.Frag} {G : Hp} {d : D} {v : V} (h : RepB K G false d v) : Rep K G d v := h.elim id fun z => nomatch z.1
theorem RepB.mono {K : PySem.W.Frag} {G G' : Hp} {b : Bool} {d : D} {v : V} (e : Ex G G') (h : RepB K G b d v) : RepB K G' b d v := by
  rcases h with h | ⟨z, ds, a, xs, e1, e2, h1, h2⟩
  · exact .inl (h.mono e)
  · exact .inr ⟨z, ds, a, xs, e1, e2, ex_t e h1, h2.mono e⟩
def RdG (K : PySem.W.Frag) (ρ : Ent) (b : Bool) (tg : TG) (ag : AG) (is : List Nat) : Prop := ∀ B σ H G Γ M d v (Q : Sl → Prop) (R : St → Hp → Prop), Ok K ρ B σ H G Γ M → RepB K G b d v → ag d Γ Q →
  (∀ σ' Γ', Ok K ρ B σ' H G Γ' M → (∀ ws : List Nat, (∀ j ∈ is, j ∈ ws) → wipe σ' ws = wipe σ ws) → (∀ x, owned σ' Γ' x → owned σ Γ x) → Q Γ' → R σ' H) → tg v σ H R
def RdGs (K : PySem.W.Frag) (ρ : Ent) (tg : TGs) (ag : AGs) (is : List Nat) : Prop := ∀ B σ H G Γ M ds vs (Q : Sl → Prop) (R : St → Hp → Prop), Ok K ρ B σ H G Γ M → RepL K G ds vs → ag ds Γ Q →
  (∀ σ' Γ', Ok K ρ B σ' H G Γ' M → (∀ ws : List Nat, (∀ j ∈ is, j ∈ ws) → wipe σ' ws = wipe σ ws) → (∀ x, owned σ' Γ' x → owned σ Γ x) → Q Γ' → R σ' H) → tg vs σ H R
structure QG (X : Cx) (ρ : Ent) (tg : Expr) (t : TG) (ag : AG) (is : List Nat) : Prop where
  pe : PG X tg t
  rd : RdG X.K ρ (tupT tg) t ag is
structure QGs (X : Cx) (ρ : Ent) (tgs : List Expr) (t : TGs) (ag : AGs) (is : List Nat) : Prop where
  pe : PGs X tgs t
  rd : RdGs X.K ρ t ag is
def agN (i : Nat) (d : D) (Γ : Sl) (Q : Sl → Prop) : Prop := Q (Γ.set i (.dat d))
def agNil (ds : List D) (Γ : Sl) (Q : Sl → Prop) : Prop := match ds with
  | [] => Q Γ
  | _ => False
def agCons (g : AG) (u : AGs) (ds : List D) (Γ : Sl) (Q : Sl → Prop) : Prop := match ds with
  | d :: r => g d Γ fun Γ1 => u r Γ1 Q
  | _ => False
def agT (n : Nat) (u : AGs) (d : D) (Γ : Sl) (Q : Sl → Prop) : Prop := match d with
  | .tup ds => ds.length = n ∧ u ds Γ Q
  | _ => False
theorem wipe_set {i : Nat} {v : Option V} : ∀ (ws : List Nat) (σ : St), i ∈ ws → wipe (σ.set i v) ws = wipe σ ws
  | [], _, h => by simp at h
  | w :: ws, σ, h => by
    unfold wipe
    by_cases hi : i ∈ ws
    · rw [wipe_set ws σ hi]
    · have e : i = w := by simpa [hi] using h
      subst e
      have comm : ∀ (us : List Nat) (σ : St), i ∉ us → wipe (σ.set i v) us = (wipe σ us).set i v := by
        intro us
        induction us with
        | nil => intro σ _; rfl
        | cons u us ih =>
          intro σ hu
          rw [List.mem_cons, not_or] at hu
          unfold wipe
          rw [ih σ hu.2, List.set_comm _ _ (fun e => hu.1 e)]
      rw [comm ws σ hi, List.set_set]
theorem rd_gN {i : Nat} : RdG K ρ false (gName i) (agN i) [i] := fun B σ H G Γ M d v Q R k r h q => q _ _ (k.setD r.rep) (fun ws hw => wipe_set ws σ (hw i (by simp))) (fun x h => owned_set (fun c e => by cases e) h) h
theorem rd_gNil : RdGs K ρ gNil agNil [] := fun B σ H G Γ M ds vs Q R k r h q => by
  unfold agNil at h
  split at h
  · exact ⟨repL_nil.mp r, q σ Γ k (fun _ _ => rfl) (fun _ z => z) h⟩
  · exact h.elim
theorem rd_gCons {t : TG} {u : TGs} {g : AG} {ag : AGs} {is js : List Nat} {b : Bool} (h1 : RdG K ρ b t g is) (h2 : RdGs K ρ u ag js) : RdGs K ρ (gCons t u) (agCons g ag) (is ++ js) := fun B σ H G Γ M ds vs Q R k r h q => by
  unfold agCons at h
  split at h
  · rename_i d ds
    obtain ⟨x, xs, rfl, r1, r2⟩ := repL_cons.mp r
    refine ⟨x, xs, rfl, h1 B σ H G Γ M d x _ _ k (.inl r1) h fun σ1 Γ1 k1 w1 o1 q1 => ?_⟩
    exact h2 B σ1 H G Γ1 M ds xs _ _ k1 r2 q1 fun σ2 Γ2 k2 w2 o2 q2 => q σ2 Γ2 k2 (fun ws hw => (w2 ws fun j hj => hw j (List.mem_append_right _ hj)).trans (w1 ws fun j hj => hw j (List.mem_append_left _ hj))) (fun x z => o1 x (o2 x z)) q2
  · exact h.elim
theorem rd_gT {n : Nat} {u : TGs} {ag : AGs} {is : List Nat} (h2 : RdGs K ρ u ag is) : RdG K ρ true (gTup K n u) (agT n ag) is := fun B σ H G Γ M d v Q R k r h q => by
  unfold agT at h
  split at h
  · rename_i ds
    obtain ⟨a, xs, e, hq, rl⟩ := r.tup
    exact ⟨a, xs, e, ex_t k.ex hq, by rw [rl.length]; exact h.1, h2 B σ H G Γ M ds xs Q R k rl h.2 q⟩
  · exact h.elim
section
variable {i : Nat} {x : Str} {pos' : Pos}
theorem qg_name (i : Nat) (hN : X.N.Nodup) (hi : X.N[i]? = some x := by rfl) (hx : Loc X.env.scope x := by first | exact Or.inl rfl | exact Or.inr rfl) (hf : X.fn x = true ∨ X.env.scope.names.lookup x = some .local := by first | exact .inl rfl | exact .inr rfl | assumption) : QG X ρ (.Name x pos) (gName i) (agN i) [i] := ⟨pg_name hN hi hx hf, rd_gN⟩
theorem qgs_nil : QGs X ρ [] gNil agNil [] := ⟨pgs_nil, rd_gNil⟩
theorem qgs_cons {es : List Expr} {t : TG} {u : TGs} {g : AG} {ag : AGs} {is js : List Nat} (h1 : QG X ρ a t g is) (h2 : QGs X ρ es u ag js) (hs : (assignEach (a :: es) X.env).map (·.2) = assign a X.env :: (assignEach es X.env).map (·.2) := by rfl) : QGs X ρ (a :: es) (gCons t u) (agCons g ag) (is ++ js) := ⟨pgs_cons h1.pe h2.pe hs, rd_gCons h1.rd h2.rd⟩
theorem qg_tup {es : List Expr} {kk n : Nat} {u : TGs} {ag : AGs} {is : List Nat} (h : QGs X ρ es u ag is) (hc : X.calm = true := by rfl) (hn : (assignEach es X.env).length = n := by rfl) (hst : (assignEach es X.env).findIdx? (·.1) = none := by rfl) (hK : X.K = K := by rfl) : QG X ρ (.Tuple es kk pos) (gTup K n u) (agT n ag) is := by subst hK; exact ⟨pg_tup hc h.pe hn hst, rd_gT h.rd⟩
end
def aUnp (aa : AE) (g : AG) (A : AEnds) (Γ : Sl) (M : Mem) : Prop := aa Γ M fun r Γ1 M1 => frz r Γ1 fun d Γ2 => g d Γ2 fun Γ3 => A.nx Γ3 M1
theorem qs_unp {tg : Expr} {t : TG} {g : AG} {is : List Nat} (h : QE X ρ a ta aa) (hg : QG X ρ tg t g is) (hs : swapsWithSole [tg] a pos.line X.env = pure false := by rfl) (hw : swappedStores [tg] a X.env = pure none := by rfl) (h1 : (assignEach [tg] X.env).map (·.2) = [assign tg X.env] := by rfl) : QS X ρ (.Assign [tg] a pos) (tAsg ta t) (aUnp aa g) :=
  ⟨ps_asg h.pe hg.pe hs hw h1, fun B σ H G Γ M A E k hh s => h.rd B σ H G Γ M _ _ k hh fun v H1 G1 Γ1 M1 r k1 e1 rr h1 => by
    obtain ⟨G2, Γ2, d, k2, e2, rp, h2⟩ := frz_ok (H0 := H) k1 e1 rr h1
    exact hg.rd B σ H1 G2 Γ2 M1 d v _ _ k2 (.inl rp) h2 fun σ' Γ' k3 _ _ q => s.nx σ' H1 G2 Γ' M1 k3 q⟩
end
end Gw

namespace Gw
open PySem L2
variable {ρ : Ent}
section
variable {X : Cx} {a b c : Expr} {ta tb tc te : TE} {aa ab ac ae : AE} {pos : Pos} {K : PySem.W.Frag} {B : Ent} {σ : St} {H G H1 G1 H2 G2 : Hp} {Γ Γ1 Γ2 : Sl} {M M1 M2 : Mem}

def lget (r : Ret) (Γ : Sl) (M : Mem) : Option (List D) := match r with
  | .var i => match Γ[i]? with
    | some (.own (.lst ds)) => some ds
    | _ => none
  | .dat (.ref a) => match M.lookup a with
    | some (.lst ds) => some ds
    | _ => none
  | _ => none
def mput (M : Mem) (a : Addr) (c : Cell) : Mem := M.map fun x => if x.1 = a then (a, c) else x
def lput (r : Ret) (ds : List D) (Γ : Sl) (M : Mem) (k : Sl → Mem → Prop) : Prop := match r with
  | .var i => k (Γ.set i (.own (.lst ds))) M
  | .dat (.ref a) => k Γ (mput M a (.lst ds))
  | _ => False
theorem dom_mput (M : Mem) (a : Addr) (c : Cell) : dom (mput M a c) = dom M := by
  unfold dom mput
  rw [List.map_map]
  apply List.map_congr_left
  intro x _
  show (if x.1 = a then (a, c) else x).1 = x.1
  split
  · rename_i e; exact e.symm
  · rfl
theorem lget_ok {r : Ret} {v : V} {ds : List D} {H0 : Hp} (k : Ok K ρ B σ H G Γ M) (rr : RepR K B σ H0 H G Γ M r v) (h : lget r Γ M = some ds) : ∃ l xs, v = .ref l ∧ H l = some (.lst xs) ∧ RepL K G ds xs := by
  cases r with
  | var i =>
    simp only [lget] at h
    split at h
    · rename_i ds' e1
      cases h
      obtain ⟨p, s1, hb, hm, hg, u, ho, vs, rfl, hr⟩ := k.own i _ e1
      have : v = .ref p := by have := (show σ[i]? = some (some v) from rr); rw [s1] at this; cases this; rfl
      exact ⟨p, vs, this, ho, hr⟩
    · cases h
  | dat d =>
    cases d with
    | ref a =>
      simp only [lget] at h
      split at h
      · rename_i ds' e1
        cases h
        obtain ⟨hg, u, ho, vs, rfl, hr⟩ := k.ms a _ (lookup_mem e1)
        exact ⟨a, vs, by have := rr; simp only [RepR, Rep] at this; exact this, ho, hr⟩
      · cases h
    | _ => cases h
  | tmp c => cases h
theorem lput_ok {r : Ret} {l : Addr} {ds ds' : List D} {xs' : List V} {H0 : Hp} {kk : Sl → Mem → Prop} (k : Ok K ρ B σ H G Γ M) (rr : RepR K B σ H0 H G Γ M r (.ref l)) (h : lget r Γ M = some ds) (rl : RepL K G ds' xs') (hp : lput r ds' Γ M kk) :
    ∃ Γ' M', Ok K ρ B σ (upd H l (.lst xs')) G Γ' M' ∧ Es σ H G Γ M (upd H l (.lst xs')) G Γ' M' ∧ kk Γ' M' := by
  have updN : ∀ x, upd H l (.lst xs') x = none → H x = none := fun x e => by
    by_cases z : x = l
    · subst z; rw [upd_same] at e; cases e
    · rw [upd_ne z] at e; exact e
  cases r with
  | tmp c => cases h
  | var i =>
    simp only [lget] at h
    split at h
    · rename_i dd e1
      cases h
      obtain ⟨p, s1, hb, hm, hg, u, ho, vs, rfl, hr⟩ := k.own i _ e1
      have e : p = l := by have := (show σ[i]? = some (some (.ref l)) from rr); rw [s1] at this; cases this; rfl
      subst e
      have exG : Ex G (upd H p (.lst xs')) := fun x o z => by
        have ne : x ≠ p := fun e => by subst e; rw [hg] at z; cases z
        rw [upd_ne ne]; exact k.ex x o z
      have cel : ∀ x c, x ≠ p → Cel K H G x c → Cel K (upd H p (.lst xs')) G x c := fun x c ne ⟨z1, o, z2, z3⟩ => ⟨z1, o, by rw [upd_ne ne]; exact z2, z3⟩
      refine ⟨_, _, ⟨⟨k.st.g, fun x o z n => ?_, k.st.gn, k.st.mn, fun x z => k.st.nn x (updN x z)⟩, exG, k.nd, fun x c z => cel x c (fun e => hm (e ▸ List.mem_map.mpr ⟨_, z, rfl⟩)) (k.ms x c z), fun j d z => ?_, fun j c z => ?_, fun j m cj cm q z z' a b => ?_, by rw [List.length_set]; exact k.len, k.pb⟩, ⟨Ex.refl G, fun x o z g m n => ?_, updN⟩, hp⟩
      · have ne : x ≠ p := fun e => by subst e; rw [hb] at z; cases z
        rw [upd_ne ne]; exact k.st.fr x o z n
      · rcases set_get z with ⟨_, e⟩ | ⟨_, e⟩
        · cases e
        · exact k.dat j d e
      · rcases set_get z with ⟨e, e2⟩ | ⟨ne, e⟩
        · cases e2; subst e
          exact ⟨p, s1, hb, hm, hg, _, upd_same, xs', rfl, rl⟩
        · obtain ⟨q, y1, y2, y3, y4⟩ := k.own j c e
          exact ⟨q, y1, y2, y3, cel q c (fun eq => ne (k.dis j i _ _ p e e1 (eq ▸ y1) s1)) y4⟩
      · have own' : ∀ (j : Nat) (c : Cell), (Γ.set i (Slot.own (.lst ds')))[j]? = some (Slot.own c) → ∃ c', Γ[j]? = some (Slot.own c') := fun j c z => by
          rcases set_get z with ⟨e, _⟩ | ⟨_, e⟩
          · subst e; exact ⟨_, e1⟩
          · exact ⟨_, e⟩
        obtain ⟨c1, z1⟩ := own' j cj z
        obtain ⟨c2, z2⟩ := own' m cm z'
        exact k.dis j m c1 c2 q z1 z2 a b
      · have ne : x ≠ p := fun e => n ⟨i, _, e1, e ▸ s1⟩
        refine ⟨by rw [upd_ne ne]; exact z, g, m, fun ⟨j, c, y1, y2⟩ => n ?_⟩
        rcases set_get y1 with ⟨e, _⟩ | ⟨_, e⟩
        · subst e; exact ⟨_, _, e1, y2⟩
        · exact ⟨j, c, e, y2⟩
    · cases h
  | dat d =>
    cases d with
    | ref a =>
      simp only [lget] at h
      split at h
      · rename_i dd e1
        cases h
        obtain ⟨hg, u, ho, vs, rfl, hr⟩ := k.ms a _ (lookup_mem e1)
        have e : l = a := by have := rr; simp only [RepR, Rep] at this; cases this; rfl
        subst e
        have exG : Ex G (upd H l (.lst xs')) := fun x o z => by
          have ne : x ≠ l := fun e => by subst e; rw [hg] at z; cases z
          rw [upd_ne ne]; exact k.ex x o z
        have cel : ∀ x c, x ≠ l → Cel K H G x c → Cel K (upd H l (.lst xs')) G x c := fun x c ne ⟨z1, o, z2, z3⟩ => ⟨z1, o, by rw [upd_ne ne]; exact z2, z3⟩
        have inM : l ∈ dom M := List.mem_map.mpr ⟨_, lookup_mem e1, rfl⟩
        refine ⟨_, _, ⟨⟨k.st.g, fun x o z n => ?_, k.st.gn, ?_, fun x z => k.st.nn x (updN x z)⟩, exG, by rw [dom_mput]; exact k.nd, fun x c z => ?_, k.dat, fun j c z => ?_, k.dis, k.len, k.pb⟩, ⟨Ex.refl G, fun x o z g m n => ?_, updN⟩, hp⟩
        · have ne : x ≠ l := fun e => by
            subst e
            rcases k.st.mn x inM with z' | z'
            · exact n z'
            · rw [z] at z'; cases z'
          rw [upd_ne ne]; exact k.st.fr x o z n
        · rw [dom_mput]; exact k.st.mn
        · unfold mput at z
          obtain ⟨y, hy, e⟩ := List.mem_map.mp z
          split at e
          · cases e; exact ⟨hg, _, upd_same, xs', rfl, rl⟩
          · rename_i ne
            obtain ⟨y1, y2⟩ := y
            cases e
            exact cel x c ne (k.ms x c hy)
        · obtain ⟨q, y1, y2, y3, y4⟩ := k.own j c z
          exact ⟨q, y1, y2, by rw [dom_mput]; exact y3, cel q c (fun e => y3 (e ▸ inM)) y4⟩
        · have ne : x ≠ l := fun e => m (e ▸ inM)
          exact ⟨by rw [upd_ne ne]; exact z, g, by rw [dom_mput]; exact m, n⟩
      · cases h
    | _ => cases h
abbrev AM := List D → List D → (List D → D → Prop) → Prop
def RdM (r : V → List V → Hp → VK → Prop) (am : AM) : Prop := ∀ (K : PySem.W.Frag) (H G : Hp) (l : Addr) (xs vs : List V) (ds es : List D) (Q : List D → D → Prop) (R : VK), Ex G H → H l = some (.lst xs) → RepL K G ds xs → RepL K G es vs → am ds es Q →
  (∀ ds' d xs' v, RepL K G ds' xs' → Rep K G d v → Q ds' d → R v (upd H l (.lst xs'))) → r (.ref l) vs H R
def aMeth (am : AM) (ao : AE) (aa : AA) (Γ : Sl) (M : Mem) (Q : Ret → Sl → Mem → Prop) : Prop := ao Γ M fun r Γ1 M1 => (lget r Γ1 M1).isSome = true ∧ aa Γ1 M1 fun es Γ2 M2 => match lget r Γ2 M2 with
  | some ds => am ds es fun ds' d => lput r ds' Γ2 M2 fun Γ3 M3 => Q (.dat d) Γ3 M3
  | none => False
theorem rd_meth {r : V → List V → Hp → VK → Prop} {am : AM} {to : TE} {ao : AE} {tr : TA} {ar : AA} (hm : RdM r am) (ho : RdE K ρ to ao) (ha : RdA K ρ tr ar) : RdE K ρ (tBM K "list" r to tr) (aMeth am ao ar) := by
  intro B σ H G Γ M Q R k h q
  refine ho B σ H G Γ M _ _ k h fun v H1 G1 Γ1 M1 r1 k1 e1 rr1 h1 => ?_
  obtain ⟨hs, h1⟩ := h1
  obtain ⟨ds1, hds⟩ := Option.isSome_iff_exists.mp hs
  obtain ⟨l1, xs1, ev, hl1, _⟩ := lget_ok k1 rr1 hds
  subst ev
  refine ⟨.inl ⟨rfl, xs1, SqL.of hl1⟩, ha B σ H1 G1 Γ1 M1 _ _ k1 h1 fun vs H2 G2 Γ2 M2 es k2 e2 rl h2 => ?_⟩
  have rr2 := rr1.es e2
  split at h2
  · rename_i ds hd
    obtain ⟨l, xs, ev, hl, hx⟩ := lget_ok k2 rr2 hd
    cases ev
    refine hm K H2 G2 l1 xs vs ds es _ _ k2.ex hl hx rl h2 fun ds' d xs' v rl' rd hq => ?_
    obtain ⟨Γ3, M3, k3, e3, hq⟩ := lput_ok k2 rr2 hd rl' hq
    exact q v _ G2 Γ3 M3 (.dat d) k3 ((e1.trans e2).trans e3) rd hq
  · exact h2.elim
def aMeth0 (am : AM) (ao : AE) (Γ : Sl) (M : Mem) (Q : Ret → Sl → Mem → Prop) : Prop := ao Γ M fun r Γ1 M1 => match lget r Γ1 M1 with
  | some ds => am ds [] fun ds' d => lput r ds' Γ1 M1 fun Γ3 M3 => Q (.dat d) Γ3 M3
  | none => False
theorem rd_meth0 {r : V → List V → Hp → VK → Prop} {am : AM} {to : TE} {ao : AE} (hm : RdM r am) (ho : RdE K ρ to ao) : RdE K ρ (tBM0 K "list" r to) (aMeth0 am ao) := by
  intro B σ H G Γ M Q R k h q
  refine ho B σ H G Γ M _ _ k h fun v H1 G1 Γ1 M1 r1 k1 e1 rr1 h1 => ?_
  split at h1
  · rename_i ds hd
    obtain ⟨l, xs, ev, hl, hx⟩ := lget_ok k1 rr1 hd
    subst ev
    refine ⟨.inl ⟨rfl, xs, SqL.of hl⟩, hm K H1 G1 l xs [] ds [] _ _ k1.ex hl hx (repL_nil.mpr rfl) h1 fun ds' d xs' v rl' rd hq => ?_⟩
    obtain ⟨Γ3, M3, k3, e3, hq⟩ := lput_ok k1 rr1 hd rl' hq
    exact q v _ G1 Γ3 M3 (.dat d) k3 (e1.trans e3) rd hq
  · exact h1.elim
section
variable {o e : Expr} {es : List Expr} {to : TE} {ao : AE} {tr : TA} {ar : AA} {apos cpos : Pos}
theorem q_bm {name : Str} {id : String} {r : V → List V → Hp → VK → Prop} {am : AM} (slot : PySem.Slot "list" name id) (hty : typeOf (.builtin id) = pure (.type "method_descriptor")) (hm : MtR X id r) (hd : RdM r am) (ho : QE X ρ o to ao) (ha : QA X ρ (e :: es) tr ar)
    (hbase : attributeBase o name X.env (eval o X.env) = eval o X.env)
    (hfew : ((backTo cpos (starEach (e :: es) X.env)).all (fun x => !x.1) && (backToKw cpos (keywordEach [] X.env)).all (fun x => x.1.isSome)
      && decide ((e :: es).length + ([] : List Keyword).length + (if ([] : List Keyword).isEmpty then 0 else 1) < 30)) = true)
    (hline : (apos.endLine == cpos.line) = true) (hs : starEach (e :: es) X.env = (false, eval e X.env) :: starEach es X.env) (hplain : (backTo cpos (starEach es X.env)).any (·.1) = false) :
    QE X ρ (.Call (.Attribute o name apos) (e :: es) [] cpos) (tBM X.K "list" r to tr) (aMeth am ao ar) := ⟨pe_bm PySem.F.plainAttrs_list slot hty hm ho.pe ha.pe hbase hfew hline hs hplain, rd_meth hd ho.rd ha.rd⟩
def amApp (ds : List D) (es : List D) (Q : List D → D → Prop) : Prop := match es with
  | [d] => ds.length < sizeLine ∧ Q (ds ++ [d]) .non
  | _ => False
theorem rm_app : RdM rAppend amApp := by
  intro K H G l xs vs ds es Q R hG hl hx hv h q
  unfold amApp at h
  split at h
  · rename_i d
    obtain ⟨y, r, rfl, ry, rn⟩ := repL_cons.mp hv
    have := repL_nil.mp rn; subst this
    exact ⟨l, xs, y, rfl, rfl, hl, by rw [hx.length]; exact h.1, q _ .non _ .non (hx.append (RepL.one ry)) (by rw [Rep]) h.2⟩
  · exact h.elim
def amExt (ds : List D) (es : List D) (Q : List D → D → Prop) : Prop := match es with
  | [.lst fs] => ds.length + fs.length ≤ sizeLine ∧ Q (ds ++ fs) .non
  | _ => False
theorem rm_ext : RdM rExtend amExt := by
  intro K H G l xs vs ds es Q R hG hl hx hv h q
  unfold amExt at h
  split at h
  · rename_i fs
    obtain ⟨y, r, rfl, ry, rn⟩ := repL_cons.mp hv
    have := repL_nil.mp rn; subst this
    obtain ⟨b, zs, rfl, hb, hz⟩ := rep_lst.mp ry
    exact ⟨l, b, xs, zs, rfl, rfl, hl, hG _ _ hb, by rw [hx.length, hz.length]; exact h.1, q _ .non _ .non (hx.append hz) (by rw [Rep]) h.2⟩
  · exact h.elim
def amPop (ds : List D) (es : List D) (Q : List D → D → Prop) : Prop := match es with
  | [] => match ds[ds.length - 1]? with
    | some d => Q ds.dropLast d
    | none => False
  | _ => False
theorem rm_pop : RdM rPop amPop := by
  intro K H G l xs vs ds es Q R hG hl hx hv h q
  unfold amPop at h
  split at h
  · split at h
    · rename_i d hd
      have := repL_nil.mp hv; subst this
      obtain ⟨y, hy, ry⟩ := hx.get hd
      refine ⟨l, xs, y, rfl, rfl, hl, by rw [hx.length]; exact hy, q _ d _ y ?_ ry h⟩
      rw [List.dropLast_eq_take, List.dropLast_eq_take, hx.length]; exact hx.take _
    · exact h.elim
  · exact h.elim
theorem RepL.erase {ds : List D} {vs : List V} (n : Nat) (h : RepL K G ds vs) : RepL K G (ds.eraseIdx n) (vs.eraseIdx n) := by
  rw [List.eraseIdx_eq_take_drop_succ, List.eraseIdx_eq_take_drop_succ]; exact (h.take _).append (h.drop _)
def amPopAt (ds : List D) (es : List D) (Q : List D → D → Prop) : Prop := match es with
  | [.int i] => (-(2 ^ 63) ≤ i ∧ i < 2 ^ 63) ∧ match seqIndex? i ds.length with
    | some k => match ds[k]? with
      | some d => Q (ds.eraseIdx k) d
      | none => False
    | none => False
  | _ => False
theorem rm_popAt : RdM rPopAt amPopAt := by
  intro K H G l xs vs ds es Q R hG hl hx hv h q
  unfold amPopAt at h
  split at h
  · rename_i i
    obtain ⟨hi, h⟩ := h
    obtain ⟨y, r, rfl, ry, rn⟩ := repL_cons.mp hv
    have := repL_nil.mp rn; subst this
    have ey : y = .int i := by rw [Rep] at ry; exact ry
    split at h
    · rename_i k hk
      split at h
      · rename_i d hd
        obtain ⟨z, hz, rz⟩ := hx.get hd
        exact ⟨l, xs, i, k, z, rfl, by rw [ey], hl, hi.1, hi.2, by rw [hx.length]; exact hk, hz, q _ d _ z (hx.erase k) rz h⟩
      · exact h.elim
    · exact h.elim
  · exact h.elim
def amIns (ds : List D) (es : List D) (Q : List D → D → Prop) : Prop := match es with
  | [.int i, d] => (ds.length < sizeLine ∧ 0 ≤ i ∧ i < 2 ^ 63) ∧ Q (ds.take i.toNat ++ [d] ++ ds.drop i.toNat) .non
  | _ => False
theorem q_append (ho : QE X ρ o to ao) (ha : QA X ρ (e :: es) tr ar) (hbase : attributeBase o "append" X.env (eval o X.env) = eval o X.env := by rfl)
    (hfew : ((backTo cpos (starEach (e :: es) X.env)).all (fun x => !x.1) && (backToKw cpos (keywordEach [] X.env)).all (fun x => x.1.isSome)
      && decide ((e :: es).length + ([] : List Keyword).length + (if ([] : List Keyword).isEmpty then 0 else 1) < 30)) = true := by rfl)
    (hline : (apos.endLine == cpos.line) = true := by rfl) (hs : starEach (e :: es) X.env = (false, eval e X.env) :: starEach es X.env := by rfl) (hplain : (backTo cpos (starEach es X.env)).any (·.1) = false := by rfl) (hK : X.K = K := by rfl) :
    QE X ρ (.Call (.Attribute o "append" apos) (e :: es) [] cpos) (tBM K "list" rAppend to tr) (aMeth amApp ao ar) := by subst hK; exact q_bm PySem.F.slot_list_append PySem.F.type_list_append mt_append rm_app ho ha hbase hfew hline hs hplain
theorem q_extend (ho : QE X ρ o to ao) (ha : QA X ρ (e :: es) tr ar) (hbase : attributeBase o "extend" X.env (eval o X.env) = eval o X.env := by rfl)
    (hfew : ((backTo cpos (starEach (e :: es) X.env)).all (fun x => !x.1) && (backToKw cpos (keywordEach [] X.env)).all (fun x => x.1.isSome)
      && decide ((e :: es).length + ([] : List Keyword).length + (if ([] : List Keyword).isEmpty then 0 else 1) < 30)) = true := by rfl)
    (hline : (apos.endLine == cpos.line) = true := by rfl) (hs : starEach (e :: es) X.env = (false, eval e X.env) :: starEach es X.env := by rfl) (hplain : (backTo cpos (starEach es X.env)).any (·.1) = false := by rfl) (hK : X.K = K := by rfl) :
    QE X ρ (.Call (.Attribute o "extend" apos) (e :: es) [] cpos) (tBM K "list" rExtend to tr) (aMeth amExt ao ar) := by subst hK; exact q_bm PySem.F.slot_list_extend PySem.F.type_list_extend mt_extend rm_ext ho ha hbase hfew hline hs hplain
theorem q_popAt (ho : QE X ρ o to ao) (ha : QA X ρ (e :: es) tr ar) (hbase : attributeBase o "pop" X.env (eval o X.env) = eval o X.env := by rfl)
    (hfew : ((backTo cpos (starEach (e :: es) X.env)).all (fun x => !x.1) && (backToKw cpos (keywordEach [] X.env)).all (fun x => x.1.isSome)
      && decide ((e :: es).length + ([] : List Keyword).length + (if ([] : List Keyword).isEmpty then 0 else 1) < 30)) = true := by rfl)
    (hline : (apos.endLine == cpos.line) = true := by rfl) (hs : starEach (e :: es) X.env = (false, eval e X.env) :: starEach es X.env := by rfl) (hplain : (backTo cpos (starEach es X.env)).any (·.1) = false := by rfl) (hK : X.K = K := by rfl) :
    QE X ρ (.Call (.Attribute o "pop" apos) (e :: es) [] cpos) (tBM K "list" rPopAt to tr) (aMeth amPopAt ao ar) := by subst hK; exact q_bm PySem.F.slot_list_pop PySem.F.type_list_pop mt_popAt rm_popAt ho ha hbase hfew hline hs hplain
theorem q_pop (ho : QE X ρ o to ao) (hbase : attributeBase o "pop" X.env (eval o X.env) = eval o X.env := by rfl) (hline : (apos.endLine == cpos.line) = true := by rfl) (hK : X.K = K := by rfl) :
    QE X ρ (.Call (.Attribute o "pop" apos) [] [] cpos) (tBM0 K "list" rPop to) (aMeth0 amPop ao) := by subst hK; exact ⟨pe_bm0 PySem.F.plainAttrs_list PySem.F.slot_list_pop PySem.F.type_list_pop mt_pop ho.pe hbase hline, rd_meth0 rm_pop ho.rd⟩
end
def aSetI (ae ao ai : AE) (A : AEnds) (Γ : Sl) (M : Mem) : Prop := ae Γ M fun r Γ0 M0 => frz r Γ0 fun d Γ1 => ao Γ1 M0 fun ro Γ2 M2 => ai Γ2 M2 fun ri Γ3 M3 => match ri, lget ro Γ3 M3 with
  | .dat (.int i), some ds => match ixN ds.length i with
    | some j => lput ro (ds.set j d) Γ3 M3 fun Γ4 M4 => A.nx Γ4 M4
    | none => False
  | _, _ => False
theorem qs_setI {o i : Expr} {to ti : TE} {ao ai : AE} {pos' : Pos} (h : QE X ρ a ta aa) (ho : QE X ρ o to ao) (hi : QE X ρ i ti ai)
    (has : ∀ v, assign (.Subscript o i pos') X.env v = (do
      let ov ← holding [v] (eval o X.env)
      let iv ← holding [v, ov] (eval i X.env)
      standAt pos'
      holding [v, ov, iv] (setItem ov iv v)
      release [v, ov, iv] []) := by intro _; rfl)
    (hs : swapsWithSole [.Subscript o i pos'] a pos.line X.env = pure false := by rfl) (hw : swappedStores [.Subscript o i pos'] a X.env = pure none := by rfl) (h1 : (assignEach [.Subscript o i pos'] X.env).map (·.2) = [assign (.Subscript o i pos') X.env] := by rfl) :
    QS X ρ (.Assign [.Subscript o i pos'] a pos) (tAsg ta (gSub to ti rSetL)) (aSetI aa ao ai) :=
  ⟨ps_asg h.pe (pg_sub ho.pe hi.pe set_list has) hs hw h1, fun B σ H G Γ M A E k hh s => h.rd B σ H G Γ M _ _ k hh fun v H1 G1 Γ1 M1 r k1 e1 rr h1 => by
    obtain ⟨G2, Γ2, d, k2, e2, rp, h2⟩ := frz_ok (H0 := H) k1 e1 rr h1
    refine ho.rd B σ H1 G2 Γ2 M1 _ _ k2 h2 fun ov H3 G3 Γ3 M3 ro k3 e3 rro h3 => ?_
    refine hi.rd B σ H3 G3 Γ3 M3 _ _ k3 h3 fun iv H4 G4 Γ4 M4 ri k4 e4 rri h4 => ?_
    split at h4
    · rename_i i ds hd
      split at h4
      · rename_i j hj
        have rro' := rro.es e4
        obtain ⟨l, xs, rfl, hl, hx⟩ := lget_ok k4 rro' hd
        have ei : iv = .int i := by have := rri; simp only [RepR, Rep] at this; exact this
        have rp4 : Rep X.K G4 d v := (rp.mono e3.g).mono e4.g
        obtain ⟨Γ5, M5, k5, e5, hq⟩ := lput_ok k4 rro' hd (hx.set j rp4) h4
        exact ⟨l, xs, i, j, rfl, ei, hl, by rw [hx.length]; exact hj, s.nx σ _ G4 Γ5 M5 k5 hq⟩
      · exact h4.elim
    · exact h4.elim⟩
def aAugI (i : Nat) (f : Int → Int → Int) (aa : AE) (A : AEnds) (Γ : Sl) (M : Mem) : Prop := match Γ[i]? with
  | some (.dat (.int n)) => aa Γ M fun r Γ1 M1 => match r with
    | .dat (.int m) => A.nx (Γ1.set i (.dat (.int (f n m)))) M1
    | _ => False
  | _ => False
theorem rd_augI {i : Nat} {f : Int → Int → Int} (ha : RdE K ρ ta aa) : RdS K ρ (tAug i ta (ipI f)) (aAugI i f aa) := fun B σ H G Γ M A E k h s => by
  unfold aAugI at h
  split at h
  · rename_i n e1
    obtain ⟨v, h1, h2⟩ := k.dat i _ e1
    have ev : v = .int n := by rw [Rep] at h2; exact h2
    refine ⟨v, h1, ha B σ H G Γ M _ _ k h fun u H1 G1 Γ1 M1 r k1 e2 rr hq => ?_⟩
    split at hq
    · rename_i m
      have eu : u = .int m := by have := rr; simp only [RepR, Rep] at this; exact this
      exact ⟨n, m, ev, eu, s.nx _ H1 G1 _ M1 (k1.setD (by rw [Rep])) hq⟩
    · exact hq.elim
  · exact h.elim
section
variable {x : Str} {pos' : Pos}
theorem qs_augA (i : Nat) (hN : X.N.Nodup) (h : QE X ρ a ta aa) (hi : X.N[i]? = some x := by rfl) (hx : Loc X.env.scope x := by first | exact Or.inl rfl | exact Or.inr rfl) (hf : X.fn x = true ∨ X.env.scope.names.lookup x = some .local := by first | exact .inl rfl | exact .inr rfl | assumption) :
    QS X ρ (.AugAssign (.Name x pos') .Add a pos) (tAug i ta (ipI fun i j => i + j)) (aAugI i (fun i j => i + j) aa) := ⟨ps_aug hN hi hx h.pe ip_add hf, rd_augI h.rd⟩
end
def aAugL (i : Nat) (aa : AE) (A : AEnds) (Γ : Sl) (M : Mem) : Prop := aa Γ M fun r Γ1 M1 => match sqOf r Γ1 M1, Γ1[i]? with
  | some (.lst es), some (.own (.lst ds)) => ds.length + es.length ≤ sizeLine ∧ A.nx (Γ1.set i (.own (.lst (ds ++ es)))) M1
  | _, _ => False
section
variable {x : Str} {pos' : Pos}
end
end
end Gw

namespace Gw
open PySem L2
variable {ρ : Ent}
def Yld (K : PySem.W.Frag) (b : Bool) (G H H' : Hp) (d : D) (x : V) : Prop :=
  (H' = H ∧ Rep K G d x) ∨ b = true ∧ ∃ T xs ds, x = .ref T ∧ H T = none ∧ H' = upd H T (.tup xs) ∧ d = .tup ds ∧ RepL K G ds xs
structure WalkD (K : PySem.W.Frag) (b : Bool) (J : It) (G : Hp) (ds : List D) : Prop where
  w : ∃ GG Y, Walk J ds.length GG Y ∧ (∀ H, Ex G H → GG H) ∧ ∀ (i : Nat) H x H' d, ds[i]? = some d → Ex G H → Y i H x H' → Yld K b G H H' d x
abbrev AI := Sl → Mem → (List D → Sl → Mem → Prop) → Prop
def RdI (K : PySem.W.Frag) (ρ : Ent) (b : Bool) (wi : TI) (ai : AI) : Prop := ∀ B σ H G Γ M (Q : List D → Sl → Mem → Prop) (R : It → Hp → Prop), Ok K ρ B σ H G Γ M → ai Γ M Q →
  (∀ J H' G' Γ' M' ds, Ok K ρ B σ H' G' Γ' M' → Es σ H G Γ M H' G' Γ' M' → WalkD K b J G' ds → Q ds Γ' M' → R J H') → wi σ H R
structure QI (X : Cx) (ρ : Ent) (tg iter : Expr) (wi : TI) (ai : AI) : Prop where
  pe : PI X tg iter wi
  rd : RdI X.K ρ (tupT tg) wi ai
section
variable {X : Cx} {tg a b c : Expr} {ta tb tc te : TE} {aa ab ac ae : AE} {pos : Pos} {K : PySem.W.Frag} {B : Ent} {σ : St} {H G H' H1 G1 H2 G2 : Hp} {Γ Γ1 Γ2 : Sl} {M M1 M2 : Mem}
theorem Yld.ok {d : D} {x : V} {G0 : Hp} {b : Bool} (y : Yld K b G0 H H' d x) (k : Ok K ρ B σ H G Γ M) (e : Ex G0 G) : ∃ G', Ok K ρ B σ H' G' Γ M ∧ Es σ H G Γ M H' G' Γ M ∧ RepB K G' b d x := by
  rcases y with ⟨rfl, r⟩ | ⟨hb, T, xs, ds, rfl, hT, rfl, rfl, r⟩
  · exact ⟨G, k, .refl, .inl (r.mono e)⟩
  · obtain ⟨k2, e2⟩ := k.new (o := .tup xs) hT
    exact ⟨_, k2, e2, .inr ⟨hb, ds, T, xs, rfl, rfl, SqT.of upd_same, r.mono (e.trans e2.g)⟩⟩
def aISeq (aa : AE) (Γ : Sl) (M : Mem) (Q : List D → Sl → Mem → Prop) : Prop := aa Γ M fun r Γ1 M1 => frz r Γ1 fun d Γ2 => match d with
  | .lst ds => Q ds Γ2 M1
  | .scr ds => Q ds Γ2 M1
  | _ => False
def aITup (aa : AE) (Γ : Sl) (M : Mem) (Q : List D → Sl → Mem → Prop) : Prop := aa Γ M fun r Γ1 M1 => frz r Γ1 fun d Γ2 => match d with
  | .tup ds => Q ds Γ2 M1
  | _ => False
theorem walkD_list {bw : Bool} {p : Addr} {xs : List V} {ds : List D} (h : SqL K G p xs) (r : RepL K G ds xs) : WalkD K bw (Itl K p) G ds := by
  refine ⟨fun H => SqL K H p xs, YAt xs, r.length ▸ walk_list, fun H e => ex_l e h, fun i H x H' d hd e y => .inl ⟨y.1, ?_⟩⟩
  obtain ⟨v, hv, rv⟩ := r.get hd
  have e2 := hv.symm.trans y.2
  cases e2
  exact rv
theorem walkD_tup {bw : Bool} {p : Addr} {xs : List V} {ds : List D} (h : SqT K G p xs) (r : RepL K G ds xs) : WalkD K bw (Itt K p) G ds := by
  refine ⟨fun H => SqT K H p xs, YAt xs, r.length ▸ walk_tup, fun H e => ex_t e h, fun i H x H' d hd e y => .inl ⟨y.1, ?_⟩⟩
  obtain ⟨v, hv, rv⟩ := r.get hd
  have e2 := hv.symm.trans y.2
  cases e2
  exact rv
theorem qi_list (h : QE X ρ a ta aa) (hK : X.K = K := by rfl) : QI X ρ tg a (iList K ta) (aISeq aa) := by subst hK; exact ⟨pi_list h.pe, fun B σ H G Γ M Q R k hh q => h.rd B σ H G Γ M _ _ k hh fun v H1 G1 Γ1 M1 r k1 e1 rr h1 => by
  obtain ⟨G2, Γ2, d, k2, e2, rp, h2⟩ := frz_ok (H0 := H) k1 e1 rr h1
  split at h2
  · rename_i ds
    obtain ⟨p, xs, rfl, hp, rl⟩ := rep_lst.mp rp
    exact ⟨p, rfl, ⟨xs, SqL.of (k2.ex _ _ hp)⟩, q _ H1 G2 Γ2 M1 ds k2 e2 (walkD_list (SqL.of hp) rl) h2⟩
  · rename_i ds
    obtain ⟨p, xs, rfl, hp, rl⟩ := rep_scr.mp rp
    exact ⟨p, rfl, ⟨xs, ex_l k2.ex hp⟩, q _ H1 G2 Γ2 M1 ds k2 e2 (walkD_list hp rl) h2⟩
  · exact h2.elim⟩
theorem qi_tup (h : QE X ρ a ta aa) (hK : X.K = K := by rfl) : QI X ρ tg a (iTup K ta) (aITup aa) := by subst hK; exact ⟨pi_tup h.pe, fun B σ H G Γ M Q R k hh q => h.rd B σ H G Γ M _ _ k hh fun v H1 G1 Γ1 M1 r k1 e1 rr h1 => by
  obtain ⟨G2, Γ2, d, k2, e2, rp, h2⟩ := frz_ok (H0 := H) k1 e1 rr h1
  split at h2
  · rename_i ds
    obtain ⟨p, xs, rfl, hp, rl⟩ := rep_tup rp
    exact ⟨p, rfl, ⟨xs, ex_t k2.ex hp⟩, q _ H1 G2 Γ2 M1 ds k2 e2 (walkD_tup hp rl) h2⟩
  · exact h2.elim⟩
def rngD (lo : Int) (n : Nat) : List D := (List.range n).map fun i => .int (lo + (i : Nat))
theorem walkD_rng {bw : Bool} {lo : Int} {n : Nat} : WalkD K bw (Itr lo n) G (rngD lo n) := by
  have hl : (rngD lo n).length = n := by simp [rngD]
  refine ⟨fun _ => True, YFn fun i => .int (lo + i), by rw [hl]; exact walk_range, fun _ _ => trivial, fun i H x H' d hd e y => .inl ⟨y.1, ?_⟩⟩
  rw [y.2]
  have hi : i < n := by rw [← hl]; exact (List.getElem?_eq_some_iff.mp hd).1
  simp only [rngD, List.getElem?_map, List.getElem?_range hi, Option.map_some, Option.some.injEq] at hd
  subst hd
  rw [Rep]
def aRng1 (aa : AA) (Γ : Sl) (M : Mem) (Q : List D → Sl → Mem → Prop) : Prop := aa Γ M fun ds Γ1 M1 => match ds with
  | [.int n] => (-(2 ^ 62) ≤ n ∧ n < 2 ^ 62) ∧ Q (rngD 0 n.toNat) Γ1 M1
  | _ => False
def aRng2 (aa : AA) (Γ : Sl) (M : Mem) (Q : List D → Sl → Mem → Prop) : Prop := aa Γ M fun ds Γ1 M1 => match ds with
  | [.int m, .int n] => (-(2 ^ 62) ≤ m ∧ m < 2 ^ 62 ∧ -(2 ^ 62) ≤ n ∧ n < 2 ^ 62) ∧ Q (rngD m (n - m).toNat) Γ1 M1
  | _ => False
theorem qi_range1 {tr : TA} {ar : AA} {p : Pos} (hm : X.mg "range" = none) (ha : QA X ρ [a] tr ar) (hg : Gl X "range" := by rfl) (hs : starEach [a] X.env = [(false, eval a X.env)] := by rfl) : QI X ρ tg (.Call (.Name "range" p) [a] [] pos) (iRng1 tr) (aRng1 ar) := ⟨pi_range1 hg hm ha.pe hs, fun B σ H G Γ M Q R k hh q => ha.rd B σ H G Γ M _ _ k hh fun vs H1 G1 Γ1 M1 ds k1 e1 rl h1 => by
  split at h1
  · rename_i n
    obtain ⟨y, r, rfl, ry, rn⟩ := repL_cons.mp rl
    have := repL_nil.mp rn; subst this
    rw [Rep] at ry; subst ry
    exact ⟨n, rfl, h1.1.1, h1.1.2, q _ H1 G1 Γ1 M1 _ k1 e1 walkD_rng h1.2⟩
  · exact h1.elim⟩
def aForL (g : AG) (body : AS) : List D → AS
  | [] => fun A Γ M => A.nx Γ M
  | d :: ds => fun A Γ M => g d Γ fun Γ1 => body { A with nx := aForL g body ds A, ct := aForL g body ds A, bk := A.nx } Γ1 M
structure WitA (A : AEnds) : Type where
def forW (g : AG) (body : AS) (ds : List D) (A : AEnds) (_ : WitA A) (Γ : Sl) (M : Mem) : Prop := aForL g body ds A Γ M
def aFor (ai : AI) (g : AG) (body : AS) (A : AEnds) (Γ : Sl) (M : Mem) : Prop := ai Γ M fun ds Γ1 M1 => forW g body ds A ⟨⟩ Γ1 M1
theorem Ok.to (k : Ok K ρ B σ H G Γ M) (e : Ex G1 G) (e0 : Ex B.G G1) (gn : ∀ a o, G1 a = some o → B.G a = some o ∨ B.H a = none) : Ok K ρ ⟨B.H, G1, B.A⟩ σ H G Γ M :=
  ⟨⟨e, k.st.fr, fun a o h => (k.st.gn a o h).imp (fun z => e0 a o z) id, k.st.mn, k.st.nn⟩, k.ex, k.nd, k.ms, k.dat, k.own, k.dis, k.len, k.pb.h, k.pb.a, k.pb.g.trans e0, fun a o h => (gn a o h).elim (k.pb.gn a o) fun z => .inr (k.pb.h ▸ z)⟩
theorem Ok.back (pb : Refi ρ B) (k : Ok K ρ ⟨B.H, G1, B.A⟩ σ H G Γ M) (e0 : Ex B.G G1) (gn : ∀ a o, G1 a = some o → B.G a = some o ∨ B.H a = none) : Ok K ρ B σ H G Γ M ∧ Ex G1 G :=
  ⟨⟨⟨e0.trans k.st.g, k.st.fr, fun a o h => (k.st.gn a o h).elim (fun z => gn a o z) .inr, k.st.mn, k.st.nn⟩, k.ex, k.nd, k.ms, k.dat, k.own, k.dis, k.len, pb⟩, k.st.g⟩
theorem rd_for {wi : TI} {ai : AI} {g : TG} {ag : AG} {is : List Nat} {tb : TS} {ab : AS} {bt : Bool} (hi : RdI K ρ bt wi ai) (hg : RdG K ρ bt g ag is) (hb : RdS K ρ tb ab) : RdS K ρ (tFor wi g tb) (aFor ai ag ab) := fun B σ H G Γ M A E k h s => by
  refine hi B σ H G Γ M _ _ k h fun J H1 G1 Γ1 M1 ds k1 e1 w h1 => ?_
  obtain ⟨GG, Y, wk, hGG, hY⟩ := w.w
  have e0 : Ex B.G G1 := k1.st.g
  have gn := k1.st.gn
  have sim : ∀ i, Sim K ρ ⟨B.H, G1, B.A⟩ { A with nx := aForL ag ab (ds.drop (i + 1)) A, ct := aForL ag ab (ds.drop (i + 1)) A, bk := A.nx }
      { E with nx := fun σ H => ∃ G2 Γ2 M2, Ok K ρ B σ H G2 Γ2 M2 ∧ Ex G1 G2 ∧ aForL ag ab (ds.drop (i + 1)) A Γ2 M2, ct := fun σ H => ∃ G2 Γ2 M2, Ok K ρ B σ H G2 Γ2 M2 ∧ Ex G1 G2 ∧ aForL ag ab (ds.drop (i + 1)) A Γ2 M2, bk := E.nx } := fun i =>
    ⟨fun σ H G Γ M k q => let ⟨k', e'⟩ := k.back k1.pb e0 gn; ⟨G, Γ, M, k', e', q⟩, fun σ H0 H G Γ M r v k rr q => s.rt σ H0 H G Γ M r v (k.back k1.pb e0 gn).1 rr q, fun σ H G Γ M k q => s.nx σ H G Γ M (k.back k1.pb e0 gn).1 q, fun σ H G Γ M k q => let ⟨k', e'⟩ := k.back k1.pb e0 gn; ⟨G, Γ, M, k', e', q⟩⟩
  refine for_it wk (fun i σ H => ∃ G2 Γ2 M2, Ok K ρ B σ H G2 Γ2 M2 ∧ Ex G1 G2 ∧ aForL ag ab (ds.drop i) A Γ2 M2) ⟨G1, Γ1, M1, k1, Ex.refl _, h1⟩ (fun i σ H _ ⟨G2, Γ2, M2, k2, e2, _⟩ => hGG H (e2.trans k2.ex)) ?_ ?_
  · rintro i x σ H H' hin ⟨G2, Γ2, M2, k2, e2, h2⟩ y
    rw [List.drop_eq_getElem_cons hin] at h2
    obtain ⟨G3, k3, e3, rp⟩ := (hY i H x H' _ (List.getElem?_eq_getElem hin) (e2.trans k2.ex) y).ok k2 e2
    refine hg B σ H' G3 Γ2 M2 _ x _ _ k3 rp h2 fun σ' Γ' k4 _ _ h4 => ?_
    exact hb ⟨B.H, G1, B.A⟩ σ' H' G3 Γ' M2 _ _ (k4.to (e2.trans e3.g) e0 gn) h4 (sim i)
  · rintro σ H ⟨G2, Γ2, M2, k2, e2, h2⟩
    rw [List.drop_length] at h2
    exact s.nx σ H G2 Γ2 M2 k2 h2
theorem qs_for {iter : Expr} {body : List Stmt} {wi : TI} {ai : AI} {g : TG} {ag : AG} {is : List Nat} {tb : TS} {ab : AS} (hi : QI X ρ tg iter wi ai) (hg : QG X ρ tg g ag is) (hb : QSs X ρ body tb ab) (hc : X.calm = true := by rfl)
    (hp : PassesOwn (model X.prog X.w) X.A X.env X.xe := by exact PassesOwn.never) (hs : ∀ x, foldedSetIterable iter X.env x = pure x := by intro _; rfl) : QS X ρ (.For tg iter body [] pos) (tFor wi g tb) (aFor ai ag ab) := ⟨ps_for hp hc hi.pe hg.pe hb.pe hs, rd_for hi.rd hg.rd hb.rd⟩
def wipeS (Γ : Sl) : List Nat → Sl
  | [] => Γ
  | v :: vs => (wipeS Γ vs).set v .non
theorem wipeS_some {i : Nat} {s : Slot} : ∀ {vs : List Nat}, (wipeS Γ vs)[i]? = some s → s ≠ .non → Γ[i]? = some s ∧ i ∉ vs
  | [], h, _ => ⟨h, by simp⟩
  | v :: vs, h, hn => by
    unfold wipeS at h
    rcases set_get h with ⟨_, e⟩ | ⟨ne, e⟩
    · exact (hn e).elim
    · obtain ⟨h1, h2⟩ := wipeS_some e hn
      exact ⟨h1, by simp only [List.mem_cons, not_or]; exact ⟨ne, h2⟩⟩
theorem wipeS_length : ∀ vs : List Nat, (wipeS Γ vs).length = Γ.length
  | [] => rfl
  | v :: vs => by unfold wipeS; rw [List.length_set, wipeS_length vs]
theorem wipe_wipe (σ : St) : ∀ vs : List Nat, wipe (wipe σ vs) vs = wipe σ vs := fun vs => by
  apply List.ext_getElem?
  intro i
  by_cases hi : i ∈ vs
  · have key : ∀ (ws : List Nat) (τ : St), i ∈ ws → i < τ.length → (wipe τ ws)[i]? = some none := by
      intro ws
      induction ws with
      | nil => intro τ h; simp at h
      | cons w ws ih =>
        intro τ h hl
        unfold wipe
        by_cases e : w = i
        · subst e; rw [List.getElem?_set_self (by rw [wipe_length]; exact hl)]
        · rw [List.getElem?_set_ne e]; exact ih τ (by simpa [show ¬ i = w from fun q => e q.symm] using h) hl
    by_cases hl : i < σ.length
    · rw [key vs _ hi (by rw [wipe_length]; exact hl), key vs σ hi hl]
    · rw [List.getElem?_eq_none (by rw [wipe_length, wipe_length]; omega), List.getElem?_eq_none (by rw [wipe_length]; omega)]
  · rw [wipe_out hi]
theorem Ok.agree {σ' : St} {Γ' : Sl} (k : Ok K ρ B σ H G Γ M) (hs : ∀ (i : Nat) (s : Slot), Γ'[i]? = some s → s ≠ .non → Γ[i]? = some s ∧ σ'[i]? = σ[i]?) (hl : Γ'.length = σ'.length) : Ok K ρ B σ' H G Γ' M ∧ ∀ x, owned σ' Γ' x → owned σ Γ x := by
  refine ⟨⟨k.st, k.ex, k.nd, k.ms, fun i d h => ?_, fun i c h => ?_, fun i j ci cj p h h' a b => ?_, hl, k.pb⟩, fun x ⟨i, c, h1, h2⟩ => ?_⟩
  · obtain ⟨h1, h2⟩ := hs i _ h (by intro e; cases e)
    rw [h2]; exact k.dat i d h1
  · obtain ⟨h1, h2⟩ := hs i _ h (by intro e; cases e)
    rw [h2]; exact k.own i c h1
  · obtain ⟨h1, h2⟩ := hs i _ h (by intro e; cases e)
    obtain ⟨h1', h2'⟩ := hs j _ h' (by intro e; cases e)
    rw [h2] at a; rw [h2'] at b
    exact k.dis i j ci cj p h1 h1' a b
  · obtain ⟨g1, g2⟩ := hs i _ h1 (by intro e; cases e)
    exact ⟨i, c, g1, by rw [← g2]; exact h2⟩
theorem Ok.updTmp {p : Addr} {xs ys : List V} (k : Ok K ρ B σ H G Γ M) (hp : H p = some (.lst xs)) (hb : B.H p = none) (hg : G p = none) (hm : p ∉ dom M) (hn : ¬ owned σ Γ p) : Ok K ρ B σ (upd H p (.lst ys)) G Γ M := by
  have cel : ∀ x c, x ≠ p → Cel K H G x c → Cel K (upd H p (.lst ys)) G x c := fun x c ne ⟨z1, o, z2, z3⟩ => ⟨z1, o, by rw [upd_ne ne]; exact z2, z3⟩
  refine ⟨⟨k.st.g, fun x o z n => ?_, k.st.gn, k.st.mn, fun x z => k.st.nn x ?_⟩, fun x o z => ?_, k.nd, fun x c z => cel x c (fun e => hm (e ▸ List.mem_map.mpr ⟨_, z, rfl⟩)) (k.ms x c z), k.dat, fun i c z => ?_, k.dis, k.len, k.pb⟩
  · rw [upd_ne (ne_of_none z hb)]; exact k.st.fr x o z n
  · by_cases e : x = p
    · subst e; rw [upd_same] at z; cases z
    · rw [upd_ne e] at z; exact z
  · rw [upd_ne (ne_of_none z hg)]; exact k.ex x o z
  · obtain ⟨q, h1, h2, h3, h4⟩ := k.own i c z
    exact ⟨q, h1, h2, h3, cel q c (fun e => hn ⟨i, c, z, e ▸ h1⟩) h4⟩
def aLcL (g : AG) (tt : AT) (ae : AE) (vs : List Nat) (k : List D → Sl → Mem → Prop) : List D → List D → Sl → Mem → Prop
  | [], acc, Γ, M => k acc Γ M
  | d :: ds, acc, Γ, M => g d Γ fun Γ1 => tt Γ1 M fun b Γ2 M2 => if b = true then ae Γ2 M2 fun r Γ3 M3 => frz r Γ3 fun y Γ4 => acc.length < sizeLine ∧ aLcL g tt ae vs k ds (acc ++ [y]) (wipeS Γ4 vs) M3
      else aLcL g tt ae vs k ds acc (wipeS Γ2 vs) M2
structure WitL (k : List D → Sl → Mem → Prop) : Type where
def lcW (g : AG) (tt : AT) (ae : AE) (vs : List Nat) (k : List D → Sl → Mem → Prop) (_ : WitL k) (ds acc : List D) (Γ : Sl) (M : Mem) : Prop := aLcL g tt ae vs k ds acc Γ M
def aLc (ai : AI) (g : AG) (tt : AT) (ae : AE) (vs : List Nat) (Γ : Sl) (M : Mem) (Q : Ret → Sl → Mem → Prop) : Prop := ai Γ M fun ds Γ1 M1 => lcW g tt ae vs (fun acc Γ2 M2 => Q (.tmp (.lst acc)) Γ2 M2) ⟨⟩ ds [] (wipeS Γ1 vs) M1
def aYes (Γ : Sl) (M : Mem) (Q : Bool → Sl → Mem → Prop) : Prop := Q true Γ M
theorem rd_yes : RdT K ρ tYes aYes := fun _ _ H G Γ M _ _ k h q => q true H G Γ M k .refl h
theorem rd_lc {wi : TI} {ai : AI} {g : TG} {ag : AG} {is vs : List Nat} {tt : TT} {at' : AT} {bt : Bool} (hi : RdI K ρ bt wi ai) (hg : RdG K ρ bt g ag is) (hsub : ∀ j ∈ is, j ∈ vs) (ht : RdT K ρ tt at') (he : RdE K ρ te ae) : RdE K ρ (tLc wi g tt te vs) (aLc ai ag at' ae vs) := by
  intro B σ H G Γ M Q R k h q
  refine hi B σ H G Γ M _ _ k h fun J H1 G1 Γ1 M1 ds k1 e1 w h1 p hp => ?_
  obtain ⟨GG, Y, wk, hGG, hY⟩ := w.w
  have h0p : H p = none := e1.nn p hp
  -- the state with the block's names wiped
  have wS : ∀ (Δ : Sl) (i : Nat) (s : Slot), (wipeS Δ vs)[i]? = some s → s ≠ .non → Δ[i]? = some s ∧ i ∉ vs := fun Δ i s a b => wipeS_some a b
  obtain ⟨k1t, e1t, hm1, hn1, hb1, hg1⟩ := k1.tmp (o := .lst []) hp
  obtain ⟨k1w, o1w⟩ := k1t.agree (σ' := σ) (Γ' := wipeS Γ1 vs) (fun i s a b => ⟨(wS Γ1 i s a b).1, rfl⟩) (by rw [wipeS_length]; exact k1.len)
  have upN : ∀ {H2 : Hp} {o : HO} x, upd H2 p o x = none → H2 x = none := fun {H2 o} x z => by
    by_cases e : x = p
    · subst e; rw [upd_same] at z; cases z
    · rw [upd_ne e] at z; exact z
  refine lc_it wk (fun i H2 => ∃ G2 Γ2 M2 acc xs, Ok K ρ B σ H2 G2 Γ2 M2 ∧ Es σ H1 G1 Γ1 M1 H2 G2 Γ2 M2 ∧ (∀ (j : Nat) (s : Slot), Γ2[j]? = some s → s ≠ .non → j ∉ vs) ∧ H2 p = some (.lst xs) ∧ RepL K G2 acc xs ∧ G2 p = none ∧ p ∉ dom M2 ∧ ¬ owned σ Γ2 p ∧
      aLcL ag at' ae vs (fun acc Γ2 M2 => Q (.tmp (.lst acc)) Γ2 M2) (ds.drop i) acc Γ2 M2) ?_ ?_ ?_ ?_
  · refine ⟨G1, wipeS Γ1 vs, M1, [], [], k1w, ⟨Ex.refl _, fun a o h g m n => ?_, fun a z => upN a z⟩, fun j s a b => (wS Γ1 j s a b).2, upd_same, repL_nil.mpr rfl, hg1, hm1, fun z => hn1 (o1w _ z), h1⟩
    exact ⟨by rw [upd_ne (ne_of_none h hp)]; exact h, g, m, fun z => n (o1w _ z)⟩
  · rintro i H2 _ ⟨G2, Γ2, M2, acc, xs, k2, e2, _⟩
    exact hGG H2 (e2.g.trans k2.ex)
  · rintro i x H2 H2' hin ⟨G2, Γ2, M2, acc, xs, k2, e2, hv2, hp2, ra2, hg2, hm2, hn2, h2⟩ y
    rw [List.drop_eq_getElem_cons hin] at h2
    obtain ⟨G3, k3, e3, rp⟩ := (hY i H2 x H2' _ (List.getElem?_eq_getElem hin) (e2.g.trans k2.ex) y).ok k2 e2.g
    obtain ⟨hp3, hg3, hm3, hn3⟩ := e3.tmp p _ hp2 hg2 hm2 hn2
    obtain ⟨k3w, o3w⟩ := k3.agree (σ' := wipe σ vs) (Γ' := Γ2) (fun j s a b => ⟨a, wipe_out (hv2 j s a b)⟩) (by rw [wipe_length]; exact k3.len)
    have o3b : ∀ x, owned σ Γ2 x → owned (wipe σ vs) Γ2 x := fun x ⟨j, c, z1, z2⟩ => ⟨j, c, z1, by rw [wipe_out (hv2 j _ z1 (by intro e; cases e))]; exact z2⟩
    refine hg B (wipe σ vs) H2' G3 Γ2 M2 _ x _ _ k3w rp h2 fun σ2 Γ3 k4 w4 o4 h4 => ⟨?_, ?_⟩
    · rw [w4 vs hsub, wipe_wipe]
    have hw2 : wipe σ2 vs = wipe σ vs := by rw [w4 vs hsub, wipe_wipe]
    have ag2 : ∀ j, j ∉ vs → σ[j]? = σ2[j]? := fun j hj => by rw [← wipe_out (σ := σ2) hj, hw2, wipe_out hj]
    have hl2 : σ2.length = σ.length := by rw [← wipe_length σ2 vs, hw2, wipe_length]
    -- what stands at the end of a turn
    have fin : ∀ {H5 G5 : Hp} {Γ5 : Sl} {M5 : Mem}, Ok K ρ B σ2 H5 G5 Γ5 M5 → Es σ2 H2' G3 Γ3 M2 H5 G5 Γ5 M5 → Ok K ρ B σ H5 G5 (wipeS Γ5 vs) M5 ∧ Es σ H1 G1 Γ1 M1 H5 G5 (wipeS Γ5 vs) M5 ∧ H5 p = some (.lst xs) ∧ G5 p = none ∧ p ∉ dom M5 ∧ ¬ owned σ2 Γ5 p ∧ ¬ owned σ (wipeS Γ5 vs) p := fun {H5 G5 Γ5 M5} k5 e5 => by
      obtain ⟨k6, o6⟩ := k5.agree (σ' := σ) (Γ' := wipeS Γ5 vs) (fun j s a b => ⟨(wS Γ5 j s a b).1, ag2 j (wS Γ5 j s a b).2⟩) (by rw [wipeS_length, k5.len, hl2])
      have through : ∀ a o, H2 a = some o → G2 a = none → a ∉ dom M2 → ¬ owned σ Γ2 a → H5 a = some o ∧ G5 a = none ∧ a ∉ dom M5 ∧ ¬ owned σ2 Γ5 a := fun a o h g m n => by
        obtain ⟨a1, a2, a3, a4⟩ := e3.tmp a o h g m n
        exact e5.tmp a o a1 a2 a3 fun z => a4 (o3w _ (o4 _ z))
      obtain ⟨b1, b2, b3, b4⟩ := through p _ hp2 hg2 hm2 hn2
      refine ⟨k6, ⟨(e2.g.trans e3.g).trans e5.g, fun a o h g m n => ?_, fun a z => e2.nn a (e3.nn a (e5.nn a z))⟩, b1, b2, b3, b4, fun z => b4 (o6 _ z)⟩
      obtain ⟨a1, a2, a3, a4⟩ := e2.tmp a o h g m n
      obtain ⟨c1, c2, c3, c4⟩ := through a o a1 a2 a3 a4
      exact ⟨c1, c2, c3, fun z => c4 (o6 _ z)⟩
    refine ht B σ2 H2' G3 Γ3 M2 _ _ k4 h4 fun b H5 G5 Γ5 M5 k5 e5 h5 => ?_
    cases b with
    | false =>
      obtain ⟨k6, e6, p6, g6, m6, _, n6⟩ := fin k5 e5
      exact ⟨G5, wipeS Γ5 vs, M5, acc, xs, k6, e6, fun j s a b => (wS Γ5 j s a b).2, p6, (ra2.mono e3.g).mono e5.g, g6, m6, n6, by simpa using h5⟩
    | true =>
      refine he B σ2 H5 G5 Γ5 M5 _ _ k5 (by simpa using h5) fun v H6 G6 Γ6 M6 r k6 e6 rr h6 => ?_
      obtain ⟨G7, Γ7, y, k7, e7, rp7, hlen, h7⟩ := frz_ok (H0 := H5) k6 e6 rr h6
      obtain ⟨k8, e8, p8, g8, m8, n8', n8⟩ := fin k7 (e5.trans e7)
      have ra : RepL K G7 acc xs := (ra2.mono e3.g).mono (e5.trans e7).g
      refine ⟨xs, p8, by rw [ra.length]; exact hlen, G7, wipeS Γ7 vs, M6, acc ++ [y], xs ++ [v], k8.updTmp p8 hb1 g8 m8 n8, ⟨e8.g, fun a o h g m n => ?_, fun a z => e8.nn a (upN a z)⟩, fun j s a b => (wS Γ7 j s a b).2, upd_same, ra.append (RepL.one rp7), g8, m8, n8, h7⟩
      obtain ⟨a1, a2, a3, a4⟩ := e8.tmp a o h g m n
      exact ⟨by rw [upd_ne (ne_of_none h hp)]; exact a1, a2, a3, a4⟩
  · rintro H2 ⟨G2, Γ2, M2, acc, xs, k2, e2, _, hp2, ra2, hg2, hm2, hn2, h2⟩
    rw [List.drop_length] at h2
    exact q _ H2 G2 Γ2 M2 (.tmp (.lst acc)) k2 (e1.trans e2) ⟨p, rfl, h0p, hb1, ⟨hg2, _, hp2, xs, rfl, ra2⟩, hm2, hn2⟩ h2
structure QTs (X : Cx) (ρ : Ent) (ifs : List Expr) (tt : TT) (at' : AT) : Prop where
  pe : PTs X ifs tt
  rd : RdT X.K ρ tt at'
theorem qts_nil : QTs X ρ [] tYes aYes := ⟨pts_nil, rd_yes⟩
theorem qts_one {tt : TT} {at' : AT} (h : QT X ρ c tt at') : QTs X ρ [c] tt at' := ⟨pts_one h.pe, h.rd⟩
theorem q_lc {elt iter : Expr} {ifs : List Expr} {scope : Scope} {own : List (Str × Nat)} {wi : TI} {ai : AI} {g : TG} {ag : AG} {is : List Nat} {tt : TT} {at' : AT} (own' : List (Str × Nat)) (hown : own = own') (hN : X.N.Nodup) (hi : QI X ρ tg iter wi ai) (ok : BlkOk X.N X.env.scope scope own)
    (hg : ∀ (s : Shared) (H : Hp) (C : Addr) (cl : List (Str × Addr)) (fp : List Addr), QG (X.blk s H scope (compEnvC scope cl C X.env) fp) ρ tg g ag is) (ht : ∀ (s : Shared) (H : Hp) (C : Addr) (cl : List (Str × Addr)) (fp : List Addr), QTs (X.blk s H scope (compEnvC scope cl C X.env) fp) ρ ifs tt at')
    (he : ∀ (s : Shared) (H : Hp) (C : Addr) (cl : List (Str × Addr)) (fp : List Addr), QE (X.blk s H scope (compEnvC scope cl C X.env) fp) ρ elt te ae) (hsub : ∀ j ∈ is, j ∈ own.map (·.2)) (s0 : Shared) (hc : X.calm = true := by rfl) (hs : ∀ x, foldedSetIterable iter X.env x = pure x := by intro _; rfl) :
    QE X ρ (.ListComp elt [⟨tg, iter, ifs, 0⟩] scope pos) (tLc wi g tt te (own.map (·.2))) (aLc ai ag at' ae (own.map (·.2))) :=
  ⟨pe_lc hc hN hi.pe ok (fun s H C cl fp => (hg s H C cl fp).pe) (fun s H C cl fp => (ht s H C cl fp).pe) (fun s H C cl fp => (he s H C cl fp).pe) hs,
   rd_lc hi.rd (hg s0 X.H_0 0 [] []).rd hsub (ht s0 X.H_0 0 [] []).rd (he s0 X.H_0 0 [] []).rd⟩
end
end Gw

namespace Gw
open PySem L2 PyProof.Rows
variable {ρ : Ent}
def ret (r : Ret) (Γ : Sl) (k : Ret → Prop) : Prop := match r with
  | .dat d => k (.dat d)
  | .tmp c => k (.tmp c)
  | .var i => match Γ[i]? with
    | some (.own c) => k (.tmp c)
    | some (.dat d) => k (.dat d)
    | _ => False
def endsOf (Q : Ret → Mem → Prop) : AEnds := ⟨fun _ M => Q (.dat .non) M, fun r Γ M => ret r Γ fun r' => Q r' M, fun _ _ => False, fun _ _ => False⟩
def slots (n : Nat) (ds : List D) : Sl := ds.map .dat ++ List.replicate (n - ds.length) .non
section
variable {P : Program} {w : World} {K : PySem.W.Frag} {mg : Str → Option Value} {base : Heap}
theorem ok_start {N : List Str} {vs : List V} {ds : List D} {H G : Hp} {M : Mem} (ex : Ex G H) (nd : (dom M).Nodup) (ms : ∀ a c, (a, c) ∈ M → Cel K H G a c) (rl : RepL K G ds vs) : Ok K ⟨H, G, dom M⟩ ⟨H, G, dom M⟩ (L2.start N vs) H G (slots N.length ds) M := by
  have hdat : ∀ (i : Nat) (s : Slot), (slots N.length ds)[i]? = some s → s ≠ .non → ∃ d, ds[i]? = some d ∧ s = .dat d := fun i s h hn => by
    unfold slots at h
    by_cases hi : i < ds.length
    · rw [List.getElem?_append_left (by rw [List.length_map]; exact hi), List.getElem?_map, List.getElem?_eq_getElem hi] at h
      cases h
      exact ⟨_, List.getElem?_eq_getElem hi, rfl⟩
    · rw [List.getElem?_append_right (by rw [List.length_map]; omega)] at h
      have := List.mem_of_getElem? h
      rw [List.mem_replicate] at this
      exact (hn this.2).elim
  refine ⟨⟨Ex.refl _, fun _ _ h _ => h, fun _ _ h => .inl h, fun _ h => .inl h, fun _ h => h⟩, ex, nd, ms, fun i d h => ?_, fun i c h => ?_, fun i j ci cj p h _ _ _ => ?_, ?_, Refi.refl _⟩
  · obtain ⟨d', e, z⟩ := hdat i _ h (by intro e; cases e)
    cases z
    obtain ⟨v, hv, r⟩ := rl.get e
    refine ⟨v, ?_, r⟩
    unfold L2.start
    rw [List.getElem?_append_left (by rw [List.length_map]; exact (List.getElem?_eq_some_iff.mp hv).1), List.getElem?_map, hv]
    rfl
  · obtain ⟨d', e, z⟩ := hdat i _ h (by intro e; cases e)
    cases z
  · obtain ⟨d', e, z⟩ := hdat i _ h (by intro e; cases e)
    cases z
  · unfold slots L2.start
    rw [List.length_append, List.length_append, List.length_map, List.length_map, List.length_replicate, List.length_replicate, rl.length]
theorem fn_ok {k : Nat} {x qual : Str} {st : Stmt} {f : Addr} {fd : FuncData} {N ps : List Str} {S : ASp} (F : Fun K x qual st f fd) (sc : FnScope N ps (defScope st)) (hn : Ar ps.length S) {as : AS}
    (hb : ∀ (ρ : Ent) (cd : Value) (A : Around) (outer : List Env) (s : Shared) (H : Hp) (E : XK), Room k (A.deeper (envOfC qual (defScope st) s.heap.objs.size f cd)) → A.guards = some [] → ∃ ts, QSs (cxOf CX0 P w K mg base N qual (defScope st) f cd A outer s H E).nox ρ (defBody st) ts as)
    (hr : ∀ ds M Q, S ds M Q → as (endsOf Q) (slots N.length ds) M) : FnG P w K mg base CX0 (k + 1) f fd ps (spA K ps.length S) := by
  refine fnG_of F sc (fun vs H Q E h => ?_) fun cd A outer s H vs Q E room gd h => ?_
  · obtain ⟨G, M, ds, hl, _⟩ := h; exact hl
  · obtain ⟨G, M, ds, hl, ex, nd, ms, rl, Qa, hS, fin⟩ := h
    obtain ⟨ts, q⟩ := hb ⟨H, G, dom M⟩ cd A outer s H E room gd
    refine ⟨ts, q.pe.nox, q.rd ⟨H, G, dom M⟩ (L2.start N vs) H G (slots N.length ds) M (endsOf Qa) _ (ok_start ex nd ms rl) (hr ds M Qa hS) ⟨fun σ H' G' Γ' M' k' z => ?_, fun σ H0 H' G' Γ' M' r v k' rr z => ?_, fun _ _ _ _ _ _ z => z.elim, fun _ _ _ _ _ _ z => z.elim⟩⟩
    · exact fin (.dat .non) M' .non H' G' z ⟨k'.st, k'.ex, k'.nd, k'.ms⟩ (by simp only [RetOk, Rep])
    · have post : Post K H G M H' G' M' := ⟨k'.st, k'.ex, k'.nd, k'.ms⟩
      cases r with
      | dat d => exact fin (.dat d) M' v H' G' z post rr
      | tmp c =>
        obtain ⟨p, e, _, hb, hc, hm, _⟩ := rr
        exact fin (.tmp c) M' v H' G' z post ⟨p, e, hb, hc, hm⟩
      | var i =>
        simp only [endsOf, ret] at z
        split at z
        · rename_i c e1
          obtain ⟨p, s1, hb, hm, hc⟩ := k'.own i c e1
          have : v = .ref p := by have := (show (_ : L2.St)[i]? = some (some v) from rr); rw [s1] at this; cases this; rfl
          exact fin (.tmp c) M' v H' G' z post ⟨p, this, hb, hc, hm⟩
        · rename_i d e1
          obtain ⟨v', h1, h2⟩ := k'.dat i d e1
          have : v' = v := by have := (show (_ : L2.St)[i]? = some (some v) from rr); rw [h1] at this; cases this; rfl
          subst this
          exact fin (.dat d) M' _ H' G' z post h2
        · exact z.elim
end
section
variable {X : Cx} {a : Expr} {ta : TE} {aa : AE} {pos : Pos} {K : PySem.W.Frag}
def shOk (d : D) : Bool := plain d && (toPy d).showable && decide ((toPy d).depth ≤ 64) && decide ((toPy d).shown.length ≤ sizeLine)
def shD (d : D) : Str := (toPy d).shown
def aRepr (r : Ret) (Γ : Sl) (M : Mem) (Q : Ret → Sl → Mem → Prop) : Prop := match dOf r Γ M with
  | some d => shOk d = true ∧ Q (.dat (.str (shD d))) Γ M
  | none => False
end
section
variable {P : Program} {w : World} {K : PySem.W.Frag} {mg mb : Str → Option Value}
theorem env_script {s : Shared} {H : Hp} {a : Addr} {vs : List Value} (KX : K.In s.heap) (hns : s.heap.Ns mainGlobals mg) (hb : s.heap.Ns builtinsNs mb) (hbb : ∀ x : Str, x ≠ "__name__" → mb x = bootBuiltins x) (lim : s.heap.NoLimit) (hg : s.gens = #[])
    (ha : s.heap.get? a = some { cls := .type "list", data := .seq vs.toArray }) (hok : HOk P w H s.heap) (one : ∀ b, H b ≠ none → b = a) (hK : H a ≠ none → K.lookup a = none) :
    K.In (hidT s.heap H) ∧ (hidT s.heap H).Ns mainGlobals mg ∧ Env0 P w K mg (hidT s.heap H) callerA [] s H := by
  have free : ∀ b, b ≠ a → H b = none := fun b ne => Classical.byContradiction fun z => ne (one b z)
  have nsOf : ∀ {b : Addr} {m : Str → Option Value}, s.heap.Ns b m → (hidT s.heap H).Ns b m := by
    rintro b m ⟨o, es, ep, e, d, r⟩
    refine ⟨o, es, ep, hidT_get e (free b fun z => ?_), d, r⟩
    rw [z, ha] at e
    have e' := Option.some.inj e
    rw [← e'] at d
    cases d
  have kin : K.In (hidT s.heap H) := by
    intro b o e
    refine hidT_get (KX b o e) (Classical.byContradiction fun z => ?_)
    have eb := one b z
    subst eb
    rw [hK z] at e
    cases e
  obtain ⟨mc, l1, l2⟩ := lim
  refine ⟨kin, nsOf hns, ⟨rfl, ⟨kin, nsOf hns, ⟨mb, nsOf hb, hbb⟩, ⟨mc, nsOf l1, l2⟩⟩, fun b o e => of_hidT e, ?_, trivial, ?_, hok, .of_eq hg⟩⟩
  · rw [hidT_size]; exact Nat.le_refl _
  · intro b hb'; cases hb'
def spLaw (K : PySem.W.Frag) (S : List Int → Prop) : Sp := fun vs H Q _ => ∃ (a : Addr) (ns : List Int), vs = [.ref a] ∧ SqL K H a (ns.map V.int) ∧ S ns ∧ ∀ H', Q (.bl true) H'
theorem law_end {S : List Int → Prop} {k : Nat} {fa a : Addr} {fd : FuncData} {x : Str} {s₁ : Shared} {vs : List Value} {ns : List Int} (KX : K.In s₁.heap) (hns : s₁.heap.Ns mainGlobals mg) (hb : s₁.heap.Ns builtinsNs mb) (hbb : ∀ x : Str, x ≠ "__name__" → mb x = bootBuiltins x) (lim : s₁.heap.NoLimit) (hg : s₁.gens = #[])
    (ha : s₁.heap.get? a = some { cls := .type "list", data := .seq vs.toArray }) (hi : IntsAre vs ns) (hl : ns.length ≤ sizeLine) (hr : Room k callerA) (hS : S ns)
    (F : ∀ base : Heap, K.In base → base.Ns mainGlobals mg → FnG P w K mg base CX0 k fa fd [x] (spLaw K S)) (bind : ∀ (s : Shared) (u : Value), BindsTo s fd ⟨[u], []⟩ [(x, u)]) :
    codeAny (model P w) callerA (.call (.ref fa) ⟨[.ref a], []⟩) (fun r s' => r = .ok (.ret (.bool true)) ∧ PySem.OldK s₁.heap s'.heap ∧ s'.os = s₁.os ∧ AllBare s'.gens) s₁ := by
  have go : ∀ H : Hp, (∀ b, H b = none ∨ ∃ o xs, H b = some (.frz o (.lst xs))) → SqL K H a (ns.map V.int) → HOk P w H s₁.heap → (∀ b, H b ≠ none → b = a) → (H a ≠ none → K.lookup a = none) →
      codeAny (model P w) callerA (.call (.ref fa) ⟨[.ref a], []⟩) (fun r s' => r = .ok (.ret (.bool true)) ∧ PySem.OldK s₁.heap s'.heap ∧ s'.os = s₁.os ∧ AllBare s'.gens) s₁ := by
    intro H only sq hok one hK
    obtain ⟨kin, nsb, e0⟩ := env_script (P := P) (w := w) KX hns hb hbb lim hg ha hok one hK
    have run := (F _ kin nsb).go callerA [] s₁ H ⟨[.ref a], []⟩ [.ref a] [.ref a] (fun v _ => v = .bl true) (fun _ _ _ => False) hr rfl e0 (bind s₁ (.ref a)) (.cons rfl .nil) ⟨a, ns, rfl, sq, hS, fun _ => rfl⟩
    refine codeAny_mono run fun r s' h => ?_
    match r, h with
    | .error _, h => exact h.elim
    | .ok .next, h => exact h.elim
    | .ok .brk, h => exact h.elim
    | .ok .cont, h => exact h.elim
    | .ok (.ret u), ⟨v, H', os, bare, un, hok', rv, q⟩ =>
      have q' : v = .bl true := q
      subst q'
      have eu : u = Value.bool true := rv
      subst eu
      refine ⟨rfl, PySem.OldK.of_keep fun b o e => ?_, os, bare⟩
      rcases only b with z | ⟨ob, xs, z⟩
      · exact un.keep b o e z (fun m => by cases m) (fun m => by cases m)
      · obtain ⟨e1, _⟩ := hok b _ z
        obtain ⟨e2, _⟩ := hok' b _ (un.frzs b ob _ z)
        rw [e1] at e
        cases e
        exact e2
  have rv : Vals (ns.map V.int) vs := vals_ints hi
  by_cases hk : ∃ o, K.lookup a = some o
  · obtain ⟨o, hk⟩ := hk
    have e := KX a o hk
    rw [ha] at e
    cases e
    refine go (fun _ => none) (fun _ => .inl rfl) (.inr ⟨_, vs.toArray, _, hk, rfl, rfl, rfl, ?_, ?_⟩) (fun b u z => nomatch z) (fun b z => (z rfl).elim) (fun z => (z rfl).elim)
    · rw [List.size_toArray, hi.length]; exact hl
    · simpa using rv
  · have hk' : K.lookup a = none := by cases z : K.lookup a with | none => rfl | some o => exact (hk ⟨o, z⟩).elim
    let ob : Obj := { cls := .type "list", data := .seq vs.toArray }
    refine go (fun b => if b = a then some (.frz ob (.lst (ns.map V.int))) else none) (fun b => ?_) (.inl (.inr ⟨ob, if_pos rfl⟩)) (fun b u z => ?_) (fun b z => ?_) (fun _ => hk')
    · by_cases eb : b = a
      · exact .inr ⟨_, _, if_pos eb⟩
      · exact .inl (if_neg eb)
    · by_cases eb : b = a
      · subst eb
        have z' : u = .frz ob (.lst (ns.map V.int)) := by simpa using z.symm
        subst z'
        exact ⟨ha, by rw [List.length_map]; exact hl, vs, _, rv, ha⟩
      · simp [eb] at z
    · exact Classical.byContradiction fun eb => z (if_neg eb)
end
theorem law_walk {l : PySem.W.OpenLaw} {n k : Nat} {q : Program} {loose : List Str} {XP : (Str → Option Value) → Heap → Prop} {YP : World → Heap → Prop} {d : DefRec} {K : Params → PySem.W.Frag} {x : Str} {S : List Int → Prop}
    (hn : l.most = some n) (hn2 : n ≤ sizeLine) (hdf : d.params.defaults = []) (hr : Room k callerA) (hY : ∀ (w : World) (h : Heap), YP w h → (K w.params).In h)
    (F : ∀ (w : World) (mg : Str → Option Value) (fa : Addr) (h : Heap), (K w.params).In h → h.Ns mainGlobals mg → mg d.name = some (.ref fa) →
      ∃ fd : FuncData, (∀ (s : Shared) (u : Value), BindsTo s fd ⟨[u], []⟩ [(x, u)]) ∧ ∀ base : Heap, (K w.params).In base → base.Ns mainGlobals mg → FnG l.prog w (K w.params) mg base CX0 k fa fd [x] (spLaw (K w.params) S))
    (hS : ∀ ns : List Int, ns.length ≤ n → (∀ z ∈ ns, Builtin.Int.intBits z ≤ 1048576) → S ns) : PySem.W.WalkO q loose XP YP l.row.toRowW d [] (fun f vs => PySem.call f vs) :=
  Att.attach_callB hn hdf fun w s₀ s₁ mg mb fa o pm cd doc a vs ns G Y ho hd hcd hmg hobj hints hlen hbits hg => by
    have kx := hY w _ Y
    obtain ⟨fd, hb, hF⟩ := F w mg fa _ kx G.T.g hmg
    exact law_end kx G.T.g G.T.b G.T.builtins G.T.nolimit hg hobj hints (Nat.le_trans hlen hn2) hr (hS ns hlen hbits) hF hb
end Gw

namespace Gw
open PySem L2
variable {ρ : Ent}
section
variable {X : Cx} {tg a b c : Expr} {ta tb tc te : TE} {aa ab ac ae : AE} {pos : Pos} {K : PySem.W.Frag} {i : Nat} {x : Str} {pos' : Pos}
theorem qs_setLcG {elt iter : Expr} {ifs : List Expr} {scope : Scope} {own : List (Str × Nat)} {wi : TI} {ai : AI} {g : TG} {ag : AG} {is : List Nat} {tt : TT} {at' : AT} {spos : Pos} {as : AS} (i : Nat)
    (has : ∀ {te' : TE} {ae' : AE}, RdE X.K ρ te' ae' → ae' = aLc ai ag at' ae (own.map (·.2)) → RdS X.K ρ (tAsg te' (gName i)) as)
    (hN : X.N.Nodup) (hi : QI X ρ tg iter wi ai) (ok : BlkOk X.N X.env.scope scope own)
    (hg : ∀ (s : Shared) (H : Hp) (C : Addr) (cl : List (Str × Addr)) (fp : List Addr), QG (X.blk s H scope (compEnvC scope cl C X.env) fp) ρ tg g ag is) (ht : ∀ (s : Shared) (H : Hp) (C : Addr) (cl : List (Str × Addr)) (fp : List Addr), QTs (X.blk s H scope (compEnvC scope cl C X.env) fp) ρ ifs tt at')
    (he : ∀ (s : Shared) (H : Hp) (C : Addr) (cl : List (Str × Addr)) (fp : List Addr), QE (X.blk s H scope (compEnvC scope cl C X.env) fp) ρ elt te ae) (hsub : ∀ j ∈ is, j ∈ own.map (·.2)) (s0 : Shared)
    (hy : X.N[i]? = some x) (hyl : X.env.scope.names.lookup x = some .local) (hsw : swapsWith (.ListComp elt [⟨tg, iter, ifs, 0⟩] scope pos) (some (.Name x pos')) spos.line X.env = pure true) (hc : X.calm = true) (hs : ∀ x, foldedSetIterable iter X.env x = pure x) :
    QS X ρ (.Assign [.Name x pos'] (.ListComp elt [⟨tg, iter, ifs, 0⟩] scope pos) spos) (tAsg (tLc wi g tt te (own.map (·.2))) (gName i)) as :=
  ⟨ps_setLc hc hN hy hyl hsw hi.pe ok (fun s H C cl fp => (hg s H C cl fp).pe) (fun s H C cl fp => (ht s H C cl fp).pe) (fun s H C cl fp => (he s H C cl fp).pe) hs,
   has (rd_lc hi.rd (hg s0 X.H_0 0 [] []).rd hsub (ht s0 X.H_0 0 [] []).rd (he s0 X.H_0 0 [] []).rd) rfl⟩
theorem qs_setLcF {elt iter : Expr} {ifs : List Expr} {scope : Scope} {own : List (Str × Nat)} {wi : TI} {ai : AI} {g : TG} {ag : AG} {is : List Nat} {tt : TT} {at' : AT} {spos : Pos} (i : Nat) (hN : X.N.Nodup) (hi : QI X ρ tg iter wi ai) (ok : BlkOk X.N X.env.scope scope own)
    (hg : ∀ (s : Shared) (H : Hp) (C : Addr) (cl : List (Str × Addr)) (fp : List Addr), QG (X.blk s H scope (compEnvC scope cl C X.env) fp) ρ tg g ag is) (ht : ∀ (s : Shared) (H : Hp) (C : Addr) (cl : List (Str × Addr)) (fp : List Addr), QTs (X.blk s H scope (compEnvC scope cl C X.env) fp) ρ ifs tt at')
    (he : ∀ (s : Shared) (H : Hp) (C : Addr) (cl : List (Str × Addr)) (fp : List Addr), QE (X.blk s H scope (compEnvC scope cl C X.env) fp) ρ elt te ae) (s0 : Shared) (hsub : ∀ j ∈ is, j ∈ own.map (·.2) := by decide)
    (hy : X.N[i]? = some x := by rfl) (hyl : X.env.scope.names.lookup x = some .local := by rfl) (hsw : swapsWith (.ListComp elt [⟨tg, iter, ifs, 0⟩] scope pos) (some (.Name x pos')) spos.line X.env = pure true := by exact sw_true rfl rfl rfl (by decide +kernel)) (hc : X.calm = true := by rfl) (hs : ∀ x, foldedSetIterable iter X.env x = pure x := by intro _; rfl) :
    QS X ρ (.Assign [.Name x pos'] (.ListComp elt [⟨tg, iter, ifs, 0⟩] scope pos) spos) (tAsg (tLc wi g tt te (own.map (·.2))) (gName i)) (aAsgF (aLc ai ag at' ae (own.map (·.2))) i) :=
  qs_setLcG i (fun h e => by subst e; exact rd_asgF h) hN hi ok hg ht he hsub s0 hy hyl hsw hc hs
theorem q_comp {elt iter : Expr} {ifs : List Expr} {scope : Scope} {own : List (Str × Nat)} {wi : TI} {ai : AI} {g : TG} {ag : AG} {is : List Nat} {tt : TT} {at' : AT} (hN : X.N.Nodup) (hi : QI X ρ tg iter wi ai) (ok : BlkOk X.N X.env.scope scope own)
    (hg : ∀ (s : Shared) (H : Hp) (C : Addr) (cl : List (Str × Addr)) (fp : List Addr), QG (X.blk s H scope (compEnvC scope cl C X.env) fp) ρ tg g ag is) (ht : ∀ (s : Shared) (H : Hp) (C : Addr) (cl : List (Str × Addr)) (fp : List Addr), QTs (X.blk s H scope (compEnvC scope cl C X.env) fp) ρ ifs tt at')
    (he : ∀ (s : Shared) (H : Hp) (C : Addr) (cl : List (Str × Addr)) (fp : List Addr), QE (X.blk s H scope (compEnvC scope cl C X.env) fp) ρ elt te ae) (s0 : Shared) (hsub : ∀ j ∈ is, j ∈ own.map (·.2) := by decide) (hc : X.calm = true := by rfl) (hs : ∀ x, foldedSetIterable iter X.env x = pure x := by intro _; rfl) :
    QE X ρ (.ListComp elt [⟨tg, iter, ifs, 0⟩] scope pos) (tLc wi g tt te (own.map (·.2))) (aLc ai ag at' ae (own.map (·.2))) := q_lc own rfl hN hi ok hg ht he hsub s0 hc hs
def aPar (aa : AA) (i j : Nat) (A : AEnds) (Γ : Sl) (M : Mem) : Prop := aa Γ M fun ds Γ1 M1 => match ds with
  | [d, e] => A.nx ((Γ1.set i (.dat d)).set j (.dat e)) M1
  | _ => False
theorem qs_par {y : Str} {tr : TA} {ar : AA} {px py pt spos : Pos} {kt k2 pt2} (i j : Nat) (hN : X.N.Nodup) (ha : QA X ρ [a, b] tr ar) (hi : X.N[i]? = some x := by rfl) (hj : X.N[j]? = some y := by rfl) (hij : i ≠ j := by decide)
    (hx : X.env.scope.names.lookup x = some .local := by rfl) (hy : X.env.scope.names.lookup y = some .local := by rfl) (hw : swappedStores [.Tuple [.Name x px, .Name y py] kt pt] (.Tuple [a, b] k2 pt2) X.env = pure (some [x, y]) := by rfl)
    (hs : swapsWithSole [.Tuple [.Name x px, .Name y py] kt pt] (.Tuple [a, b] k2 pt2) spos.line X.env = pure false := by rfl) (hc : X.calm = true := by rfl) : QS X ρ (.Assign [.Tuple [.Name x px, .Name y py] kt pt] (.Tuple [a, b] k2 pt2) spos) (tPar i j tr) (aPar ar i j) :=
  ⟨ps_par hc hN hi hj hij hx hy ha.pe hw hs, fun B σ H G Γ M A E k h s => ha.rd B σ H G Γ M _ _ k h fun vs H1 G1 Γ1 M1 ds k1 e1 rl h1 => by
    split at h1
    · rename_i d e
      obtain ⟨v, r, rfl, rv, rn⟩ := repL_cons.mp rl
      obtain ⟨u, r', rfl, ru, rn'⟩ := repL_cons.mp rn
      have := repL_nil.mp rn'; subst this
      exact ⟨v, u, rfl, s.nx _ H1 G1 _ M1 ((k1.setD rv).setD ru) h1⟩
    · exact h1.elim⟩
def aParO (aa ab : AE) (i j : Nat) (A : AEnds) (Γ : Sl) (M : Mem) : Prop := aa Γ M fun r Γ1 M1 => frz r Γ1 fun d Γ2 => ab Γ2 M1 fun r2 Γ3 M3 => match r2 with
  | .tmp c => A.nx ((Γ3.set i (.dat d)).set j (.own c)) M3
  | _ => False
theorem qs_parO {y : Str} {px py pt spos : Pos} {kt k2 pt2} (i j : Nat) (hN : X.N.Nodup) (ha : QE X ρ a ta aa) (hb : QE X ρ b tb ab) (na : starEach [a, b] X.env = (false, eval a X.env) :: starEach [b] X.env := by rfl) (nb : starEach [b] X.env = (false, eval b X.env) :: starEach [] X.env := by rfl) (hi : X.N[i]? = some x := by rfl) (hj : X.N[j]? = some y := by rfl) (hij : i ≠ j := by decide)
    (hx : X.env.scope.names.lookup x = some .local := by rfl) (hy : X.env.scope.names.lookup y = some .local := by rfl) (hw : swappedStores [.Tuple [.Name x px, .Name y py] kt pt] (.Tuple [a, b] k2 pt2) X.env = pure (some [x, y]) := by rfl)
    (hs : swapsWithSole [.Tuple [.Name x px, .Name y py] kt pt] (.Tuple [a, b] k2 pt2) spos.line X.env = pure false := by rfl) (hc : X.calm = true := by rfl) : QS X ρ (.Assign [.Tuple [.Name x px, .Name y py] kt pt] (.Tuple [a, b] k2 pt2) spos) (tPar i j (tCons ta (tCons tb tNil))) (aParO aa ab i j) :=
  ⟨ps_par hc hN hi hj hij hx hy (pa_cons ha.pe (pa_cons hb.pe pa_nil nb) na) hw hs, fun B σ H G Γ M A E k h s => ha.rd B σ H G Γ M _ _ k h fun v H1 G1 Γ1 M1 r k1 e1 rr h1 => by
    obtain ⟨G2, Γ2, d, k2, e2, rp, h2⟩ := frz_ok (H0 := H) k1 e1 rr h1
    refine hb.rd B σ H1 G2 Γ2 M1 _ _ k2 h2 fun u H3 G3 Γ3 M3 r3 k3 e3 rr3 h3 => ?_
    split at h3
    · rename_i c
      obtain ⟨p, rfl, h0, hb', hc', hm, hn⟩ := rr3
      exact ⟨v, _, rfl, s.nx _ H3 G3 _ M3 ((k3.setD (rp.mono e3.g)).setO hb' hc' hm fun z => hn (owned_set (fun c e => by cases e) z)) h3⟩
    · exact h3.elim⟩
def aI3 (g : Int → Int → Int → Int) (aa : AA) (Γ : Sl) (M : Mem) (Q : Ret → Sl → Mem → Prop) : Prop := aa Γ M fun ds Γ1 M1 => match ds with
  | [.int i, .int j, .int l] => Q (.dat (.int (g i j l))) Γ1 M1
  | _ => False
end
section
variable {P : Program} {w : World} {K : PySem.W.Frag} {mg : Str → Option Value} {base : Heap}
def SLaw (S : List Int → Prop) : ASp := fun ds M Q => ∃ ns : List Int, ds = [.scr (ns.map .int)] ∧ M = [] ∧ S ns ∧ ∀ M', Q (.dat (.bl true)) M'
theorem ar_law (S : List Int → Prop) : Ar 1 (SLaw S) := fun _ _ _ ⟨_, e, _⟩ => by rw [e]; rfl
theorem law_fn {S : List Int → Prop} {k : Nat} {f : Addr} {fd : FuncData} {x : Str} (F : FnG P w K mg base CX0 k f fd [x] (spA K 1 (SLaw S))) : FnG P w K mg base CX0 k f fd [x] (spLaw K S) where
  arity := fun vs H Q E h => by obtain ⟨a, ns, rfl, _⟩ := h; rfl
  go := fun A o s H ar us vs Q E r gd e b rv h => F.go A o s H ar us vs Q E r gd e b rv (by
    obtain ⟨a, ns, rfl, sq, hS, hq⟩ := h
    refine ⟨H, [], [.scr (ns.map .int)], rfl, Ex.refl H, List.nodup_nil, (fun _ _ h => nomatch h), RepL.one (rep_scr.mpr ⟨a, _, rfl, sq, repL_map_int.mpr rfl⟩), fun r _ => r = .dat (.bl true), ⟨ns, rfl, rfl, hS, fun _ => rfl⟩, fun r M' v H' G' er _ rr => ?_⟩
    subst er
    have ev : v = .bl true := by have := rr; simp only [RetOk, Rep] at this; exact this
    subst ev
    exact hq H')
end
end Gw

namespace Gw
open PySem L2
variable {ρ : Ent}
theorem hu_big {k : Nat} {A : Around} (r : Room k A) : A.units + 100 < cLine := by have := r.un; omega
structure Cal (P : Program) (w : World) (K : PySem.W.Frag) (mg : Str → Option Value) (base : Heap) (x : Str) (ps : List Str) (k : Nat) (S : ASp) : Prop where
  ex : ∃ f fd, FnG P w K mg base CX0 k f fd ps (spA K ps.length S) ∧ mg x = some (.ref f) ∧ PySem.W.keepIn K (.ref f) = true ∧ Binds K fd ps [] ∧ Ar ps.length S
structure KCal (P : Program) (w : World) (K : PySem.W.Frag) (mg : Str → Option Value) (base : Heap) (x : Str) (ps : List Str) (k : Nat) (S : ASp) : Prop where
  ex : ∃ f fd, FnG P w K mg base CX0 k f fd ps (spA K ps.length S) ∧ mg x = some (.ref f) ∧ PySem.W.keepIn K (.ref f) = true ∧
    (∀ (s : Shared) (ws : List Value), K.In s.heap → ws.length = ps.length → BindsTo s fd ⟨[], ps.zip ws⟩ (ps.zip ws)) ∧ Ar ps.length S
section
variable {X : Cx} {P : Program} {w : World} {K : PySem.W.Frag} {mg : Str → Option Value} {base : Heap} {k n : Nat} {ps : List Str} {S : ASp} {x : Str} {p pos : Pos} {a : Expr} {es : List Expr} {tr : TA} {ar : AA}
structure At (X : Cx) (P : Program) (w : World) (K : PySem.W.Frag) (mg : Str → Option Value) (base : Heap) : Prop where
  prog : X.prog = P
  w : X.w = w
  K : X.K = K
  mg : X.mg = mg
  base : X.base = base
theorem q_callC (C : Cal P w K mg base x ps k S) (hr : Room k X.A) (gd : X.A.guards = some []) (ha : QA X ρ (a :: es) tr ar) (hX : At X P w K mg base := by exact ⟨rfl, rfl, rfl, rfl, rfl⟩) (hg : Gl X x := by rfl) (hdb : (x == ("__debug__" : Str)) = false := by decide)
    (he : starEach (a :: es) X.env = (false, eval a X.env) :: starEach es X.env := by rfl) (hpl : (backTo pos (starEach es X.env)).any (·.1) = false := by rfl) :
    QE X ρ (.Call (.Name x p) (a :: es) [] pos) (tCall (spA K ps.length S) [] E0 tr) (aCall S ar) := by
  obtain ⟨f, fd, F, hm, hk, hb, hn⟩ := C.ex
  obtain ⟨h1, h2, h3, h4, h5⟩ := hX
  subst h1 h2 h3 h4 h5
  exact q_call F hr gd hm hk hb hn ha hg hdb he hpl
theorem q_callC0 (C : Cal P w K mg base x ps k S) (hr : Room k X.A) (gd : X.A.guards = some []) (hX : At X P w K mg base := by exact ⟨rfl, rfl, rfl, rfl, rfl⟩) (hg : Gl X x := by rfl) (hdb : (x == ("__debug__" : Str)) = false := by decide) :
    QE X ρ (.Call (.Name x p) [] [] pos) (tCall (spA K ps.length S) [] E0 tNil) (aCall S aNil) := by
  obtain ⟨f, fd, F, hm, hk, hb, hn⟩ := C.ex
  obtain ⟨h1, h2, h3, h4, h5⟩ := hX
  subst h1 h2 h3 h4 h5
  exact q_call0 F hr gd hm hk hb hn hg hdb
end
section
variable {X : Cx} {a : Expr} {ta : TE} {aa : AE} {K : PySem.W.Frag} {B : Ent} {σ : St} {H G H1 G1 : Hp} {Γ Γ1 : Sl} {M M1 : Mem}
theorem Ok.share {p : Addr} {c : Cell} (k : Ok K ρ B σ H G Γ M) (hb : B.H p = none) (hc : Cel K H G p c) (hm : p ∉ dom M) (hn : ¬ owned σ Γ p) : Ok K ρ B σ H G Γ ((p, c) :: M) := by
  refine ⟨⟨k.st.g, k.st.fr, k.st.gn, fun x hx => ?_, k.st.nn⟩, k.ex, List.nodup_cons.mpr ⟨hm, k.nd⟩, fun x cx hx => ?_, k.dat, fun i ci h => ?_, k.dis, k.len, k.pb⟩
  · rcases List.mem_cons.mp hx with e | e
    · exact .inr (by rw [e]; exact hb)
    · exact k.st.mn x e
  · rcases List.mem_cons.mp hx with e | e
    · cases e; exact hc
    · exact k.ms x cx e
  · obtain ⟨q, h1, h2, h3, h4⟩ := k.own i ci h
    refine ⟨q, h1, h2, fun z => ?_, h4⟩
    rcases List.mem_cons.mp z with e | e
    · exact hn ⟨i, ci, h, by rw [show p = q from e.symm]; exact h1⟩
    · exact h3 e
def aSh (aa : AE) (Γ : Sl) (M : Mem) (Q : Ret → Sl → Mem → Prop) : Prop := aa Γ M fun r Γ1 M1 => match r with
  | .tmp c => ∀ p, p ∉ dom M1 → Q (.dat (.ref p)) Γ1 ((p, c) :: M1)
  | _ => False
theorem rd_sh (ha : RdE K ρ ta aa) : RdE K ρ ta (aSh aa) := fun B σ H G Γ M Q R k h q => ha B σ H G Γ M _ _ k h fun v H1 G1 Γ1 M1 r k1 e1 rr h1 => by
  split at h1
  · rename_i c
    obtain ⟨p, rfl, h0, hb, hc, hm, hn⟩ := rr
    refine q _ H1 G1 Γ1 _ (.dat (.ref p)) (k1.share hb hc hm hn) ⟨e1.g, fun x o hx g m n => ?_, e1.nn⟩ (by simp only [RepR, Rep]) (h1 p hm)
    obtain ⟨b1, b2, b3, b4⟩ := e1.tmp x o hx g m n
    refine ⟨b1, b2, fun z => ?_, b4⟩
    rcases List.mem_cons.mp z with e | e
    · subst e; rw [h0] at hx; cases hx
    · exact b3 e
  · exact h1.elim
theorem q_sh (h : QE X ρ a ta aa) : QE X ρ a ta (aSh aa) := ⟨h.pe, rd_sh h.rd⟩
def aShV (i : Nat) (Γ : Sl) (M : Mem) (Q : Ret → Sl → Mem → Prop) : Prop := match Γ[i]? with
  | some (.own c) => ∀ p, p ∉ dom M → Q (.dat (.ref p)) (Γ.set i (.dat (.ref p))) ((p, c) :: M)
  | _ => False
end
section
variable {X : Cx} {K : PySem.W.Frag}
def aEqS (f : Bool → Bool) (x : Ret) (y : Ret) (Γ : Sl) (M : Mem) (Q : Ret → Sl → Mem → Prop) : Prop := match x, y with
  | .dat (.str s), .dat (.str t) => Q (.dat (.bl (f (decide (s = t))))) Γ M
  | _, _ => False
theorem rd_eqS : RdO K ρ rEq (aEqS id) := by
  intro B σ H H1 H2 G Γ M rx ry x y Q R k r1 r2 h q
  unfold aEqS at h
  split at h
  · rename_i s t
    have e1 : x = .str s := by have := r1; simp only [RepR, Rep] at this; exact this
    have e2 : y = .str t := by have := r2; simp only [RepR, Rep] at this; exact this
    subst e1; subst e2
    refine ⟨rfl, q _ H G Γ M (.dat (.bl _)) k .refl ?_ h⟩
    simp only [RepR, Rep, id, V.str.injEq]
  · exact h.elim
theorem rd_neS : RdO K ρ rNe (aEqS not) := by
  intro B σ H H1 H2 G Γ M rx ry x y Q R k r1 r2 h q
  unfold aEqS at h
  split at h
  · rename_i s t
    have e1 : x = .str s := by have := r1; simp only [RepR, Rep] at this; exact this
    have e2 : y = .str t := by have := r2; simp only [RepR, Rep] at this; exact this
    subst e1; subst e2
    refine ⟨rfl, q _ H G Γ M (.dat (.bl _)) k .refl ?_ h⟩
    simp only [RepR, Rep, V.str.injEq]
  · exact h.elim
theorem c_eqS : CmpR X ρ .Eq rEq (aEqS id) := ⟨op_eq, rd_eqS⟩
theorem c_neS : CmpR X ρ .NotEq rNe (aEqS not) := ⟨op_ne, rd_neS⟩
end
end Gw

namespace Gw
open PySem L2
variable {ρ : Ent}
theorem rngD_cons (lo : Int) (n : Nat) : rngD lo (n + 1) = .int lo :: rngD (lo + 1) n := by
  unfold rngD
  rw [List.range_succ_eq_map, List.map_cons, List.map_map]
  congr 1
  · simp
  · apply List.map_congr_left
    intro i _
    simp only [Function.comp_apply]
    congr 1
    omega
theorem forR {g : AG} {body : AS} {A : AEnds} (I : Int → Nat → Sl → Mem → Prop) (hn : ∀ i Γ M, I i 0 Γ M → A.nx Γ M)
    (hc : ∀ i n Γ M (K : Sl → Mem → Prop), I i (n + 1) Γ M → (∀ Γ' M', I (i + 1) n Γ' M' → K Γ' M') → g (.int i) Γ fun Γ1 => body { A with nx := K, ct := K, bk := A.nx } Γ1 M) : ∀ (n : Nat) {lo : Int} {Γ : Sl} {M : Mem}, I lo n Γ M → aForL g body (rngD lo n) A Γ M
  | 0, lo, Γ, M, h => hn lo Γ M h
  | n + 1, lo, Γ, M, h => by rw [rngD_cons]; exact hc lo n Γ M _ h fun Γ' M' h' => forR I hn hc n h'
theorem lcR {g : AG} {tt : AT} {ae : AE} {vs : List Nat} {k : List D → Sl → Mem → Prop} (I : Int → Nat → List D → Sl → Mem → Prop) (hn : ∀ i acc Γ M, I i 0 acc Γ M → k acc Γ M)
    (hc : ∀ i n acc Γ M (K : List D → Sl → Mem → Prop), I i (n + 1) acc Γ M → (∀ acc' Γ' M', I (i + 1) n acc' Γ' M' → K acc' Γ' M') → g (.int i) Γ fun Γ1 => tt Γ1 M fun b Γ2 M2 => if b = true then ae Γ2 M2 fun r Γ3 M3 => frz r Γ3 fun y Γ4 => acc.length < sizeLine ∧ K (acc ++ [y]) (wipeS Γ4 vs) M3
      else K acc (wipeS Γ2 vs) M2) : ∀ (n : Nat) {lo : Int} (acc : List D) {Γ : Sl} {M : Mem}, I lo n acc Γ M → aLcL g tt ae vs k (rngD lo n) acc Γ M
  | 0, lo, acc, Γ, M, h => hn lo acc Γ M h
  | n + 1, lo, acc, Γ, M, h => by rw [rngD_cons]; exact hc lo n acc Γ M _ h fun acc' Γ' M' h' => lcR I hn hc n acc' h'
theorem plainL_ints (ns : List Int) : plainL (ns.map .int) = true := by
  induction ns with
  | nil => rfl
  | cons n ns ih => rw [List.map_cons, plainL, plain, ih]; rfl
theorem toPyL_ints (ns : List Int) : toPyL (ns.map .int) = ns.map .int := by
  induction ns with
  | nil => rfl
  | cons n ns ih => rw [List.map_cons, toPyL, toPy, ih]; rfl
theorem lay_ints (ns : List Int) : PyData.canLayAll0 (ns.map .int) = true := by
  induction ns with
  | nil => simp [PyData.canLayAll0]
  | cons n ns ih => rw [List.map_cons, PyData.canLayAll0, PyData.canLay0, ih]; rfl
theorem depth_ints (ns : List Int) : PyData.depthAll (ns.map .int) = 0 := by
  induction ns with
  | nil => simp [PyData.depthAll]
  | cons n ns ih => rw [List.map_cons, PyData.depthAll, PyData.depth, ih]; rfl
theorem cmp_ints_l (ns : List Int) : cmpOk (.lst (ns.map .int)) = true := by
  simp only [cmpOk, plain, toPy, SeqAt.shaped, PyData.canLay0, PyData.depth, plainL_ints, toPyL_ints, lay_ints, depth_ints]; decide
theorem cmp_ints_t (ns : List Int) : cmpOk (.tup (ns.map .int)) = true := by
  simp only [cmpOk, plain, toPy, SeqAt.shaped, PyData.canLay0, PyData.depth, plainL_ints, toPyL_ints, lay_ints, depth_ints]; decide
theorem cmp_int (i : Int) : cmpOk (.int i) = true := by simp [cmpOk, plain, toPy, SeqAt.shaped, PyData.canLay0, PyData.depth]
theorem cmp_nil_l : cmpOk (.lst []) = true := cmp_ints_l []
theorem cmp_nil_t : cmpOk (.tup []) = true := cmp_ints_t []
theorem eqD_int (i j : Int) : eqD (.int i) (.int j) = decide (i = j) := by simp [eqD, toPy, PyData.eqv, Bool.beq_eq_decide_eq]
theorem ixN_of {n : Nat} {i : Int} (h0 : 0 ≤ i) (h1 : i < n) : ixN n i = some i.toNat := by
  obtain ⟨j, rfl⟩ : ∃ j : Nat, i = (j : Int) := ⟨i.toNat, by omega⟩
  simp only [ixN]
  split <;> first | omega | simp
theorem atI_in {α : Type} {xs : List α} {i : Int} (h0 : 0 ≤ i) (h1 : i < xs.length) : ∃ x, atI xs i = some x ∧ xs[i.toNat]? = some x := by
  unfold atI
  rw [ixN_of h0 h1]
  have : i.toNat < xs.length := by omega
  exact ⟨xs[i.toNat], by simp [this], by simp [this]⟩
end Gw
namespace Gw
theorem size_val : PySem.sizeLine = 16777216 := by decide
end Gw
namespace Gw
open PySem L2
theorem lk_self {a : Addr} {c : Cell} {M : Mem} : List.lookup a ((a, c) :: M) = some c := by rw [List.lookup_cons, beq_self_eq_true]
theorem lk_ne {a b : Addr} {c : Cell} {M : Mem} (h : (b == a) = false) : List.lookup b ((a, c) :: M) = List.lookup b M := by rw [List.lookup_cons, h]
theorem at0 {α : Type} {x : α} {xs : List α} : atI (x :: xs) 0 = some x := by simp [atI, ixN]
theorem at1 {α : Type} {x y : α} {xs : List α} : atI (x :: y :: xs) 1 = some y := by
  unfold atI
  rw [ixN_of (by omega) (by simp only [List.length_cons]; omega)]; rfl
theorem at2 {α : Type} {x y z : α} {xs : List α} : atI (x :: y :: z :: xs) 2 = some z := by
  unfold atI
  rw [ixN_of (by omega) (by simp only [List.length_cons]; omega)]; rfl
theorem at3 {α : Type} {x y z u : α} {xs : List α} : atI (x :: y :: z :: u :: xs) 3 = some u := by
  unfold atI
  rw [ixN_of (by omega) (by simp only [List.length_cons]; omega)]; rfl
theorem at4 {α : Type} {x y z u v : α} {xs : List α} : atI (x :: y :: z :: u :: v :: xs) 4 = some v := by
  unfold atI
  rw [ixN_of (by omega) (by simp only [List.length_cons]; omega)]; rfl
theorem ix0 {n : Nat} : ixN (n + 1) 0 = some 0 := ixN_of (by omega) (by omega)
theorem ix1 {n : Nat} : ixN (n + 2) 1 = some 1 := ixN_of (by omega) (by omega)
theorem ix2 {n : Nat} : ixN (n + 3) 2 = some 2 := ixN_of (by omega) (by omega)
theorem sx0 {n : Nat} : seqIndex? 0 (n + 1) = some 0 := by simp [seqIndex?]
theorem mput_self {a : Addr} {c c' : Cell} {M : Mem} (h : a ∉ dom M) : mput ((a, c) :: M) a c' = (a, c') :: M := by
  unfold mput
  rw [List.map_cons]
  congr 1
  · simp
  · conv => rhs; rw [← List.map_id M]
    apply List.map_congr_left
    intro x hx
    have : x.1 ≠ a := fun e => h (e ▸ List.mem_map.mpr ⟨x, hx, rfl⟩)
    simp [this]
theorem mput_ne {a b : Addr} {c c' : Cell} {M : Mem} (h : a ≠ b) : mput ((a, c) :: M) b c' = (a, c) :: mput M b c' := by
  unfold mput
  rw [List.map_cons]
  simp [h]
end Gw
namespace Gw
theorem ends_d {Q : Ret → Mem → Prop} {d : D} {Γ : Sl} {M : Mem} : (endsOf Q).rt (.dat d) Γ M = Q (.dat d) M := rfl
theorem ends_t {Q : Ret → Mem → Prop} {c : Cell} {Γ : Sl} {M : Mem} : (endsOf Q).rt (.tmp c) Γ M = Q (.tmp c) M := rfl
theorem ends_n {Q : Ret → Mem → Prop} {Γ : Sl} {M : Mem} : (endsOf Q).nx Γ M = Q (.dat .non) M := rfl
end Gw
namespace Gw
open PySem L2
theorem eqD_l00 : eqD (.lst []) (.lst []) = true := by simp [eqD, toPy, toPyL, PyData.eqv, PyData.eqvAll]
theorem eqD_l10 {d : D} {ds : List D} : eqD (.lst (d :: ds)) (.lst []) = false := by simp [eqD, toPy, toPyL, PyData.eqv, PyData.eqvAll]
theorem eqD_t00 : eqD (.tup []) (.tup []) = true := by simp [eqD, toPy, toPyL, PyData.eqv, PyData.eqvAll]
theorem eqD_t10 {d : D} {ds : List D} : eqD (.tup (d :: ds)) (.tup []) = false := by simp [eqD, toPy, toPyL, PyData.eqv, PyData.eqvAll]
theorem fmod_lo {a b : Int} (h : 0 < b) : 0 ≤ a.fmod b := Int.fmod_nonneg_of_pos a h
theorem fmod_hi {a b : Int} (h : 0 < b) : a.fmod b < b := Int.fmod_lt_of_pos a h
theorem log2_le {x k : Nat} (h : x < 2 ^ k) (hk : 0 < k) : x.log2 < k := by
  rcases Nat.eq_zero_or_pos x with z | z
  · rw [z]; simpa using hk
  · exact (Nat.log2_lt (by omega)).mpr h
theorem div_ok {i j : Int} (h0 : 0 < j) (h1 : j ≤ 4294967295) : CDivW i j := ⟨h0, by
  have := log2_le (x := j.natAbs) (k := 32) (by omega) (by decide)
  omega⟩
theorem mul_l {i j : Int} (h0 : -18446744073709551616 < i) (h1 : i < 18446744073709551616) : CM i j := .inl (.inl ⟨by omega, by omega⟩)
theorem mul_r {i j : Int} (h0 : -18446744073709551616 < j) (h1 : j < 18446744073709551616) : CM i j := .inl (.inr ⟨by omega, by omega⟩)
end Gw
namespace Gw
open PySem L2
end Gw

namespace Gw
open PySem L2
variable {ρ : Ent}
section
variable {X : Cx} {a b c : Expr} {ta tb tc te : TE} {aa ab ac ae : AE} {pos : Pos} {K : PySem.W.Frag} {i : Nat} {x : Str} {pos' : Pos} {B : Ent} {σ : St} {H G H1 G1 H2 G2 : Hp} {Γ Γ1 Γ2 : Sl} {M M1 M2 : Mem}
def aPar3 (aa : AA) (i j l : Nat) (A : AEnds) (Γ : Sl) (M : Mem) : Prop := aa Γ M fun ds Γ1 M1 => match ds with
  | [d, e, f] => A.nx (((Γ1.set i (.dat d)).set j (.dat e)).set l (.dat f)) M1
  | _ => False
def aAugC (i : Nat) (C : Int → Int → Prop) (f : Int → Int → Int) (aa : AE) (A : AEnds) (Γ : Sl) (M : Mem) : Prop := match Γ[i]? with
  | some (.dat (.int n)) => aa Γ M fun r Γ1 M1 => match r with
    | .dat (.int m) => C n m ∧ A.nx (Γ1.set i (.dat (.int (f n m)))) M1
    | _ => False
  | _ => False
def CPowW (i j : Int) : Prop := 0 ≤ j ∧ (Builtin.Int.intBits i : Int) * j ≤ 2 ^ 27
theorem op_powW : OpR X (binaryOp .Pow) (rI CPowW fun i j => .int (i ^ j.toNat)) := opI fun _ _ _ _ _ _ _ hc q => PyProof.Rows.pow_int hc.1 hc.2 q
theorem q_powW (ha : QE X ρ a ta aa) (hb : QE X ρ b tb ab) : QE X ρ (.BinOp a .Pow b pos) (tOp (rI CPowW fun i j => .int (i ^ j.toNat)) ta tb) (aOp (aIC CPowW fun i j => .int (i ^ j.toNat)) aa ab) := q_op op_powW (rd_IC fun _ _ _ => by rw [Rep]) ha hb
structure Glob (K : PySem.W.Frag) (mg : Str → Option Value) (x : Str) (d : D) : Prop where
  ex : ∃ v u, mg x = some u ∧ RelV v u ∧ ∀ G, Rep K G d v
def tAny (K : PySem.W.Frag) (d : D) : TE := fun _ H Q => ∀ v, (∀ G, Rep K G d v) → Q v H
theorem q_glob {mg : Str → Option Value} {d : D} (h : Glob K mg x d) (hg : Gl X x := by rfl) (hmg : X.mg = mg := by rfl) (hK : X.K = K := by rfl) (hd : (x == ("__debug__" : Str)) = false := by decide) : QE X ρ (.Name x pos) (tAny K d) (aC d) := by
  subst hK; subst hmg
  obtain ⟨v, u, hm, r, hr⟩ := h.ex
  refine ⟨⟨fun pins s σ H Q I q => (pe_glob hg hm r hd).run pins s σ H Q I (q v hr)⟩, fun B σ H G Γ M Q R k h' q => fun v hv => q v H G Γ M (.dat d) k .refl (hv G) h'⟩
theorem glob_int {mg : Str → Option Value} {n : Int} {t : Tok} (h : mg x = some (.int n t)) : Glob K mg x (.int n) := ⟨.int n, _, h, ⟨t, rfl⟩, fun _ => by rw [Rep]⟩
theorem glob_tup {mg : Str → Option Value} {p : Addr} {ds : List D} {o : Obj} {its : Array Value} {n : Nat} {xs : List V} (h : mg x = some (.ref p)) (hl : K.lookup p = some o) (hc : o.cls = .type "tuple") (hdd : o.dict = none) (hd : o.data = .seq its n) (hz : its.size ≤ sizeLine) (hv : Vals xs its.toList) (hr : ∀ G, RepL K G ds xs) :
    Glob K mg x (.tup ds) := ⟨.ref p, _, h, rfl, fun G => rep_tupN.mpr ⟨p, xs, rfl, ⟨.inr ⟨o, its, n, hl, hc, hd, hz, hv⟩, .inr ⟨o, hl, hdd⟩⟩, hr G⟩⟩
def permL {α : Type} (π : List Nat) (xs : List α) : List α := π.filterMap (xs[·]?)
theorem RepL.perm {ds : List D} {vs : List V} (π : List Nat) (h : RepL K G ds vs) : RepL K G (permL π ds) (permL π vs) := by
  induction π with
  | nil => exact repL_nil.mpr rfl
  | cons n π ih =>
    unfold permL at *
    cases e : ds[n]? with
    | none =>
      have e2 : vs[n]? = none := by rw [List.getElem?_eq_none_iff] at *; rw [h.length]; exact e
      rw [List.filterMap_cons, List.filterMap_cons, e, e2]; exact ih
    | some d =>
      obtain ⟨v, e2, r⟩ := h.get e
      rw [List.filterMap_cons, List.filterMap_cons, e, e2]; exact repL_cons.mpr ⟨v, _, rfl, r, ih⟩
theorem vals_perm {vs : List V} {us : List Value} (π : List Nat) (h : Vals vs us) : Vals (permL π vs) (permL π us) := by
  induction π with
  | nil => exact .nil
  | cons n π ih =>
    unfold permL at *
    cases e : vs[n]? with
    | none =>
      have e2 : us[n]? = none := by rw [List.getElem?_eq_none_iff] at *; rw [← h.length]; exact e
      rw [List.filterMap_cons, List.filterMap_cons, e, e2]; exact ih
    | some d =>
      obtain ⟨v, e2, r⟩ := h.get e
      rw [List.filterMap_cons, List.filterMap_cons, e, e2]; exact .cons r ih
structure PCal (P : Program) (w : World) (K : PySem.W.Frag) (mg : Str → Option Value) (base : Heap) (x : Str) (ps : List Str) (m : Nat) (ks : List Str) (π : List Nat) (k : Nat) (S : ASp) : Prop where
  ex : ∃ f fd, FnG P w K mg base CX0 k f fd ps (spA K ps.length S) ∧ mg x = some (.ref f) ∧ PySem.W.keepIn K (.ref f) = true ∧
    (∀ (s : Shared) (us ws : List Value), K.In s.heap → us.length = m → ws.length = ks.length → BindsTo s fd ⟨us, ks.zip ws⟩ (ps.zip (permL π (us ++ ws)))) ∧ Ar ps.length S
def tCallP (sp : Sp) (m n : Nat) (π : List Nat) (t tk : TA) : TE := fun σ H Q => t σ H fun vs H1 => tk σ H1 fun zs H2 => vs.length = m ∧ zs.length = n ∧ sp (permL π (vs ++ zs)) H2 Q E0
def aCallP (S : ASp) (m n : Nat) (π : List Nat) (aa ak : AA) (Γ : Sl) (M : Mem) (Q : Ret → Sl → Mem → Prop) : Prop := aa Γ M fun ds Γ1 M1 => ak Γ1 M1 fun es Γ2 M2 => ds.length = m ∧ es.length = n ∧ ap S (permL π (ds ++ es)) M2 (fun r M3 => Q r Γ2 M3) ⟨⟩
theorem rd_callP {n m n' : Nat} {π : List Nat} {S : ASp} {tr tk : TA} {ar ak : AA} (hn : Ar n S) (ha : RdA K ρ tr ar) (hk : RdA K ρ tk ak) : RdE K ρ (tCallP (spA K n S) m n' π tr tk) (aCallP S m n' π ar ak) := by
  intro B σ H G Γ M Q R k h q
  refine ha B σ H G Γ M _ _ k h fun vs H1 G1 Γ1 M1 ds k1 e1 rl h1 => ?_
  refine hk B σ H1 G1 Γ1 M1 _ _ k1 h1 fun zs H2 G2 Γ2 M2 es k2 e2 rz h2 => ?_
  obtain ⟨l1, l2, h2⟩ := h2
  have rp := ((rl.mono e2.g).append rz).perm π
  refine ⟨by rw [rl.length]; exact l1, by rw [rz.length]; exact l2, G2, M2, _, by rw [rp.length]; exact hn _ _ _ h2, k2.ex, k2.nd, k2.ms, rp, _, h2, fun r M' v H' G' hq p rr => ?_⟩
  obtain ⟨k3, e3, r3⟩ := k2.call p rr
  exact q _ H' G' Γ2 M' r k3 ((e1.trans e2).trans e3) (r3.old (fun x z => e1.nn x (e2.nn x z))) hq
section
variable {P : Program} {w : World} {mg : Str → Option Value} {base : Heap} {k n m : Nat} {ps ks : List Str} {π : List Nat} {S : ASp} {p : Pos} {es : List Expr} {tr tk : TA} {ar ak : AA} {kws : List Keyword}
theorem q_callP0 (C : PCal P w K mg base x ps 0 ks π k S) (room : Room k X.A) (gd : X.A.guards = some []) (hkw : QK X ρ kws tk ak) (hX : At X P w K mg base := by exact ⟨rfl, rfl, rfl, rfl, rfl⟩) (hg : Gl X x := by rfl)
    (hall : (backToKw pos (keywordEach kws X.env)).all (·.1.isSome) = true := by rfl) (hks : (backToKw pos (keywordEach kws X.env)).filterMap (·.1) = ks := by rfl)
    (hdb : (x == ("__debug__" : Str)) = false := by decide) (hpl : ((backTo pos (starEach [] X.env)).any (·.1) || (backToKw pos (keywordEach kws X.env)).any (·.1.isNone)) = false := by rfl) :
    QE X ρ (.Call (.Name x p) [] kws pos) (tCallP (spA K ps.length S) 0 ks.length π tNil tk) (aCallP S 0 ks.length π aNil ak) := by
  obtain ⟨f, fd, F, hm, hk, hb, hn⟩ := C.ex
  obtain ⟨h1, h2, h3, h4, h5⟩ := hX
  subst h1 h2 h3 h4 h5
  refine ⟨⟨fun pins s σ H Q I h => wpAny_Call_Name_kw (ld_glob I hg hm ?_ hdb)⟩, rd_callP hn rd_nil hkw.rd⟩
  refine PySem.W.callWith_KW0 (h₀ := X.base) I.ok.mod.kin hk hall (thn (hkw.pe.run pos pins s σ H _ I h) ?_) hpl
  rintro ws s2 ⟨zs, H2, I2, rz, l1, l2, q⟩
  rw [hks]
  exact ⟨I2.kIn, callG F room gd pass0 I2 (hb s2 [] ws I2.kIn rfl (by rw [← rz.length]; exact l2)) (vals_perm π (.append .nil rz)) q⟩
end
end
end Gw

namespace Gw
open PySem L2
variable {ρ : Ent}
mutual
def wid : D → Nat
  | .non => 4
  | .bl _ => 5
  | .int i => i.natAbs.log2 + 2
  | .str x => (reprText x).length
  | .tup ds => widL ds + 3
  | .lst ds => widL ds + 3
  | .scr ds => widL ds + 3
  | .ref _ => 4
  | .dct _ _ => 4
  | .exc _ _ _ => 4
  | .dcT _ _ => 4
  | .dcN _ _ => 4
def widL : List D → Nat
  | [] => 0
  | d :: ds => wid d + 2 + widL ds
end
mutual
theorem shown_wid : ∀ d : D, (toPy d).shown.length ≤ wid d
  | .non => by rw [toPy, PyData.shown, wid]; decide
  | .bl b => by rw [toPy, PyData.shown, wid]; cases b <;> decide
  | .int i => by
    rw [toPy, PyData.shown, wid]
    have h := int_text_length_le (a := i) (k := i.natAbs.log2 + 1) (by omega) (by omega)
    have e : (Str.ofString (toString i)).length = (toString i).length := by
      rw [Str.ofString_eq_toList]
      show ((toString i).toList.map Char.toNat).toArray.size = _
      rw [List.size_toArray, List.length_map]; exact String.length_toList
    rw [e]; exact h
  | .str x => by rw [toPy, PyData.shown, wid]; exact Nat.le_refl _
  | .ref _ => by rw [toPy, PyData.shown, wid]; decide
  | .dct _ _ => by rw [toPy, PyData.shown, wid]; decide
  | .exc _ _ _ => by rw [toPy, PyData.shown, wid]; decide
  | .dcT _ _ => by rw [toPy, PyData.shown, wid]; decide
  | .dcN _ _ => by rw [toPy, PyData.shown, wid]; decide
  | .tup ds => by
    rw [toPy, PyData.shown, wid]
    have := tupleText_len_le (PyData.shownAll (toPyL ds))
    have := shownL_wid ds
    omega
  | .lst ds => by
    rw [toPy, PyData.shown, wid]
    have := listText_len_le (PyData.shownAll (toPyL ds))
    have := shownL_wid ds
    omega
  | .scr ds => by
    rw [toPy, PyData.shown, wid]
    have := listText_len_le (PyData.shownAll (toPyL ds))
    have := shownL_wid ds
    omega
theorem shownL_wid : ∀ ds : List D, ((PyData.shownAll (toPyL ds)).map (·.length)).sum + 2 * (PyData.shownAll (toPyL ds)).length ≤ widL ds
  | [] => by rw [toPyL, PyData.shownAll, widL]; decide
  | d :: ds => by
    rw [toPyL, PyData.shownAll, widL, List.map_cons, List.sum_cons, List.length_cons]
    have := shown_wid d
    have := shownL_wid ds
    omega
end
mutual
def dep : D → Nat
  | .tup ds => depL ds + 1
  | .lst ds => depL ds + 1
  | .scr ds => depL ds + 1
  | .int _ => 0
  | .ref _ => 0
  | .dct _ _ => 0
  | .exc _ _ _ => 0
  | .dcT _ _ => 0
  | .dcN _ _ => 0
  | .non => 0
  | .bl _ => 0
  | .str _ => 0
def depL : List D → Nat
  | [] => 0
  | d :: ds => max (dep d) (depL ds)
end
mutual
theorem dep_py : ∀ d : D, (toPy d).depth = dep d
  | .tup ds => by rw [toPy, PyData.depth, dep, depL_py]
  | .lst ds => by rw [toPy, PyData.depth, dep, depL_py]
  | .scr ds => by rw [toPy, PyData.depth, dep, depL_py]
  | .int _ => by rw [toPy, PyData.depth, dep]
  | .ref _ => by rw [toPy, PyData.depth, dep]
  | .dct _ _ => by rw [toPy, PyData.depth, dep]
  | .exc _ _ _ => by rw [toPy, PyData.depth, dep]
  | .dcT _ _ => by rw [toPy, PyData.depth, dep]
  | .dcN _ _ => by rw [toPy, PyData.depth, dep]
  | .non => by rw [toPy, PyData.depth, dep]
  | .bl _ => by rw [toPy, PyData.depth, dep]
  | .str _ => by rw [toPy, PyData.depth, dep]
theorem depL_py : ∀ ds : List D, PyData.depthAll (toPyL ds) = depL ds
  | [] => by rw [toPyL, PyData.depthAll, depL]
  | d :: ds => by rw [toPyL, PyData.depthAll, depL, dep_py, depL_py]
end
mutual
def safe : D → Bool
  | .str x => PyData.strOk x
  | .tup ds => safeL ds
  | .lst ds => safeL ds
  | .scr ds => safeL ds
  | .ref _ => false
  | .dct _ _ => false
  | .exc _ _ _ => false
  | .dcT _ _ => false
  | .dcN _ _ => false
  | .int _ => true
  | .non => true
  | .bl _ => true
def safeL : List D → Bool
  | [] => true
  | d :: ds => safe d && safeL ds
end
mutual
theorem safe_lay : ∀ {d : D}, safe d = true → plain d = true ∧ (toPy d).canLay0 = true
  | .int i, _ => by rw [plain, toPy, PyData.canLay0]; exact ⟨rfl, rfl⟩
  | .str x, h => by rw [safe] at h; rw [plain, toPy, PyData.canLay0]; exact ⟨rfl, h⟩
  | .tup ds, h => by rw [safe] at h; rw [plain, toPy, PyData.canLay0]; exact safeL_lay h
  | .lst ds, h => by rw [safe] at h; rw [plain, toPy, PyData.canLay0]; exact safeL_lay h
  | .scr ds, h => by rw [safe] at h; rw [plain, toPy, PyData.canLay0]; exact safeL_lay h
  | .ref _, h => by rw [safe] at h; cases h
  | .dct _ _, h => by rw [safe] at h; cases h
  | .exc _ _ _, h => by rw [safe] at h; cases h
  | .dcT _ _, h => by rw [safe] at h; cases h
  | .dcN _ _, h => by rw [safe] at h; cases h
  | .non, _ => by rw [plain, toPy, PyData.canLay0]; exact ⟨rfl, rfl⟩
  | .bl _, _ => by rw [plain, toPy, PyData.canLay0]; exact ⟨rfl, rfl⟩
theorem safeL_lay : ∀ {ds : List D}, safeL ds = true → plainL ds = true ∧ PyData.canLayAll0 (toPyL ds) = true
  | [], _ => by rw [plainL, toPyL, PyData.canLayAll0]; exact ⟨rfl, rfl⟩
  | d :: ds, h => by
    rw [safeL, Bool.and_eq_true] at h
    obtain ⟨a1, a2⟩ := safe_lay h.1
    obtain ⟨b1, b2⟩ := safeL_lay h.2
    rw [plainL, toPyL, PyData.canLayAll0, a1, a2, b1, b2]; exact ⟨rfl, rfl⟩
end
theorem cmp_of {d : D} (h1 : safe d = true) (h2 : dep d ≤ 64) : cmpOk d = true := by
  obtain ⟨a, b⟩ := safe_lay h1
  simp only [cmpOk, SeqAt.shaped, a, b, dep_py, Bool.true_and, decide_eq_true_eq]
  exact h2
theorem wid_ints {k : Nat} : ∀ {ns : List Int}, (∀ n ∈ ns, n.natAbs < 2 ^ k) → 0 < k → widL (ns.map .int) ≤ ns.length * (k + 4)
  | [], _, _ => by simp [widL]
  | n :: ns, h, hk => by
    rw [List.map_cons, widL, wid, List.length_cons]
    have a := log2_le (h n List.mem_cons_self) hk
    have b := wid_ints (fun x hx => h x (List.mem_cons_of_mem _ hx)) hk (ns := ns)
    rw [Nat.add_mul]; omega
end Gw

namespace Gw
open PySem L2 RZ RT
variable {ρ : Ent}
section
variable {X : Cx} {tg a b c : Expr} {ta tb tc te : TE} {aa ab ac ae : AE} {pos : Pos} {K : PySem.W.Frag} {i : Nat} {x : Str} {pos' : Pos} {B : Ent} {σ : St} {H G H1 G1 H2 G2 : Hp} {Γ Γ1 Γ2 : Sl} {M M1 M2 : Mem}
def zipD (xs ys : List D) : List D := List.zipWith (fun x y => D.tup [x, y]) xs ys
def aIzip (ar : AA) (Γ : Sl) (M : Mem) (Q : List D → Sl → Mem → Prop) : Prop := ar Γ M fun ds Γ1 M1 => match ds with
  | [.tup xs, .tup ys] => Q (zipD xs ys) Γ1 M1
  | [.lst xs, .lst ys] => Q (zipD xs ys) Γ1 M1
  | _ => False
theorem zipD_get {xs ys : List D} {i : Nat} {d : D} (h : (zipD xs ys)[i]? = some d) : ∃ x y, xs[i]? = some x ∧ ys[i]? = some y ∧ d = .tup [x, y] := by
  unfold zipD at h
  rw [List.getElem?_zipWith] at h
  cases e1 : xs[i]? with
  | none => rw [e1] at h; simp at h
  | some x =>
    cases e2 : ys[i]? with
    | none => rw [e1, e2] at h; simp at h
    | some y => rw [e1, e2] at h; simp at h; exact ⟨x, y, rfl, rfl, h.symm⟩
def aIrev (aa : AE) (Γ : Sl) (M : Mem) (Q : List D → Sl → Mem → Prop) : Prop := aa Γ M fun r Γ1 M1 => frz r Γ1 fun d Γ2 => match d with
  | .lst ds => Q ds.reverse Γ2 M1
  | .tup ds => Q ds.reverse Γ2 M1
  | _ => False
def enumD (k : Nat) : List D → List D
  | [] => []
  | d :: ds => .tup [.int k, d] :: enumD (k + 1) ds
theorem enumD_get : ∀ {ds : List D} {k i : Nat} {d : D}, (enumD k ds)[i]? = some d → ∃ x, ds[i]? = some x ∧ d = .tup [.int (k + i : Nat), x]
  | [], k, i, d, h => by simp [enumD] at h
  | y :: ds, k, 0, d, h => by simp [enumD] at h; exact ⟨y, rfl, by simpa using h.symm⟩
  | y :: ds, k, i + 1, d, h => by
    rw [enumD, List.getElem?_cons_succ] at h
    obtain ⟨x, e1, e2⟩ := enumD_get h
    exact ⟨x, by simpa using e1, by rw [e2, show k + 1 + i = k + (i + 1) by omega]⟩
theorem enumD_len : ∀ (ds : List D) (k : Nat), (enumD k ds).length = ds.length
  | [], _ => rfl
  | d :: ds, k => by rw [enumD, List.length_cons, enumD_len, List.length_cons]
def aIenum (ar : AA) (Γ : Sl) (M : Mem) (Q : List D → Sl → Mem → Prop) : Prop := ar Γ M fun ds Γ1 M1 => match ds with
  | [.lst xs] => Q (enumD 0 xs) Γ1 M1
  | _ => False
theorem qi_enumL {tpos p : Pos} {elts : List Expr} {kk : Nat} {tr : TA} {ar : AA} (hm : X.mg "enumerate" = none) (ha : QA X ρ [a] tr ar) (hg : Gl X "enumerate" := by rfl) (hs : starEach [a] X.env = [(false, eval a X.env)] := by rfl) (hK : X.K = K := by rfl) :
    QI X ρ (.Tuple elts kk tpos) (.Call (.Name "enumerate" p) [a] [] pos) (iEnum K tr) (aIenum ar) := by
  subst hK
  refine ⟨pi_enum hg hm ha.pe hs, fun B σ H G Γ M Q R k hh q => ha.rd B σ H G Γ M _ _ k hh fun vs H1 G1 Γ1 M1 ds k1 e1 rl h1 => ?_⟩
  split at h1
  · rename_i xs
    obtain ⟨v, r, rfl, rv, rn⟩ := repL_cons.mp rl
    have := repL_nil.mp rn; subst this
    obtain ⟨p1, us, rfl, s1, l1⟩ := rep_lst.mp rv
    refine ⟨p1, us, rfl, SqL.of (k1.ex _ _ s1), q _ H1 G1 Γ1 M1 _ k1 e1 ⟨fun H => SqL X.K H p1 us, YPair (fun i => some (.int (i : Nat))) (fun i => us[i]?), ?_, fun H e => SqL.of (e _ _ s1), fun i H x H' d hd _ y => ?_⟩ h1⟩
    · rw [enumD_len, ← l1.length]; exact walk_enum
    · obtain ⟨z, e3, rfl⟩ := enumD_get hd
      obtain ⟨T, u, w, ev, hT, eH, f1, f2⟩ := y
      obtain ⟨u', g1, q1⟩ := l1.get e3
      have f1 : some (V.int (i : Nat)) = some u := f1
      have f2 : us[i]? = some w := f2
      have ew : u' = w := by rw [g1] at f2; exact Option.some.inj f2
      subst ew
      cases f1
      exact .inr ⟨rfl, T, [.int (i : Nat), u'], [.int (0 + i : Nat), z], ev, hT, eH, rfl, repL_cons.mpr ⟨_, _, rfl, by rw [Rep, Nat.zero_add], RepL.one q1⟩⟩
  · exact h1.elim
def aAugX (ao ai ae : AE) (A : AEnds) (Γ : Sl) (M : Mem) : Prop := ao Γ M fun ro Γ1 M1 => ai Γ1 M1 fun ri Γ2 M2 => match ri, lget ro Γ2 M2 with
  | .dat (.int i), some ds => 0 ≤ i ∧ match ds[i.toNat]? with
    | some (.int n) => ae Γ2 M2 fun re Γ3 M3 => match re, lget ro Γ3 M3 with
      | .dat (.int m), some ds' => match ixN ds'.length i with
        | some j => lput ro (ds'.set j (.int (n + m))) Γ3 M3 fun Γ4 M4 => A.nx Γ4 M4
        | none => False
      | _, _ => False
    | _ => False
  | _, _ => False
end
end Gw
namespace Gw
open PySem L2
end Gw

namespace Gw
open PySem L2
variable {ρ : Ent}
section
variable {X : Cx} {a b c e : Expr} {ta tb tc te : TE} {aa ab ac ae : AE} {pos : Pos} {K : PySem.W.Frag} {B : Ent} {σ : St} {H G H1 G1 H2 G2 H0 : Hp} {Γ Γ1 Γ2 : Sl} {M M1 M2 : Mem}
theorem Ok.lockAt {p : Addr} {o u : HO} (k : Ok K ρ B σ H G Γ M) (hp : H p = some o) (hb : B.H p = none) (hm : p ∉ dom M) (hn : ¬ owned σ Γ p) (hg : G p = none) :
    Ok K ρ B σ (upd H p u) (upd G p u) Γ M ∧ Ex G (upd G p u) := by
  have eG : Ex G (upd G p u) := Ex.new hg
  have cel : ∀ a c, a ≠ p → Cel K H G a c → Cel K (upd H p u) (upd G p u) a c := fun a c ne ⟨h1, w, h2, h3⟩ => ⟨by rw [upd_ne ne]; exact h1, w, by rw [upd_ne ne]; exact h2, h3.mono eG⟩
  refine ⟨⟨⟨k.st.g.trans eG, fun a w h n => ?_, fun a w h => ?_, k.st.mn, fun a h => ?_⟩, fun a w h => ?_, k.nd, fun a c h => cel a c (fun e => hm (e ▸ List.mem_map.mpr ⟨_, h, rfl⟩)) (k.ms a c h), fun i d h => ?_, fun i c h => ?_, k.dis, k.len, k.pb⟩, eG⟩
  · have ne : a ≠ p := ne_of_none h hb
    rw [upd_ne ne]; exact k.st.fr a w h n
  · by_cases e : a = p
    · subst e; exact .inr hb
    · rw [upd_ne e] at h; exact k.st.gn a w h
  · by_cases e : a = p
    · subst e; exact hb
    · rw [upd_ne e] at h; exact k.st.nn a h
  · by_cases e : a = p
    · subst e; rw [upd_same] at h ⊢; exact h
    · rw [upd_ne e] at h ⊢; exact k.ex a w h
  · obtain ⟨v, h1, h2⟩ := k.dat i d h
    exact ⟨v, h1, h2.mono eG⟩
  · obtain ⟨q, h1, h2, h3, h4⟩ := k.own i c h
    exact ⟨q, h1, h2, h3, cel q c (fun e => hn ⟨i, c, h, e ▸ h1⟩) h4⟩
def tLk (t : TE) : TE := fun σ H Q => t σ H fun v H1 => (∃ d u, v = .ref d ∧ H1 d = some u ∧ Mut (some u) ∧ ∀ od, Q v (upd H1 d (.frz od u))) ∨ Q v H1
theorem pe_lk (he : PE X e te) : PE X e (tLk te) := ⟨fun pins s σ H Q I h => thn (he.run pins s σ H _ I h) fun u s1 ⟨x, H1, I1, rx, q⟩ => by
  rcases q with ⟨d, w, ex, hd, mu, q⟩ | q
  · obtain ⟨od, I2⟩ := I1.lock hd mu
    exact ⟨x, _, I2, rx, q od⟩
  · exact ⟨x, _, I1, rx, q⟩⟩
def aLk (aa : AE) (Γ : Sl) (M : Mem) (Q : Ret → Sl → Mem → Prop) : Prop := aa Γ M fun r Γ1 M1 => match r with
  | .tmp (.dct ks ds) => Q (.dat (.dct ks ds)) Γ1 M1
  | .tmp (.dcT ks ds) => Q (.dat (.dcT ks ds)) Γ1 M1
  | .tmp (.dcN ks ds) => Q (.dat (.dcN ks ds)) Γ1 M1
  | .var i => match Γ1[i]? with
    | some (.own (.dct ks ds)) => Q (.dat (.dct ks ds)) (Γ1.set i (.dat (.dct ks ds))) M1
    | some (.own (.dcT ks ds)) => Q (.dat (.dcT ks ds)) (Γ1.set i (.dat (.dcT ks ds))) M1
    | some (.own (.dcN ks ds)) => Q (.dat (.dcN ks ds)) (Γ1.set i (.dat (.dcN ks ds))) M1
    | _ => False
  | .dat d => Q (.dat d) Γ1 M1
  | _ => False
theorem Ok.lockSlot {i : Nat} {c : Cell} {d : D} {p : Addr} {od : Obj} {u : HO} (k : Ok K ρ B σ H G Γ M) (hi : Γ[i]? = some (.own c)) (s1 : σ[i]? = some (some (.ref p))) (hb : B.H p = none) (hm : p ∉ dom M) (hg : G p = none) (hu : H p = some u) (hr : Ex G (upd G p (.frz od u)) → Rep K (upd G p (.frz od u)) d (.ref p)) :
    Ok K ρ B σ (upd H p (.frz od u)) (upd G p (.frz od u)) (Γ.set i (.dat d)) M ∧ Es σ H G Γ M (upd H p (.frz od u)) (upd G p (.frz od u)) (Γ.set i (.dat d)) M ∧ Rep K (upd G p (.frz od u)) d (.ref p) := by
  have no : ¬ owned σ (Γ.set i .non) p := fun ⟨j, c, h1, h2⟩ => by
    rcases getElem?_setS h1 with ⟨_, e⟩ | ⟨ne, e⟩
    · cases e
    · exact ne (k.dis j i _ _ p e hi h2 s1)
  have k0 : Ok K ρ B σ H G (Γ.set i .non) M := ⟨k.st, k.ex, k.nd, k.ms, fun j d h => by
      rcases getElem?_setS h with ⟨_, e⟩ | ⟨_, e⟩
      · cases e
      · exact k.dat j d e, fun j c h => by
      rcases getElem?_setS h with ⟨_, e⟩ | ⟨_, e⟩
      · cases e
      · exact k.own j c e, fun j l c c' q h h' a b => by
      rcases getElem?_setS h with ⟨_, e⟩ | ⟨_, e⟩
      · cases e
      rcases getElem?_setS h' with ⟨_, e'⟩ | ⟨_, e'⟩
      · cases e'
      exact k.dis j l c c' q e e' a b, by rw [List.length_set]; exact k.len, k.pb⟩
  obtain ⟨k1, eG⟩ := k0.lockAt (u := .frz od u) hu hb hm no hg
  have rp := hr eG
  refine ⟨⟨k1.st, k1.ex, k1.nd, k1.ms, fun j d h => ?_, fun j c h => ?_, fun j l c c' q h h' a b => ?_, by rw [List.length_set]; exact k.len, k.pb⟩, ⟨eG, fun a u h g m n => ?_, fun a h => ?_⟩, rp⟩
  · rcases getElem?_setS h with ⟨e1, e⟩ | ⟨ne, e⟩
    · cases e; subst e1; exact ⟨_, s1, rp⟩
    · exact k1.dat j d (by rw [List.getElem?_set_ne (fun q => ne q.symm)]; exact e)
  · rcases getElem?_setS h with ⟨_, e⟩ | ⟨ne, e⟩
    · cases e
    · exact k1.own j c (by rw [List.getElem?_set_ne (fun q => ne q.symm)]; exact e)
  · rcases getElem?_setS h with ⟨_, e⟩ | ⟨_, e⟩
    · cases e
    rcases getElem?_setS h' with ⟨_, e'⟩ | ⟨_, e'⟩
    · cases e'
    exact k.dis j l c c' q e e' a b
  · have ne : a ≠ p := fun e => n ⟨i, _, hi, e ▸ s1⟩
    refine ⟨by rw [upd_ne ne]; exact h, by rw [upd_ne ne]; exact g, m, fun ⟨j, c, h1, h2⟩ => n ?_⟩
    rcases getElem?_setS h1 with ⟨_, e⟩ | ⟨_, e⟩
    · cases e
    · exact ⟨j, c, e, h2⟩
  · by_cases e : a = p
    · subst e; rw [upd_same] at h; cases h
    · rw [upd_ne e] at h; exact h
theorem rd_lk (h : RdE K ρ te ae) : RdE K ρ (tLk te) (aLk ae) := by
  intro B σ H G Γ M Q R k h0 q
  refine h B σ H G Γ M _ _ k h0 fun v H1 G1 Γ1 M1 r k1 e1 rr hq => ?_
  -- a thing nobody holds
  have tmp : ∀ (p : Addr) (u : HO) (d : D), H p = none → B.H p = none → G1 p = none → H1 p = some u → Mut (some u) → p ∉ dom M1 → ¬ owned σ Γ1 p → (∀ od, Ex G1 (upd G1 p (.frz od u)) → Rep K (upd G1 p (.frz od u)) d (.ref p)) → Q (.dat d) Γ1 M1 →
      (∃ d u, V.ref p = .ref d ∧ H1 d = some u ∧ Mut (some u) ∧ ∀ od, R (.ref p) (upd H1 d (.frz od u))) ∨ R (.ref p) H1 := fun p u d hh hb hg hu mu hm hn hr hq => by
    refine .inl ⟨p, u, rfl, hu, mu, fun od => ?_⟩
    obtain ⟨k2, eG⟩ := k1.lockAt (u := .frz od u) hu hb hm hn hg
    refine q _ _ _ Γ1 M1 (.dat d) k2 ⟨e1.g.trans eG, fun a w h g m n => ?_, fun a h => ?_⟩ (hr od eG) hq
    · obtain ⟨a1, a2, a3, a4⟩ := e1.tmp a w h g m n
      have ne : a ≠ p := ne_of_none h hh
      exact ⟨by rw [upd_ne ne]; exact a1, by rw [upd_ne ne]; exact a2, a3, a4⟩
    · by_cases e : a = p
      · subst e; exact hh
      · rw [upd_ne e] at h; exact e1.nn a h
  cases r with
  | dat d => exact .inr (q v H1 G1 Γ1 M1 (.dat d) k1 e1 rr hq)
  | tmp c =>
    cases c with
    | lst ds => exact hq.elim
    | ins cn ns ds => exact hq.elim
    | tab q => exact hq.elim
    | dct ks ds =>
      obtain ⟨p, rfl, hh, hb, ⟨hg, u, hu, vs, rfl, hl, hr⟩, hm, hn⟩ := rr
      exact tmp p _ _ hh hb hg hu trivial hm hn (fun od eG => rep_dct.mpr ⟨p, od, vs, rfl, upd_same, hl, hr.mono eG⟩) hq
    | dcT ks ds =>
      obtain ⟨p, rfl, hh, hb, ⟨hg, u, hu, L, rfl, hl, hk, hr⟩, hm, hn⟩ := rr
      exact tmp p _ _ hh hb hg hu trivial hm hn (fun od eG => rep_dcT.mpr ⟨p, od, L, rfl, upd_same, hl, hk.mono eG, hr.mono eG⟩) hq
    | dcN ks ds =>
      obtain ⟨p, rfl, hh, hb, ⟨hg, u, hu, L, rfl, hl, hk, hr⟩, hm, hn⟩ := rr
      exact tmp p _ _ hh hb hg hu trivial hm hn (fun od eG => rep_dcN.mpr ⟨p, od, L, rfl, upd_same, hl, hk.mono eG, hr.mono eG⟩) hq
  | var i =>
    dsimp only at hq
    split at hq
    · rename_i ks ds e2
      obtain ⟨p, s1, hb, hm, hg, u, hu, vs, rfl, hl, hr⟩ := k1.own i _ e2
      have ev : v = .ref p := by have := (show σ[i]? = some (some v) from rr); rw [s1] at this; cases this; rfl
      subst ev
      refine .inl ⟨p, _, rfl, hu, trivial, fun od => ?_⟩
      obtain ⟨k2, e3, rp⟩ := k1.lockSlot (d := .dct ks ds) (od := od) e2 s1 hb hm hg hu fun eG => rep_dct.mpr ⟨p, od, vs, rfl, upd_same, hl, hr.mono eG⟩
      exact q _ _ _ _ M1 (.dat (.dct ks ds)) k2 (e1.trans e3) rp hq
    · rename_i ks ds e2
      obtain ⟨p, s1, hb, hm, hg, u, hu, L, rfl, hl, hk, hr⟩ := k1.own i _ e2
      have ev : v = .ref p := by have := (show σ[i]? = some (some v) from rr); rw [s1] at this; cases this; rfl
      subst ev
      refine .inl ⟨p, _, rfl, hu, trivial, fun od => ?_⟩
      obtain ⟨k2, e3, rp⟩ := k1.lockSlot (d := .dcT ks ds) (od := od) e2 s1 hb hm hg hu fun eG => rep_dcT.mpr ⟨p, od, L, rfl, upd_same, hl, hk.mono eG, hr.mono eG⟩
      exact q _ _ _ _ M1 (.dat (.dcT ks ds)) k2 (e1.trans e3) rp hq
    · rename_i ks ds e2
      obtain ⟨p, s1, hb, hm, hg, u, hu, L, rfl, hl, hk, hr⟩ := k1.own i _ e2
      have ev : v = .ref p := by have := (show σ[i]? = some (some v) from rr); rw [s1] at this; cases this; rfl
      subst ev
      refine .inl ⟨p, _, rfl, hu, trivial, fun od => ?_⟩
      obtain ⟨k2, e3, rp⟩ := k1.lockSlot (d := .dcN ks ds) (od := od) e2 s1 hb hm hg hu fun eG => rep_dcN.mpr ⟨p, od, L, rfl, upd_same, hl, hk.mono eG, hr.mono eG⟩
      exact q _ _ _ _ M1 (.dat (.dcN ks ds)) k2 (e1.trans e3) rp hq
    · exact hq.elim
theorem q_lk (h : QE X ρ e te ae) : QE X ρ e (tLk te) (aLk ae) := ⟨pe_lk h.pe, rd_lk h.rd⟩
end
end Gw

namespace Gw
open PySem L2
variable {ρ : Ent}
def getA (ks : List L2.Key) (ds : List D) (k : L2.Key) : Option D := ((ks.zip ds).find? fun p => decide (p.1 = k)).map (·.2)
def putA (t : List L2.Key × List D) (k : L2.Key) (d : D) : List L2.Key × List D :=
  if (t.1.any fun j => decide (j = k)) = true then (t.1, (t.1.zip t.2).map fun p => if p.1 = k then d else p.2) else (t.1 ++ [k], t.2 ++ [d])
def mergeA (t : List L2.Key × List D) (kds : List (L2.Key × D)) : List L2.Key × List D := kds.foldl (fun a p => putA a p.1 p.2) t
def keyD : D → Option L2.Key
  | .int i => some (.inl i)
  | .str x => some (.inr x)
  | _ => none
def kD : L2.Key → D
  | .inl i => .int i
  | .inr x => .str x
def itemsD (ks : List L2.Key) (ds : List D) : List D := (ks.zip ds).map fun p => .tup [kD p.1, p.2]
section
variable {K : PySem.W.Frag} {G G' H : Hp}
theorem rep_key {d : D} {v : V} {k : L2.Key} (h : Rep K G d v) (e : keyD d = some k) : v = kV k := by
  cases d <;> simp [keyD] at e <;> subst e <;> rw [Rep] at h <;> exact h
theorem getA_cons {k0 : L2.Key} {ks : List L2.Key} {d0 : D} {ds : List D} {k : L2.Key} : getA (k0 :: ks) (d0 :: ds) k = if k0 = k then some d0 else getA ks ds k := by
  unfold getA
  rw [List.zip_cons_cons, List.find?_cons]
  by_cases e : k0 = k
  · simp [e]
  · simp [e]
theorem getA_ok {k : L2.Key} : ∀ {ks : List L2.Key} {ds : List D} {xs : List V}, ks.length = ds.length → RepL K G ds xs → (∀ d, getA ks ds k = some d → ∃ v, valV (ks.zip xs) k = some v ∧ Rep K G d v) ∧ (getA ks ds k = none → valV (ks.zip xs) k = none)
  | [], [], xs, _, h => ⟨fun d e => by simp [getA] at e, fun _ => rfl⟩
  | k0 :: ks, d0 :: ds, xs, hl, h => by
    obtain ⟨x, r, rfl, h1, h2⟩ := repL_cons.mp h
    have ih := getA_ok (k := k) (ks := ks) (by simpa using hl) h2
    rw [getA_cons, List.zip_cons_cons]
    by_cases e : k0 = k
    · rw [if_pos e, valV_pos (p := (k0, x)) e]
      exact ⟨fun d q => by cases q; exact ⟨x, rfl, h1⟩, fun q => by cases q⟩
    · rw [if_neg e, valV_neg (p := (k0, x)) e]
      exact ih
theorem any_zip {k : L2.Key} : ∀ {ks : List L2.Key} {xs : List V}, ks.length = xs.length → ((ks.zip xs).any fun kv => decide (kv.1 = k)) = ks.any fun j => decide (j = k)
  | [], [], _ => rfl
  | k0 :: ks, x :: xs, h => by
    rw [List.zip_cons_cons, List.any_cons, List.any_cons, any_zip (by simpa using h)]
theorem map_zip {k : L2.Key} {v : V} : ∀ {ks : List L2.Key} {xs : List V}, ks.length = xs.length → (ks.zip xs).map (fun kv => if kv.1 = k then (kv.1, v) else kv) = ks.zip ((ks.zip xs).map fun p => if p.1 = k then v else p.2)
  | [], [], _ => rfl
  | k0 :: ks, x :: xs, h => by
    rw [List.zip_cons_cons, List.map_cons, List.map_cons, List.zip_cons_cons, map_zip (by simpa using h)]
    congr 1
    show (if k0 = k then (k0, v) else (k0, x)) = (k0, if k0 = k then v else x)
    split <;> rfl
theorem repL_upd {k : L2.Key} {d : D} {v : V} (r : Rep K G d v) : ∀ {ks : List L2.Key} {ds : List D} {xs : List V}, ks.length = ds.length → RepL K G ds xs → RepL K G ((ks.zip ds).map fun p => if p.1 = k then d else p.2) ((ks.zip xs).map fun p => if p.1 = k then v else p.2)
  | [], [], xs, _, h => by rw [repL_nil.mp h]; exact repL_nil.mpr rfl
  | k0 :: ks, d0 :: ds, xs, hl, h => by
    obtain ⟨x, t, rfl, h1, h2⟩ := repL_cons.mp h
    rw [List.zip_cons_cons, List.zip_cons_cons, List.map_cons, List.map_cons]
    refine repL_cons.mpr ⟨_, _, rfl, ?_, repL_upd r (by simpa using hl) h2⟩
    show Rep K G (if k0 = k then d else d0) (if k0 = k then v else x)
    split
    · exact r
    · exact h1
theorem putA_len {t : List L2.Key × List D} {k : L2.Key} {d : D} (h : t.1.length = t.2.length) : (putA t k d).1.length = (putA t k d).2.length := by
  unfold putA
  split
  · simp [h]
  · simp [h]
theorem putA_ok {t : List L2.Key × List D} {xs : List V} {k : L2.Key} {d : D} {v : V} (hl : t.1.length = t.2.length) (h : RepL K G t.2 xs) (r : Rep K G d v) :
    ∃ xs', putK (t.1.zip xs) k v = (putA t k d).1.zip xs' ∧ RepL K G (putA t k d).2 xs' := by
  obtain ⟨ks, ds⟩ := t
  have hx : ks.length = xs.length := by rw [h.length]; exact hl
  unfold putK putA
  rw [any_zip hx]
  by_cases e : (ks.any fun j => decide (j = k)) = true
  · rw [if_pos e, if_pos e]
    exact ⟨_, map_zip hx, repL_upd r hl h⟩
  · rw [if_neg e, if_neg e]
    exact ⟨xs ++ [v], by rw [List.zip_append hx]; rfl, h.append (RepL.one r)⟩
def RepKs (K : PySem.W.Frag) (G : Hp) : List (L2.Key × D) → List (L2.Key × V) → Prop
  | [], kvs => kvs = []
  | p :: r, kvs => ∃ v t, kvs = (p.1, v) :: t ∧ Rep K G p.2 v ∧ RepKs K G r t
theorem RepKs.mono (e : Ex G G') : ∀ {kds : List (L2.Key × D)} {kvs : List (L2.Key × V)}, RepKs K G kds kvs → RepKs K G' kds kvs
  | [], _, h => h
  | p :: r, _, ⟨v, t, e1, h1, h2⟩ => ⟨v, t, e1, h1.mono e, RepKs.mono e h2⟩
theorem RepKs.len : ∀ {kds : List (L2.Key × D)} {kvs : List (L2.Key × V)}, RepKs K G kds kvs → kvs.length = kds.length
  | [], _, h => by rw [show _ = [] from h]; rfl
  | p :: r, _, ⟨v, t, e1, h1, h2⟩ => by rw [e1, List.length_cons, List.length_cons, RepKs.len h2]
theorem mergeA_ok : ∀ {kds : List (L2.Key × D)} {kvs : List (L2.Key × V)} {t : List L2.Key × List D} {xs : List V}, t.1.length = t.2.length → RepL K G t.2 xs → RepKs K G kds kvs →
    ∃ xs', mergeK (t.1.zip xs) kvs = (mergeA t kds).1.zip xs' ∧ RepL K G (mergeA t kds).2 xs' ∧ (mergeA t kds).1.length = (mergeA t kds).2.length
  | [], _, t, xs, hl, h, hk => by rw [show _ = [] from hk]; exact ⟨xs, rfl, h, hl⟩
  | p :: r, _, t, xs, hl, h, ⟨v, kt, e1, h1, h2⟩ => by
    subst e1
    obtain ⟨xs1, e2, h3⟩ := putA_ok (k := p.1) hl h h1
    obtain ⟨xs2, e3, h4, h5⟩ := mergeA_ok (putA_len hl) h3 h2
    refine ⟨xs2, ?_, h4, h5⟩
    show mergeK (putK (t.1.zip xs) p.1 v) kt = _
    rw [e2]; exact e3
end
section
variable {X : Cx} {a b c e : Expr} {ta tb tc te : TE} {aa ab ac ae : AE} {pos : Pos} {K : PySem.W.Frag} {B : Ent} {σ : St} {H G H1 G1 H2 G2 H0 : Hp} {Γ Γ1 Γ2 : Sl} {M M1 M2 : Mem}
def dctOf (r : Ret) (Γ : Sl) (M : Mem) : Option (List L2.Key × List D) := match r with
  | .dat (.dct ks ds) => some (ks, ds)
  | .dat (.ref a) => match M.lookup a with
    | some (.dct ks ds) => some (ks, ds)
    | _ => none
  | .tmp (.dct ks ds) => some (ks, ds)
  | .var i => match Γ[i]? with
    | some (.own (.dct ks ds)) => some (ks, ds)
    | some (.dat (.dct ks ds)) => some (ks, ds)
    | _ => none
  | _ => none
theorem rep_dct_rd {ks : List L2.Key} {ds : List D} {v : V} (o : Ok K ρ B σ H G Γ M) (h : Rep K G (.dct ks ds) v) : ∃ a xs, v = .ref a ∧ Rd H a (.dK (ks.zip xs)) ∧ ks.length = ds.length ∧ RepL K G ds xs := by
  obtain ⟨a, od, xs, e, h1, h2, h3⟩ := rep_dct.mp h
  exact ⟨a, xs, e, .inr ⟨od, o.ex _ _ h1⟩, h2, h3⟩
theorem dctOf_ok {r : Ret} {v : V} {ks : List L2.Key} {ds : List D} (o : Ok K ρ B σ H G Γ M) (rr : RepR K B σ H0 H G Γ M r v) (h : dctOf r Γ M = some (ks, ds)) : ∃ a xs, v = .ref a ∧ Rd H a (.dK (ks.zip xs)) ∧ ks.length = ds.length ∧ RepL K G ds xs := by
  cases r with
  | dat d =>
    cases d with
    | dct ks' ds' => cases h; exact rep_dct_rd o rr
    | ref a =>
      simp only [dctOf] at h
      split at h
      · rename_i ks' ds' e1
        cases h
        obtain ⟨hg, u, ho, vs, rfl, hl, hr⟩ := o.ms a _ (lookup_mem e1)
        exact ⟨a, vs, by have := rr; simp only [RepR, Rep] at this; exact this, .inl ho, hl, hr⟩
      · cases h
    | _ => cases h
  | tmp c =>
    cases c with
    | lst ds => cases h
    | dcT ks ds => cases h
    | dcN ks ds => cases h
    | ins cn ns ds => cases h
    | tab q => cases h
    | dct ks' ds' =>
      cases h
      obtain ⟨p, rfl, h0, hb, ⟨hg, u, hu, vs, rfl, hl, hr⟩, hm, hn⟩ := rr
      exact ⟨p, vs, rfl, .inl hu, hl, hr⟩
  | var i =>
    simp only [dctOf] at h
    split at h
    · rename_i ks' ds' e1
      cases h
      obtain ⟨p, s1, hb, hm, hg, u, ho, vs, rfl, hl, hr⟩ := o.own i _ e1
      have : v = .ref p := by have := (show σ[i]? = some (some v) from rr); rw [s1] at this; cases this; rfl
      exact ⟨p, vs, this, .inl ho, hl, hr⟩
    · rename_i ks' ds' e1
      cases h
      obtain ⟨v', h1, h2⟩ := o.dat i _ e1
      have : v' = v := by have := (show σ[i]? = some (some v) from rr); rw [h1] at this; cases this; rfl
      subst this
      exact rep_dct_rd o h2
    · cases h
def cget (r : Ret) (Γ : Sl) (M : Mem) : Option Cell := match r with
  | .var i => match Γ[i]? with
    | some (.own c) => some c
    | _ => none
  | .dat (.ref a) => M.lookup a
  | _ => none
def cput (r : Ret) (c : Cell) (Γ : Sl) (M : Mem) (k : Sl → Mem → Prop) : Prop := match r with
  | .var i => k (Γ.set i (.own c)) M
  | .dat (.ref a) => k Γ (mput M a c)
  | _ => False
theorem cget_ok {r : Ret} {v : V} {c : Cell} (k : Ok K ρ B σ H G Γ M) (rr : RepR K B σ H0 H G Γ M r v) (h : cget r Γ M = some c) : ∃ l o, v = .ref l ∧ H l = some o ∧ CellOk K G l c o := by
  cases r with
  | var i =>
    simp only [cget] at h
    split at h
    · rename_i c' e1
      cases h
      obtain ⟨p, s1, hb, hm, hg, u, ho, hc⟩ := k.own i _ e1
      have : v = .ref p := by have := (show σ[i]? = some (some v) from rr); rw [s1] at this; cases this; rfl
      exact ⟨p, u, this, ho, hc⟩
    · cases h
  | dat d =>
    cases d with
    | ref a =>
      simp only [cget] at h
      obtain ⟨hg, u, ho, hc⟩ := k.ms a _ (lookup_mem h)
      exact ⟨a, u, by have := rr; simp only [RepR, Rep] at this; exact this, ho, hc⟩
    | _ => cases h
  | tmp c => cases h
theorem cput_ok {r : Ret} {l : Addr} {c c' : Cell} {o' : HO} {kk : Sl → Mem → Prop} (k : Ok K ρ B σ H G Γ M) (rr : RepR K B σ H0 H G Γ M r (.ref l)) (h : cget r Γ M = some c) (rl : CellOk K G l c' o') (hp : cput r c' Γ M kk) :
    ∃ Γ' M', Ok K ρ B σ (upd H l o') G Γ' M' ∧ Es σ H G Γ M (upd H l o') G Γ' M' ∧ kk Γ' M' := by
  have updN : ∀ x, upd H l o' x = none → H x = none := fun x e => by
    by_cases z : x = l
    · subst z; rw [upd_same] at e; cases e
    · rw [upd_ne z] at e; exact e
  cases r with
  | tmp c => cases h
  | var i =>
    simp only [cget] at h
    split at h
    · rename_i dd e1
      cases h
      obtain ⟨p, s1, hb, hm, hg, u, ho, hc⟩ := k.own i _ e1
      have e : p = l := by have := (show σ[i]? = some (some (.ref l)) from rr); rw [s1] at this; cases this; rfl
      subst e
      have exG : Ex G (upd H p o') := fun x o z => by
        have ne : x ≠ p := fun e => by subst e; rw [hg] at z; cases z
        rw [upd_ne ne]; exact k.ex x o z
      have cel : ∀ x c, x ≠ p → Cel K H G x c → Cel K (upd H p o') G x c := fun x c ne ⟨z1, o, z2, z3⟩ => ⟨z1, o, by rw [upd_ne ne]; exact z2, z3⟩
      refine ⟨_, _, ⟨⟨k.st.g, fun x o z n => ?_, k.st.gn, k.st.mn, fun x z => k.st.nn x (updN x z)⟩, exG, k.nd, fun x c z => cel x c (fun e => hm (e ▸ List.mem_map.mpr ⟨_, z, rfl⟩)) (k.ms x c z), fun j d z => ?_, fun j c z => ?_, fun j m cj cm q z z' a b => ?_, by rw [List.length_set]; exact k.len, k.pb⟩, ⟨Ex.refl G, fun x o z g m n => ?_, updN⟩, hp⟩
      · have ne : x ≠ p := fun e => by subst e; rw [hb] at z; cases z
        rw [upd_ne ne]; exact k.st.fr x o z n
      · rcases set_get z with ⟨_, e⟩ | ⟨_, e⟩
        · cases e
        · exact k.dat j d e
      · rcases set_get z with ⟨e, e2⟩ | ⟨ne, e⟩
        · cases e2; subst e
          exact ⟨p, s1, hb, hm, hg, _, upd_same, rl⟩
        · obtain ⟨q, y1, y2, y3, y4⟩ := k.own j c e
          exact ⟨q, y1, y2, y3, cel q c (fun eq => ne (k.dis j i _ _ p e e1 (eq ▸ y1) s1)) y4⟩
      · have own' : ∀ (j : Nat) (c : Cell), (Γ.set i (Slot.own c'))[j]? = some (Slot.own c) → ∃ c', Γ[j]? = some (Slot.own c') := fun j c z => by
          rcases set_get z with ⟨e, _⟩ | ⟨_, e⟩
          · subst e; exact ⟨_, e1⟩
          · exact ⟨_, e⟩
        obtain ⟨c1, z1⟩ := own' j cj z
        obtain ⟨c2, z2⟩ := own' m cm z'
        exact k.dis j m c1 c2 q z1 z2 a b
      · have ne : x ≠ p := fun e => n ⟨i, _, e1, e ▸ s1⟩
        refine ⟨by rw [upd_ne ne]; exact z, g, m, fun ⟨j, c, y1, y2⟩ => n ?_⟩
        rcases set_get y1 with ⟨e, _⟩ | ⟨_, e⟩
        · subst e; exact ⟨_, _, e1, y2⟩
        · exact ⟨j, c, e, y2⟩
    · cases h
  | dat d =>
    cases d with
    | ref a =>
      simp only [cget] at h
      obtain ⟨hg, u, ho, hc⟩ := k.ms a _ (lookup_mem h)
      have e : l = a := by have := rr; simp only [RepR, Rep] at this; cases this; rfl
      subst e
      have exG : Ex G (upd H l o') := fun x o z => by
        have ne : x ≠ l := fun e => by subst e; rw [hg] at z; cases z
        rw [upd_ne ne]; exact k.ex x o z
      have cel : ∀ x c, x ≠ l → Cel K H G x c → Cel K (upd H l o') G x c := fun x c ne ⟨z1, o, z2, z3⟩ => ⟨z1, o, by rw [upd_ne ne]; exact z2, z3⟩
      have inM : l ∈ dom M := List.mem_map.mpr ⟨_, lookup_mem h, rfl⟩
      refine ⟨_, _, ⟨⟨k.st.g, fun x o z n => ?_, k.st.gn, ?_, fun x z => k.st.nn x (updN x z)⟩, exG, by rw [dom_mput]; exact k.nd, fun x c z => ?_, k.dat, fun j c z => ?_, k.dis, k.len, k.pb⟩, ⟨Ex.refl G, fun x o z g m n => ?_, updN⟩, hp⟩
      · have ne : x ≠ l := fun e => by
          subst e
          rcases k.st.mn x inM with z' | z'
          · exact n z'
          · rw [z] at z'; cases z'
        rw [upd_ne ne]; exact k.st.fr x o z n
      · rw [dom_mput]; exact k.st.mn
      · unfold mput at z
        obtain ⟨y, hy, e⟩ := List.mem_map.mp z
        split at e
        · cases e; exact ⟨hg, _, upd_same, rl⟩
        · rename_i ne
          obtain ⟨y1, y2⟩ := y
          cases e
          exact cel x c ne (k.ms x c hy)
      · obtain ⟨q, y1, y2, y3, y4⟩ := k.own j c z
        exact ⟨q, y1, y2, by rw [dom_mput]; exact y3, cel q c (fun e => y3 (e ▸ inM)) y4⟩
      · have ne : x ≠ l := fun e => m (e ▸ inM)
        exact ⟨by rw [upd_ne ne]; exact z, g, by rw [dom_mput]; exact m, n⟩
    | _ => cases h
theorem Ok.updTmp' {p : Addr} {o u : HO} (k : Ok K ρ B σ H G Γ M) (hp : H p = some o) (hb : B.H p = none) (hg : G p = none) (hm : p ∉ dom M) (hn : ¬ owned σ Γ p) : Ok K ρ B σ (upd H p u) G Γ M := by
  have cel : ∀ x c, x ≠ p → Cel K H G x c → Cel K (upd H p u) G x c := fun x c ne ⟨z1, o, z2, z3⟩ => ⟨z1, o, by rw [upd_ne ne]; exact z2, z3⟩
  refine ⟨⟨k.st.g, fun x o z n => ?_, k.st.gn, k.st.mn, fun x z => k.st.nn x ?_⟩, fun x o z => ?_, k.nd, fun x c z => cel x c (fun e => hm (e ▸ List.mem_map.mpr ⟨_, z, rfl⟩)) (k.ms x c z), k.dat, fun i c z => ?_, k.dis, k.len, k.pb⟩
  · rw [upd_ne (ne_of_none z hb)]; exact k.st.fr x o z n
  · by_cases e : x = p
    · subst e; rw [upd_same] at z; cases z
    · rw [upd_ne e] at z; exact z
  · have ne : x ≠ p := fun e => by subst e; rw [hg] at z; cases z
    rw [upd_ne ne]; exact k.ex x o z
  · obtain ⟨q, y1, y2, y3, y4⟩ := k.own i c z
    exact ⟨q, y1, y2, y3, cel q c (fun e => hn ⟨i, c, z, e ▸ y1⟩) y4⟩
theorem Ok.fresh {p : Addr} (k : Ok K ρ B σ H G Γ M) (hp : H p = none) : p ∉ dom M ∧ ¬ owned σ Γ p ∧ B.H p = none ∧ G p = none := by
  refine ⟨fun hm => ?_, fun ⟨i, c, h1, h2⟩ => ?_, k.st.nn _ hp, k.ex.none hp⟩
  · obtain ⟨⟨a, c⟩, h1, h2⟩ := List.mem_map.mp hm
    obtain ⟨_, u, h3, _⟩ := k.ms a c h1
    simp at h2; subst h2; rw [hp] at h3; cases h3
  · obtain ⟨q, h3, _, _, _, u, h4, _⟩ := k.own i c h1
    rw [h2] at h3; cases h3; rw [hp] at h4; cases h4
def aDNew (Γ : Sl) (M : Mem) (Q : Ret → Sl → Mem → Prop) : Prop := Q (.tmp (.dct [] [])) Γ M
abbrev AP := Sl → Mem → (List (L2.Key × D) → Sl → Mem → Prop) → Prop
def RdP (K : PySem.W.Frag) (ρ : Ent) (trs : List (TE × TE)) (ap : AP) : Prop := ∀ B σ H G Γ M (Q : List (L2.Key × D) → Sl → Mem → Prop) (R : List (V × V) → Hp → Prop), Ok K ρ B σ H G Γ M → ap Γ M Q →
  (∀ kvs H' G' Γ' M' kds, Ok K ρ B σ H' G' Γ' M' → Es σ H G Γ M H' G' Γ' M' → RepKs K G' kds kvs → Q kds Γ' M' → R (kvs.map fun kv => (kV kv.1, kv.2)) H') → tPairs trs σ H R
structure QP (X : Cx) (ρ : Ent) (pos : Pos) (keys : List (Option Expr)) (values : List Expr) (trs : List (TE × TE)) (ap : AP) : Prop where
  pe : PPs X pos keys values trs
  rd : RdP X.K ρ trs ap
def apNil (Γ : Sl) (M : Mem) (Q : List (L2.Key × D) → Sl → Mem → Prop) : Prop := Q [] Γ M
def apCons (ak av : AE) (ar : AP) (Γ : Sl) (M : Mem) (Q : List (L2.Key × D) → Sl → Mem → Prop) : Prop := ak Γ M fun rk Γ1 M1 => match rk with
  | .dat y => match keyD y with
    | some k => av Γ1 M1 fun rv Γ2 M2 => frz rv Γ2 fun d Γ3 => ar Γ3 M2 fun kds Γ4 M4 => Q ((k, d) :: kds) Γ4 M4
    | none => False
  | _ => False
theorem qp_nil : QP X ρ pos [] [] [] apNil := ⟨pps_nil, fun B σ H G Γ M Q R k h q => q [] H G Γ M [] k .refl rfl h⟩
theorem qp_cons {ks : List (Option Expr)} {vs : List Expr} {trs : List (TE × TE)} {ar : AP} (ha : QE X ρ a ta aa) (hb : QE X ρ b tb ab) (hr : QP X ρ pos ks vs trs ar) : QP X ρ pos (some a :: ks) (b :: vs) ((ta, tb) :: trs) (apCons aa ab ar) := ⟨pps_cons ha.pe hb.pe hr.pe, by
  intro B σ H G Γ M Q R k h q
  refine ha.rd B σ H G Γ M _ _ k h fun v H1 G1 Γ1 M1 r1 k1 e1 rr1 h1 => ?_
  split at h1
  · rename_i y
    split at h1
    · rename_i key hy
      have ev := rep_key (show Rep X.K G1 y v from rr1) hy
      subst ev
      refine hb.rd B σ H1 G1 Γ1 M1 _ _ k1 h1 fun u H2 G2 Γ2 M2 r2 k2 e2 rr2 h2 => ?_
      obtain ⟨G3, Γ3, d, k3, e3, rp, h3⟩ := frz_ok (H0 := H1) k2 e2 rr2 h2
      refine hr.rd B σ H2 G3 Γ3 M2 _ _ k3 h3 fun kvs H4 G4 Γ4 M4 kds k4 e4 rk h4 => ?_
      exact q ((key, u) :: kvs) H4 G4 Γ4 M4 ((key, d) :: kds) k4 ((e1.trans e3).trans e4) ⟨u, kvs, rfl, rp.mono e4.g, rk⟩ h4
    · exact h1.elim
  · exact h1.elim⟩
def aDisp (ap : AP) (Γ : Sl) (M : Mem) (Q : Ret → Sl → Mem → Prop) : Prop := ap Γ M fun kds Γ1 M1 => kds.length ≤ 15 ∧ Q (.tmp (.dct (mergeA ([], []) kds).1 (mergeA ([], []) kds).2)) Γ1 M1
theorem q_disp {keys : List (Option Expr)} {values : List Expr} {trs : List (TE × TE)} {ap : AP} (h : QP X ρ pos keys values trs ap) (hall : keys.all (·.isSome) = true := by rfl) (hl : keys.length = values.length := by rfl) (h0 : keys ≠ [] := by simp)
    (h15 : keys.length ≤ 15 := by decide) : QE X ρ (.Dict keys values pos) (tDisp trs) (aDisp ap) := ⟨pe_disp h.pe hall hl h0 h15, by
  intro B σ H G Γ M Q R k hh q p hp
  obtain ⟨k1, e1, hm, hn, hb, hg⟩ := k.tmp (o := .dK []) hp
  refine h.rd B σ _ G Γ M _ _ k1 hh fun kvs H2 G2 Γ2 M2 kds k2 e2 rk h2 => ?_
  obtain ⟨p2, g2, m2, n2⟩ := e2.tmp p _ upd_same hg hm hn
  obtain ⟨xs', e3, h3, h4⟩ := mergeA_ok (t := ([], [])) rfl (repL_nil.mpr rfl) rk
  refine ⟨p2, kvs, rfl, by rw [rk.len]; exact h2.1, ?_⟩
  have e3' : mergeK [] kvs = (mergeA ([], []) kds).1.zip xs' := e3
  rw [e3']
  refine q _ _ G2 Γ2 M2 (.tmp (.dct _ _)) (k2.updTmp' p2 hb g2 m2 n2) ⟨e2.g, fun a o z g m n => ?_, fun a z => ?_⟩ ⟨p, rfl, hp, hb, ⟨g2, _, upd_same, xs', rfl, h4, h3⟩, m2, n2⟩ h2.2
  · have ne : a ≠ p := ne_of_none z hp
    obtain ⟨a1, a2, a3, a4⟩ := e2.tmp a o (by rw [upd_ne ne]; exact z) g m n
    exact ⟨by rw [upd_ne ne]; exact a1, a2, a3, a4⟩
  · by_cases e : a = p
    · subst e; exact hp
    · rw [upd_ne e] at z
      have := e2.nn a z
      rw [upd_ne e] at this; exact this⟩
def aDGet (ad ay : AE) (Γ : Sl) (M : Mem) (Q : Ret → Sl → Mem → Prop) : Prop := ad Γ M fun r Γ1 M1 => ay Γ1 M1 fun ry Γ2 M2 => match ry with
  | .dat y => match keyD y with
    | some k => match dctOf r Γ2 M2 with
      | some t => match getA t.1 t.2 k with
        | some d => Q (.dat d) Γ2 M2
        | none => False
      | none => False
    | none => False
  | _ => False
theorem rd_dget (ha : RdE K ρ ta aa) (hb : RdE K ρ tb ab) : RdE K ρ (tDGet ta tb) (aDGet aa ab) := by
  intro B σ H G Γ M Q R k h q
  refine ha B σ H G Γ M _ _ k h fun v H1 G1 Γ1 M1 r1 k1 e1 rr1 h1 => ?_
  refine hb B σ H1 G1 Γ1 M1 _ _ k1 h1 fun u H2 G2 Γ2 M2 r2 k2 e2 rr2 h2 => ?_
  split at h2
  · rename_i y
    split at h2
    · rename_i key hy
      have eu := rep_key (show Rep K G2 y u from rr2) hy
      subst eu
      split at h2
      · rename_i t ht
        obtain ⟨l, xs, rfl, hd, hl, hx⟩ := dctOf_ok k2 (rr1.es e2) ht
        split at h2
        · rename_i d hd2
          obtain ⟨w, hw, rw'⟩ := (getA_ok (k := key) hl hx).1 d hd2
          exact ⟨l, w, rfl, .inl ⟨_, key, hd, rfl, hw.symm⟩, q w H2 G2 Γ2 M2 (.dat d) k2 (e1.trans e2) rw' h2⟩
        · exact h2.elim
      · exact h2.elim
    · exact h2.elim
  · exact h2.elim
theorem q_dget (hu : X.A.units + 64 < cLine) (ha : QE X ρ a ta aa) (hb : QE X ρ b tb ab) (hs : NoSl b := by exact fun _ _ => rfl) : QE X ρ (.Subscript a b pos) (tDGet ta tb) (aDGet aa ab) := ⟨pe_dget (by omega) ha.pe hb.pe hs, rd_dget ha.rd hb.rd⟩
def aDGet2 (ad ay az : AE) (Γ : Sl) (M : Mem) (Q : Ret → Sl → Mem → Prop) : Prop := ad Γ M fun r Γ1 M1 => (dctOf r Γ1 M1).isSome = true ∧ ay Γ1 M1 fun ry Γ2 M2 => az Γ2 M2 fun rz Γ3 M3 => match ry with
  | .dat y => match rz with
    | .dat z => match keyD y with
      | some k => match dctOf r Γ3 M3 with
        | some t => Q (.dat ((getA t.1 t.2 k).getD z)) Γ3 M3
        | none => False
      | none => False
    | _ => False
  | _ => False
def aDIn (f : Bool → Bool) (ay ad : AE) (Γ : Sl) (M : Mem) (Q : Ret → Sl → Mem → Prop) : Prop := ay Γ M fun ry Γ1 M1 => ad Γ1 M1 fun r Γ2 M2 => match ry with
  | .dat y => match keyD y with
    | some k => match dctOf r Γ2 M2 with
      | some t => Q (.dat (.bl (f (getA t.1 t.2 k).isSome))) Γ2 M2
      | none => False
    | none => False
  | _ => False
def aDPut (ae ao ai : AE) (A : AEnds) (Γ : Sl) (M : Mem) : Prop := ae Γ M fun r Γ0 M0 => frz r Γ0 fun d Γ1 => ao Γ1 M0 fun ro Γ2 M2 => ai Γ2 M2 fun ri Γ3 M3 => match ri with
  | .dat y => match keyD y with
    | some k => match cget ro Γ3 M3 with
      | some (.dct ks ds) => ks.length < sizeLine ∧ cput ro (.dct (putA (ks, ds) k d).1 (putA (ks, ds) k d).2) Γ3 M3 fun Γ4 M4 => A.nx Γ4 M4
      | _ => False
    | none => False
  | _ => False
theorem qs_dput {o i : Expr} {to ti : TE} {ao ai : AE} {pos' : Pos} (hu : X.A.units + 64 < cLine) (h : QE X ρ a ta aa) (ho : QE X ρ o to ao) (hi : QE X ρ i ti ai) (hs : swapsWith a (some (.Subscript o i pos')) pos.line X.env = pure false := by rfl) :
    QS X ρ (.Assign [.Subscript o i pos'] a pos) (sDPut to ti ta) (aDPut aa ao ai) := ⟨ps_dput (by omega) ho.pe hi.pe h.pe hs, fun B σ H G Γ M A E k hh s => h.rd B σ H G Γ M _ _ k hh fun v H1 G1 Γ1 M1 r k1 e1 rr h1 => by
    obtain ⟨G2, Γ2, d, k2, e2, rp, h2⟩ := frz_ok (H0 := H) k1 e1 rr h1
    refine ho.rd B σ H1 G2 Γ2 M1 _ _ k2 h2 fun ov H3 G3 Γ3 M3 ro k3 e3 rro h3 => ?_
    refine hi.rd B σ H3 G3 Γ3 M3 _ _ k3 h3 fun iv H4 G4 Γ4 M4 ri k4 e4 rri h4 => ?_
    split at h4
    · rename_i y
      split at h4
      · rename_i key hy
        have eu := rep_key (show Rep X.K G4 y iv from rri) hy
        subst eu
        split at h4
        · rename_i ks ds hd
          have rro' := rro.es e4
          obtain ⟨l, o', rfl, hl, xs, rfl, hlen, hx⟩ := cget_ok k4 rro' hd
          have rp4 : Rep X.K G4 d v := (rp.mono e3.g).mono e4.g
          obtain ⟨xs', e5, hx'⟩ := putA_ok (t := (ks, ds)) (k := key) hlen hx rp4
          obtain ⟨Γ5, M5, k5, e6, hq⟩ := cput_ok (c' := .dct _ _) (o' := .dK ((putA (ks, ds) key d).1.zip xs')) k4 rro' hd ⟨xs', rfl, putA_len (t := (ks, ds)) hlen, hx'⟩ h4.2
          have e5' : putK (ks.zip xs) key v = (putA (ks, ds) key d).1.zip xs' := e5
          rw [← e5'] at k5
          exact ⟨l, _, rfl, .inl ⟨_, key, hl, rfl, by simp only [List.length_zip, hx.length]; omega, rfl⟩, s.nx σ _ G4 Γ5 M5 k5 hq⟩
        · exact h4.elim
      · exact h4.elim
    · exact h4.elim⟩
def aIItems (aa : AE) (Γ : Sl) (M : Mem) (Q : List D → Sl → Mem → Prop) : Prop := aa Γ M fun r Γ1 M1 => match r with
  | .dat (.dct ks ds) => Q (itemsD ks ds) Γ1 M1
  | _ => False
def aLItems (aa : AE) (Γ : Sl) (M : Mem) (Q : Ret → Sl → Mem → Prop) : Prop := aa Γ M fun r Γ1 M1 => match dctOf r Γ1 M1 with
  | some t => Q (.tmp (.lst (itemsD t.1 t.2))) Γ1 M1
  | none => False
def pairsOf : List D → Option (List (L2.Key × D))
  | [] => some []
  | .tup [y, d] :: ds => match keyD y with
    | some k => (pairsOf ds).map ((k, d) :: ·)
    | none => none
  | _ :: _ => none
def aDictP (r : Ret) (Γ : Sl) (M : Mem) (Q : Ret → Sl → Mem → Prop) : Prop := match sqOf r Γ M with
  | some (.lst ds) => match pairsOf ds with
    | some kds => Q (.tmp (.dct (mergeA ([], []) kds).1 (mergeA ([], []) kds).2)) Γ M
    | none => False
  | _ => False
end
end Gw

namespace Gw
open PySem L2
variable {ρ : Ent}
open PyProof.Rows hiding St
abbrev TL := V → TE
abbrev AL := Ret → AE
def aLast (ao : AOp) (ab : AE) (x : Ret) (Γ : Sl) (M : Mem) (Q : Ret → Sl → Mem → Prop) : Prop := ab Γ M fun y Γ1 M1 => ao x y Γ1 M1 Q
def aLink (ao : AOp) (ab : AE) (al : AL) (x : Ret) (Γ : Sl) (M : Mem) (Q : Ret → Sl → Mem → Prop) : Prop := ab Γ M fun y Γ1 M1 => ao x y Γ1 M1 fun z Γ2 M2 => match z with
  | .dat (.bl k) => if k = true then al y Γ2 M2 Q else Q (.dat (.bl false)) Γ2 M2
  | _ => False
def aChainN (aa : AE) (al : AL) (Γ : Sl) (M : Mem) (Q : Ret → Sl → Mem → Prop) : Prop := aa Γ M fun x Γ1 M1 => al x Γ1 M1 Q
structure QL (X : Cx) (ρ : Ent) (ops : List CmpOp) (rs : List Expr) (t : TL) (al : AL) : Prop where
  run : ∀ (pos : Pos) (pins : List (Addr × Obj)) (s : Shared) (σ : L2.St) (H : Hp) (Q : VK) (x : V) (v : Value), Inv X pins σ H s → RelV x v → t x σ H Q → wpAny (model X.prog X.w) X.A (compareChain pos v ops (evalEach rs X.env)) (EP X pins σ Q) X.xe s
  tst : ∀ (pos : Pos) (pins : List (Addr × Obj)) (s : Shared) (σ : L2.St) (H : Hp) (Q : Bool → Hp → Prop) (x : V) (v : Value), Inv X pins σ H s → RelV x v → t x σ H (fun z H' => ∃ k, z = .bl k ∧ Q k H') →
    wpAny (model X.prog X.w) X.A (testChain pos v ops (evalEach rs X.env)) (fun b s' => ∃ H', Inv X pins σ H' s' ∧ Q b H') X.xe s
  rd : ∀ B σ H H0 G Γ M rx x Q R, Ok X.K ρ B σ H G Γ M → RepR X.K B σ H0 H G Γ M rx x → al rx Γ M Q → Kont X.K ρ B σ H G Γ M Q R → t x σ H R
section
variable {X : Cx} {a b c e : Expr} {ta tb tc te : TE} {aa ab ac ae : AE} {pos : Pos} {K : PySem.W.Frag} {B : Ent} {σ : L2.St} {H G H1 G1 H2 G2 H0 : Hp} {Γ Γ1 Γ2 : Sl} {M M1 M2 : Mem}
def agTL (n : Nat) (u : AGs) (d : D) (Γ : Sl) (Q : Sl → Prop) : Prop := match d with
  | .lst ds => ds.length = n ∧ u ds Γ Q
  | _ => False
def enumK {α : Type} : Nat → List α → List (L2.Key × α)
  | _, [] => []
  | i, x :: xs => (.inl (i : Int), x) :: enumK (i + 1) xs
def aDictEnum (aa : AE) (Γ : Sl) (M : Mem) (Q : Ret → Sl → Mem → Prop) : Prop := aa Γ M fun r Γ1 M1 => match sqOf r Γ1 M1 with
  | some (.lst ds) => Q (.tmp (.dct (mergeA ([], []) (enumK 0 ds)).1 (mergeA ([], []) (enumK 0 ds)).2)) Γ1 M1
  | _ => False
end
end Gw

namespace Gw
open PySem L2
variable {ρ : Ent}
section
variable {X : Cx} {a b c e : Expr} {ta tb tc te : TE} {aa ab ac ae : AE} {pos : Pos} {K : PySem.W.Frag} {B : Ent} {σ : St} {H G H1 G1 H2 G2 H0 : Hp} {Γ Γ1 Γ2 : Sl} {M M1 M2 : Mem}
inductive Knd where
  | int | bool | str | tuple | list | dict
def Knd.nm : Knd → String
  | .int => "int" | .bool => "bool" | .str => "str" | .tuple => "tuple" | .list => "list" | .dict => "dict"
def isD : Knd → D → Bool
  | .int, .int _ => true
  | .int, .bl _ => true
  | .bool, .bl _ => true
  | .str, .str _ => true
  | .tuple, .tup _ => true
  | .list, .lst _ => true
  | .list, .scr _ => true
  | .dict, .dct _ _ => true
  | _, _ => false
def tyN : D → String
  | .non => "NoneType" | .bl _ => "bool" | .int _ => "int" | .str _ => "str" | .tup _ => "tuple" | .lst _ => "list" | .scr _ => "list" | .dct _ _ => "dict" | .dcT _ _ => "object" | .dcN _ _ => "object" | .ref _ => "object" | .exc _ _ _ => "object"
def NoRef : D → Prop
  | .ref _ => False
  | .exc _ _ _ => False
  | .dcT _ _ => False
  | .dcN _ _ => False
  | _ => True
theorem kit_isD (T : Knd) (d : D) (h : NoRef d) : kitB (tyN d) T.nm = some (isD T d) := by
  cases d with
  | ref a => exact h.elim
  | exc _ _ _ => exact h.elim
  | dcT _ _ => exact h.elim
  | dcN _ _ => exact h.elim
  | _ => cases T <;> (simp only [tyN, Knd.nm, isD]; decide +kernel)
def kdOf (r : Ret) (Γ : Sl) (M : Mem) : Option D := match r with
  | .dat d => match d with
    | .ref a => match M.lookup a with
      | some (.lst ds) => some (.lst ds)
      | some (.dct ks ds) => some (.dct ks ds)
      | _ => none
    | .exc _ _ _ => none
    | .dcT _ _ => none
    | .dcN _ _ => none
    | d => some d
  | .tmp (.lst ds) => some (.lst ds)
  | .tmp (.dct ks ds) => some (.dct ks ds)
  | .tmp (.dcT _ _) => none
  | .tmp (.dcN _ _) => none
  | .tmp (.ins _ _ _) => none
  | .tmp (.tab _) => none
  | .var i => match Γ[i]? with
    | some (.own (.lst ds)) => some (.lst ds)
    | some (.own (.dct ks ds)) => some (.dct ks ds)
    | _ => none
theorem ty_tup {p : Addr} {xs : List V} (h : SqT K H p xs) : TyX K H (.ref p) (.type "tuple") := by
  rcases h with (h | ⟨o, h⟩) | ⟨o, its, n, h1, h2, _⟩
  · exact .base (.tup h)
  · exact .fTuple h
  · exact .kTuple h1 h2
theorem ty_lst {p : Addr} {xs : List V} (h : SqL K H p xs) : TyX K H (.ref p) (.type "list") := by
  rcases h with (h | ⟨o, h⟩) | ⟨o, its, n, h1, h2, _⟩
  · exact .base (.lst h)
  · exact .base (.frz h)
  · exact .kList h1 h2
theorem rep_ty {d : D} {v : V} (o : Ex G H) (h : Rep K G d v) (n : NoRef d) : TyX K H v (.type (tyN d)) := by
  cases d with
  | non => rw [Rep] at h; subst h; exact .base .non
  | bl b => rw [Rep] at h; subst h; exact .base (.bl b)
  | int b => rw [Rep] at h; subst h; exact .base (.int b)
  | str b => rw [Rep] at h; subst h; exact .base (.str b)
  | ref a => exact n.elim
  | exc _ _ _ => exact n.elim
  | dcT _ _ => exact n.elim
  | dcN _ _ => exact n.elim
  | tup ds => obtain ⟨p, xs, rfl, h1, _⟩ := rep_tup h; exact ty_tup (ex_t o h1)
  | lst ds => obtain ⟨p, xs, rfl, h1, _⟩ := rep_lst.mp h; exact .base (.lst (o _ _ h1))
  | scr ds => obtain ⟨p, xs, rfl, h1, _⟩ := rep_scr.mp h; exact ty_lst (ex_l o h1)
  | dct ks ds => obtain ⟨p, u, xs, rfl, h1, _⟩ := rep_dct.mp h; exact .fDict (o _ _ h1)
theorem cel_tyL {p : Addr} {ds : List D} (h : Cel K H G p (.lst ds)) : TyX K H (.ref p) (.type "list") := by
  obtain ⟨_, o, ho, vs, rfl, _⟩ := h
  exact .base (.lst ho)
theorem cel_tyD {p : Addr} {ks : List L2.Key} {ds : List D} (h : Cel K H G p (.dct ks ds)) : TyX K H (.ref p) (.type "dict") := by
  obtain ⟨_, o, ho, vs, rfl, _⟩ := h
  exact .base (.dK ho)
theorem kdOf_ok {r : Ret} {v : V} {d : D} {H0 : Hp} (k : Ok K ρ B σ H G Γ M) (rr : RepR K B σ H0 H G Γ M r v) (h : kdOf r Γ M = some d) : TyX K H v (.type (tyN d)) ∧ NoRef d := by
  cases r with
  | dat d' =>
    cases d' with
    | ref p =>
      simp only [kdOf] at h
      have rv : v = .ref p := by have := rr; simp only [RepR, Rep] at this; exact this
      subst rv
      split at h
      · rename_i ds e; cases h; exact ⟨cel_tyL (k.ms p _ (lookup_mem e)), trivial⟩
      · rename_i ks ds e; cases h; exact ⟨cel_tyD (k.ms p _ (lookup_mem e)), trivial⟩
      · cases h
    | exc _ _ _ => cases h
    | dcT _ _ => cases h
    | dcN _ _ => cases h
    | _ => cases h; exact ⟨rep_ty k.ex rr trivial, trivial⟩
  | tmp c =>
    obtain ⟨p, rfl, _, _, hc, _⟩ := rr
    cases c with
    | lst ds => cases h; exact ⟨cel_tyL hc, trivial⟩
    | dct ks ds => cases h; exact ⟨cel_tyD hc, trivial⟩
    | dcT ks ds => cases h
    | dcN ks ds => cases h
    | ins cn ns ds => cases h
    | tab q => cases h
  | var i =>
    simp only [kdOf] at h
    split at h
    · rename_i ds e
      cases h
      obtain ⟨p, s1, _, _, hc⟩ := k.own i _ e
      have : v = .ref p := by have := (show σ[i]? = some (some v) from rr); rw [s1] at this; cases this; rfl
      subst this
      exact ⟨cel_tyL hc, trivial⟩
    · rename_i ks ds e
      cases h
      obtain ⟨p, s1, _, _, hc⟩ := k.own i _ e
      have : v = .ref p := by have := (show σ[i]? = some (some v) from rr); rw [s1] at this; cases this; rfl
      subst this
      exact ⟨cel_tyD hc, trivial⟩
    · cases h
def aIsi (T : Knd) (r : Ret) (Γ : Sl) (M : Mem) (Q : Ret → Sl → Mem → Prop) : Prop := match kdOf r Γ M with
  | some d => Q (.dat (.bl (isD T d))) Γ M
  | none => False
def tIsi (K : PySem.W.Frag) (T : Knd) (te : TE) : TE := tCB (rIsi K) (tCons te (tCons (tC (.ty T.nm)) tNil))
theorem q_isi (T : Knd) {p p2 : Pos} {tn : Str} (hm : X.mg "isinstance" = none) (hm2 : X.mg tn = none) (ha : QE X ρ a ta aa) (hg : Gl X "isinstance" := by rfl) (hg2 : Gl X tn := by rfl) (hv : bootBuiltins tn = some (.type T.nm) := by decide +kernel) (hn : tn ≠ "__name__" := by decide) (hdb : (tn == ("__debug__" : Str)) = false := by decide)
    (na : starEach [a, .Name tn p2] X.env = (false, eval a X.env) :: starEach [.Name tn p2] X.env := by rfl) (hpl : (backTo pos (starEach [.Name tn p2] X.env)).any (·.1) = false := by rfl) (hK : X.K = K := by rfl) :
    QE X ρ (.Call (.Name "isinstance" p) [a, .Name tn p2] [] pos) (tIsi K T ta) (aUn (aIsi T) aa) := by
  subst hK
  refine ⟨pe_callB call_isi hg hm (by decide +kernel) (pa_cons ha.pe (pa_cons (pe_bltn hg2 hm2 hv rfl hn hdb) pa_nil rfl) na) (by decide) (by decide) na hpl, ?_⟩
  intro B σ H G Γ M Q R k h q
  refine ha.rd B σ H G Γ M _ _ k h fun v H1 G1 Γ1 M1 r k1 e1 rr h1 => ?_
  unfold aIsi at h1
  split at h1
  · rename_i d hd
    obtain ⟨ty, nr⟩ := kdOf_ok k1 rr hd
    refine ⟨v, .ty T.nm, .type (tyN d), .type T.nm, isD T d, rfl, .ty _, ty, kit_ty (kit_isD T d nr), q _ H1 G1 Γ1 M1 (.dat (.bl _)) k1 e1 (by simp only [RepR, Rep]) h1⟩
  · exact h1.elim
def aInT (f : Bool → Bool) (x : Ret) (y : Ret) (Γ : Sl) (M : Mem) (Q : Ret → Sl → Mem → Prop) : Prop := match dOf x Γ M, dOf y Γ M with
  | some d, some e => match e with
    | .tup ds => cmpOk d = true ∧ cmpOk (.lst ds) = true ∧ Q (.dat (.bl (f (inD d ds)))) Γ M
    | .lst ds => cmpOk d = true ∧ cmpOk (.lst ds) = true ∧ Q (.dat (.bl (f (inD d ds)))) Γ M
    | _ => False
  | _, _ => False
def aRevL (r : Ret) (Γ : Sl) (M : Mem) (Q : Ret → Sl → Mem → Prop) : Prop := match sqOf r Γ M with
  | some (.lst ds) => Q (.tmp (.lst ds.reverse)) Γ M
  | some (.scr ds) => Q (.tmp (.lst ds.reverse)) Γ M
  | _ => False
def aMaxI (lt : Int → Int → Prop) (r : Ret) (Γ : Sl) (M : Mem) (Q : Ret → Sl → Mem → Prop) : Prop := match sqOf r Γ M with
  | some (.lst ds) => match intsOf ds with
    | some ns => 0 < ns.length ∧ ∀ m, m ∈ ns → (∀ y, y ∈ ns → lt y m) → Q (.dat (.int m)) Γ M
    | none => False
  | _ => False
theorem unp_starT {prog : Program} {w : World} {A : Around} {E : Value → Shared → Prop} {s : Shared} {l : Addr} {items : Array Value} {n i : Nat} {Q : List Value → Shared → Prop} (hl : PyProof.Rows.IsTup s.heap l items) (hh : A.handled = none) (hi : i < n) (hn : n ≤ items.size + 1) (hz : items.size ≤ 16384)
    (h : ∀ h' tk, (∀ b o, s.heap.get? b = some o → h'.get? b = some o) → wpAny (model prog w) A (newList ((items.toList.drop i).take (items.size + 1 - n)) >>= fun d => pure (items.toList.take i ++ [d] ++ (items.toList.drop i).drop (items.size + 1 - n))) Q E { s with heap := h', toks := tk }) : wpAny (model prog w) A (unpackItems (.ref l) n (some i)) Q E s := by
  have hlt : l ≠ s.heap.objs.size := by obtain ⟨o, ho, _⟩ := hl; exact Nat.ne_of_lt (Heap.lt_size ho)
  unfold unpackItems
  refine wpAny_bind ?_
  unfold notIterableAtAll
  refine wpAny_bind (wpAny_specialOf hl.typeIs PyProof.Rows.slot_tuple_iter.lookup ?_)
  refine wpAny_pure ?_
  simp only [Bool.false_eq_true, if_false]
  refine wpAny_bind (wpAny_holding (PyProof.Rows.iter_tuple hl ?_))
  refine wpAny_bind (wpAny_holding (PyProof.Rows.draw_tuple hlt i 0 _ _ ⟨_, Heap.get?_push_size _ rfl, rfl, rfl⟩ (hl.push _) (by omega) fun h₁ hit₁ hs₁ => ?_))
  have hl₁ : PyProof.Rows.IsTup h₁ l items := (hl.push _).extBut hs₁.extBut hlt
  rw [Nat.zero_add] at hit₁
  have hit₁' := hit₁
  obtain ⟨oi, hoi, _⟩ := hit₁'
  have hl₁' := hl₁
  obtain ⟨ol, hol, _⟩ := hl₁'
  rw [List.drop_zero]
  have hfl : (items.toList.take i).length = i := by rw [List.length_take, Array.length_toList]; omega
  rw [if_neg (show ¬ ((items.toList.take i).length < i) by rw [hfl]; omega)]
  refine wpAny_bind (wpAny_holding (PySem.W.kun_collect (s := { s with heap := h₁ }) (T := "tuple_iterator") (.inr (.inr (.inr rfl))) (Walks.tuple (A := A.in1) hh s.heap.objs.size l hlt items) (fun j u st => st.1.typeIs) (k := i) (by omega) ⟨hit₁, hl₁⟩ (Heap.lt_size hoi) (Heap.lt_size hol) (fun h₂ tk hk => ?_) (by rw [sizeLine_eq]; omega)))
  have hrl : (items.toList.drop i).length = items.size - i := by rw [List.length_drop, Array.length_toList]
  have hmid : (items.toList.drop i).length - (n - 1 - i) = items.size + 1 - n := by rw [hrl]; omega
  show wpAny _ _ (if (items.toList.drop i).length < n - 1 - i then _ else _) _ _ _
  rw [if_neg (by rw [hrl]; omega)]
  show wpAny _ _ (newList ((items.toList.drop i).take ((items.toList.drop i).length - (n - 1 - i))) >>= fun d => pure (items.toList.take i ++ [d] ++ (items.toList.drop i).drop ((items.toList.drop i).length - (n - 1 - i)))) _ _ _
  rw [hmid]
  exact h h₂ tk fun b o e => hk b o (Nat.ne_of_lt (Heap.lt_size e)) (hs₁.extBut b o (Nat.ne_of_lt (Heap.lt_size e)) (Heap.get?_push_of_some _ e))
def gStar (K : PySem.W.Frag) (n i : Nat) (t : TGs) : TG := fun v σ H Q => ∃ a xs, v = .ref a ∧ SqT K H a xs ∧ n ≤ xs.length + 1 ∧ xs.length ≤ 16384 ∧
  ∀ p, H p = none → t (xs.take i ++ [.ref p] ++ (xs.drop i).drop (xs.length + 1 - n)) σ (upd H p (.lst ((xs.drop i).take (xs.length + 1 - n)))) Q
theorem vals_take {vs : List V} {us : List Value} (n : Nat) (h : Vals vs us) : Vals (vs.take n) (us.take n) := by
  induction h generalizing n with
  | nil => simp; exact .nil
  | cons r _ ih => cases n with
    | zero => exact .nil
    | succ n => exact .cons r (ih n)
theorem vals_drop {vs : List V} {us : List Value} (n : Nat) (h : Vals vs us) : Vals (vs.drop n) (us.drop n) := by
  induction h generalizing n with
  | nil => simp; exact .nil
  | cons r t ih => cases n with
    | zero => exact .cons r t
    | succ n => exact ih n
theorem vals_app {vs ws : List V} {us xs : List Value} (h : Vals vs us) (h' : Vals ws xs) : Vals (vs ++ ws) (us ++ xs) := by
  induction h with
  | nil => exact h'
  | cons r _ ih => exact .cons r ih
theorem pg_star {es : List Expr} {k n i : Nat} {t : TGs} (hc : X.calm = true) (h : PGs X es t) (hi : i < n) (hn : (assignEach es X.env).length = n) (hst : (assignEach es X.env).findIdx? (·.1) = some i) : PG X (.Tuple es k pos) (gStar X.K n i t) := by
  refine ⟨fun pins s σ H v u Q I r hw => ?_⟩
  obtain ⟨a, xs, e1, hq, hl, hz', hw⟩ := hw
  subst e1
  cases r
  obtain ⟨its, rv, ht, hz⟩ := I.tuple hq
  have hlen : its.toArray.size = xs.length := by simp [rv.length]
  rw [PyProof.Rows.assign_Tuple]
  refine wpAny_bind (wpAny_standAt ?_)
  unfold unpack
  rw [hn, hst]
  refine wpAny_bind (wpAny_holding (unp_starT ht (I.ok.hd hc) hi (by omega) (by omega) fun h' tk hk => ?_))
  have I1 : Inv X pins σ H { s with heap := h', toks := tk } := I.kept (t' := tk) hk
  unfold newList
  refine wpAny_bind (wpAny_newObj_type (wpAny_pure ?_) (by show (List.take _ _).toArray.size ≤ sizeLine; rw [List.size_toArray, List.length_take, List.length_drop, sizeLine_eq]; simp only [List.length_drop] at *; omega))
  have hf : H h'.objs.size = none := I1.hok.fresh (Nat.le_refl _)
  have I2 := I1.laid (a := h'.objs.size) (o := .lst ((xs.drop i).take (xs.length + 1 - n))) (t' := tk) (h' := h'.push { cls := .type "list", data := .seq ((its.toArray.toList.drop i).take (its.toArray.size + 1 - n)).toArray }) (fun b u e => Heap.get?_push_of_some _ e) (Nat.le_refl _)
    ⟨by rw [List.length_take, List.length_drop, sizeLine_eq]; omega, _, 0, by rw [hlen]; simpa using vals_take _ (vals_drop i rv), Heap.get?_push_size _ rfl⟩
  refine h.run pins _ σ _ _ _ Q I2 ?_ (hw _ hf)
  rw [hlen]
  exact vals_app (vals_app (by simpa using vals_take i rv) (.cons rfl .nil)) (by simpa using vals_drop _ (vals_drop i rv))
theorem pgs_starred {es : List Expr} {t : TG} {u : TGs} {sp : Pos} (h1 : PG X e t) (h2 : PGs X es u)
    (hs : (assignEach (.Starred e sp :: es) X.env).map (·.2) = assign e X.env :: (assignEach es X.env).map (·.2) := by rfl) : PGs X (.Starred e sp :: es) (gCons t u) := by
  refine ⟨fun pins s σ H vs us Q I r h => ?_⟩
  obtain ⟨v, vr, e1, h⟩ := h
  subst e1
  cases r with
  | cons r rr =>
    rw [hs]
    refine PyProof.Rows.assignInOrder_cons (thn (h1.run pins s σ H _ _ _ I r h) fun _ s1 ⟨σ1, H1, I1, q1⟩ => ?_)
    exact h2.run pins s1 σ1 H1 _ _ Q I1 rr q1
theorem qgs_starred {es : List Expr} {t : TG} {u : TGs} {g : AG} {ag : AGs} {is js : List Nat} {sp : Pos} (h1 : QG X ρ e t g is) (h2 : QGs X ρ es u ag js)
    (hs : (assignEach (.Starred e sp :: es) X.env).map (·.2) = assign e X.env :: (assignEach es X.env).map (·.2) := by rfl) : QGs X ρ (.Starred e sp :: es) (gCons t u) (agCons g ag) (is ++ js) := ⟨pgs_starred h1.pe h2.pe hs, rd_gCons h1.rd h2.rd⟩
def aUnpS (n i : Nat) (aa : AE) (u : AGs) (A : AEnds) (Γ : Sl) (M : Mem) : Prop := aa Γ M fun r Γ1 M1 => frz r Γ1 fun d Γ2 => match d with
  | .tup ds => n ≤ ds.length + 1 ∧ ds.length ≤ 16384 ∧ u (ds.take i ++ [.lst ((ds.drop i).take (ds.length + 1 - n))] ++ (ds.drop i).drop (ds.length + 1 - n)) Γ2 fun Γ3 => A.nx Γ3 M1
  | _ => False
theorem qs_unpS (n i : Nat) {es : List Expr} {kk : Nat} {tpos : Pos} {t : TGs} {u : AGs} {is : List Nat} (h : QE X ρ a ta aa) (hg : QGs X ρ es t u is) (hc : X.calm = true := by rfl) (hi : i < n := by decide) (hn : (assignEach es X.env).length = n := by rfl) (hst : (assignEach es X.env).findIdx? (·.1) = some i := by rfl)
    (hs : swapsWithSole [.Tuple es kk tpos] a pos.line X.env = pure false := by rfl) (hw : swappedStores [.Tuple es kk tpos] a X.env = pure none := by rfl) (h1 : (assignEach [.Tuple es kk tpos] X.env).map (·.2) = [assign (.Tuple es kk tpos) X.env] := by rfl) (hK : X.K = K := by rfl) :
    QS X ρ (.Assign [.Tuple es kk tpos] a pos) (tAsg ta (gStar K n i t)) (aUnpS n i aa u) := by
  subst hK
  refine ⟨ps_asg h.pe (pg_star hc hg.pe hi hn hst) hs hw h1, fun B σ H G Γ M A E k hh s => h.rd B σ H G Γ M _ _ k hh fun v H1 G1 Γ1 M1 r k1 e1 rr h1 => ?_⟩
  obtain ⟨G2, Γ2, d, k2, e2, rp, h2⟩ := frz_ok (H0 := H) k1 e1 rr h1
  split at h2
  · rename_i ds
    obtain ⟨n1, n2, h2⟩ := h2
    obtain ⟨p, xs, rfl, hx, rl⟩ := rep_tup rp
    have hl := rl.length
    rw [← hl] at h2 n1 n2
    refine ⟨p, xs, rfl, ex_t k2.ex hx, by omega, by omega, fun q hq => ?_⟩
    obtain ⟨k3, e3⟩ := k2.new (o := .lst ((xs.drop i).take (xs.length + 1 - n))) hq
    have rl3 := rl.mono e3.g
    refine hg.rd B σ _ _ Γ2 M1 _ _ _ _ k3 ?_ h2 fun σ' Γ' k4 _ _ z => s.nx σ' _ _ Γ' M1 k4 z
    exact RepL.append (RepL.append (rl3.take i) (RepL.one (rep_lst.mpr ⟨q, _, rfl, upd_same, (rl3.drop i).take _⟩))) ((rl3.drop i).drop _)
  · exact h2.elim
end
end Gw

namespace Gw
open PySem L2
variable {ρ : Ent}
theorem lcMap {g : AG} {ae : AE} {vs : List Nat} {k : List D → Sl → Mem → Prop} (f : D → D) {Γ : Sl} {M : Mem} : ∀ (ds acc : List D), acc.length + ds.length ≤ 16777216 →
    (∀ d ∈ ds, ∀ P : D → Sl → Mem → Prop, P (f d) Γ M → g d Γ fun Γ1 => ae Γ1 M fun r Γ3 M3 => frz r Γ3 fun y Γ4 => P y (wipeS Γ4 vs) M3) → k (acc ++ ds.map f) Γ M → aLcL g aYes ae vs k ds acc Γ M
  | [], acc, _, _, h => by simpa [aLcL] using h
  | d :: ds, acc, hl, hs, h => by
    unfold aLcL
    simp only [aYes, if_true]
    refine hs d List.mem_cons_self (fun y Γ' M' => acc.length < sizeLine ∧ aLcL g aYes ae vs k ds (acc ++ [y]) Γ' M') ⟨by rw [size_val]; simp at hl; omega, ?_⟩
    refine lcMap f ds (acc ++ [f d]) (by simp at hl ⊢; omega) (fun e he => hs e (List.mem_cons_of_mem _ he)) ?_
    simpa using h
theorem aEq_ii {f : Bool → Bool} {i j : Int} {Γ : Sl} {M : Mem} {Q : Ret → Sl → Mem → Prop} : aEq f (.dat (.int i)) (.dat (.int j)) Γ M Q = Q (.dat (.bl (f (decide (i = j))))) Γ M := by
  unfold aEq
  simp only [dOf, cmp_int, eqD_int, true_and]
structure WitR (Q : Ret → Sl → Mem → Prop) : Type where
def hold (F : (Ret → Sl → Mem → Prop) → Prop) (Q : Ret → Sl → Mem → Prop) (_ : WitR Q) : Prop := F Q
theorem aEq_w {f : Bool → Bool} {x y : Ret} {Γ : Sl} {M : Mem} {Q : Ret → Sl → Mem → Prop} : aEq f x y Γ M Q = hold (aEq f x y Γ M) Q ⟨⟩ := by simp only [hold]
theorem aInT_w {f : Bool → Bool} {x y : Ret} {Γ : Sl} {M : Mem} {Q : Ret → Sl → Mem → Prop} : aInT f x y Γ M Q = hold (aInT f x y Γ M) Q ⟨⟩ := by simp only [hold]
theorem aRepr_w {x : Ret} {Γ : Sl} {M : Mem} {Q : Ret → Sl → Mem → Prop} : aRepr x Γ M Q = hold (aRepr x Γ M) Q ⟨⟩ := by simp only [hold]
theorem aIsi_w {T : Knd} {x : Ret} {Γ : Sl} {M : Mem} {Q : Ret → Sl → Mem → Prop} : aIsi T x Γ M Q = hold (aIsi T x Γ M) Q ⟨⟩ := by simp only [hold]
theorem hold_ii {f : Bool → Bool} {i j : Int} {Γ : Sl} {M : Mem} {Q : Ret → Sl → Mem → Prop} : hold (aEq f (.dat (.int i)) (.dat (.int j)) Γ M) Q ⟨⟩ = Q (.dat (.bl (f (decide (i = j))))) Γ M := by simp only [hold, aEq_ii]
theorem hold_bb {f : Bool → Bool} {i j : Bool} {Γ : Sl} {M : Mem} {Q : Ret → Sl → Mem → Prop} : hold (aEq f (.dat (.bl i)) (.dat (.bl j)) Γ M) Q ⟨⟩ = Q (.dat (.bl (f (decide (i = j))))) Γ M := by
  show aEq f (.dat (.bl i)) (.dat (.bl j)) Γ M Q = _
  unfold aEq
  have c : ∀ b : Bool, cmpOk (.bl b) = true := fun b => cmp_of (by simp [safe]) (by simp [dep])
  simp only [dOf, c, true_and]
  cases i <;> cases j <;> rfl
end Gw

namespace Gw
open PySem L2
variable {ρ : Ent}
def e_aAbs := @aAbs.eq_def
def e_aAllB := @aAllB.eq_def
def e_aAnd := @aAnd.eq_def
def e_aAndV := @aAndV.eq_def
def e_aAsg := @aAsg.eq_def
def e_aAsgF := @aAsgF.eq_def
def e_aAugC := @aAugC.eq_def
def e_aAugI := @aAugI.eq_def
def e_aAugL := @aAugL.eq_def
def e_aAugX := @aAugX.eq_def
def e_aBrk := @aBrk.eq_def
def e_aC := @aC.eq_def
def e_aCall := @aCall.eq_def
def e_aCall1 := @aCall1.eq_def
def e_aCall2 := @aCall2.eq_def
def e_aCallP := @aCallP.eq_def
def e_aCat := @aCat.eq_def
def e_aCatT := @aCatT.eq_def
def e_aChain := @aChain.eq_def
def e_aChainN := @aChainN.eq_def
def e_aCnt := @aCnt.eq_def
def e_aCons := @aCons.eq_def
def e_aDGet := @aDGet.eq_def
def e_aDGet2 := @aDGet2.eq_def
def e_aDIn := @aDIn.eq_def
def e_aDNew := @aDNew.eq_def
def e_aDPut := @aDPut.eq_def
def e_aDictEnum := @aDictEnum.eq_def
def e_aDictP := @aDictP.eq_def
def e_aDisp := @aDisp.eq_def
def e_aDrop := @aDrop.eq_def
def e_aEq := @aEq.eq_def
def e_aEqS := @aEqS.eq_def
def e_aFor := @aFor.eq_def
def e_aI0 := @aI0.eq_def
def e_aI3 := @aI3.eq_def
def e_aIC := @aIC.eq_def
def e_aIItems := @aIItems.eq_def
def e_aISeq := @aISeq.eq_def
def e_aITup := @aITup.eq_def
def e_aIenum := @aIenum.eq_def
def e_aIfE := @aIfE.eq_def
def e_aIfS := @aIfS.eq_def
def e_aIn := @aIn.eq_def
def e_aInT := @aInT.eq_def
def e_aInt := @aInt.eq_def
def e_aIrev := @aIrev.eq_def
def e_aIsN := @aIsN.eq_def
def e_aIsi := @aIsi.eq_def
def e_aIx := @aIx.eq_def
def e_aIzip := @aIzip.eq_def
def e_aLItems := @aLItems.eq_def
def e_aLast := @aLast.eq_def
def e_aLc := @aLc.eq_def
def e_aLen := @aLen.eq_def
def e_aLink := @aLink.eq_def
def e_aList := @aList.eq_def
def e_aLk := @aLk.eq_def
def e_aLst := @aLst.eq_def
def e_aMaxI := @aMaxI.eq_def
def e_aMeth := @aMeth.eq_def
def e_aMeth0 := @aMeth0.eq_def
def e_aNeg := @aNeg.eq_def
def e_aNext := @aNext.eq_def
def e_aNil := @aNil.eq_def
def e_aNot := @aNot.eq_def
def e_aNotV := @aNotV.eq_def
def e_aON := @aON.eq_def
def e_aOS := @aOS.eq_def
def e_aOp := @aOp.eq_def
def e_aOr := @aOr.eq_def
def e_aOrV := @aOrV.eq_def
def e_aPar := @aPar.eq_def
def e_aPar3 := @aPar3.eq_def
def e_aParO := @aParO.eq_def
def e_aRep := @aRep.eq_def
def e_aRepr := @aRepr.eq_def
def e_aRet := @aRet.eq_def
def e_aRevL := @aRevL.eq_def
def e_aRng1 := @aRng1.eq_def
def e_aRng2 := @aRng2.eq_def
def e_aSeq := @aSeq.eq_def
def e_aSetI := @aSetI.eq_def
def e_aSh := @aSh.eq_def
def e_aShV := @aShV.eq_def
def e_aSl := @aSl.eq_def
def e_aSortI := @aSortI.eq_def
def e_aTst := @aTst.eq_def
def e_aTup := @aTup.eq_def
def e_aTuple := @aTuple.eq_def
def e_aUn := @aUn.eq_def
def e_aUnp := @aUnp.eq_def
def e_aUnpS := @aUnpS.eq_def
def e_aVar := @aVar.eq_def
def e_aYes := @aYes.eq_def
def e_agCons := @agCons.eq_def
def e_agN := @agN.eq_def
def e_agNil := @agNil.eq_def
def e_agT := @agT.eq_def
def e_agTL := @agTL.eq_def
def e_amApp := @amApp.eq_def
def e_amExt := @amExt.eq_def
def e_amIns := @amIns.eq_def
def e_amPop := @amPop.eq_def
def e_amPopAt := @amPopAt.eq_def
def e_apCons := @apCons.eq_def
def e_apNil := @apNil.eq_def
def e_cget := @cget.eq_def
def e_cput := @cput.eq_def
def e_dOf := @dOf.eq_def
def e_dctOf := @dctOf.eq_def
def e_frz := @frz.eq_def
def e_kdOf := @kdOf.eq_def
def e_lget := @lget.eq_def
def e_lput := @lput.eq_def
def e_sqOf := @sqOf.eq_def
end Gw

namespace Gw
open PySem L2
variable {ρ : Ent}
section
variable {X : Cx} {a b c e : Expr} {ta tb tc te : TE} {aa ab ac ae : AE} {pos : Pos} {K : PySem.W.Frag} {B : Ent} {σ : St} {H G H1 G1 H2 G2 H0 : Hp} {Γ Γ1 Γ2 : Sl} {M M1 M2 : Mem}
def aReprX (r : Ret) (Γ : Sl) (M : Mem) (Q : Ret → Sl → Mem → Prop) : Prop := match r with
  | .dat (.dct [] []) => Q (.dat (.str "{}")) Γ M
  | r => aRepr r Γ M Q
theorem aReprX_w {x : Ret} {Γ : Sl} {M : Mem} {Q : Ret → Sl → Mem → Prop} : aReprX x Γ M Q = hold (aReprX x Γ M) Q ⟨⟩ := by simp only [hold]
end
end Gw

namespace Gw
open PySem L2
variable {ρ : Ent}
open PySem.W (EachIs AllAlike Sortable dataLe dataLt alike alikeAll)
section
variable {X : Cx} {a b c e : Expr} {ta tb tc te : TE} {aa ab ac ae : AE} {pos : Pos} {K : PySem.W.Frag} {B : Ent} {σ : St} {H G H1 G1 H2 G2 H0 : Hp} {Γ Γ1 Γ2 : Sl} {M M1 M2 : Mem}
def leD (d e : D) : Bool := !dataLt (toPy e) (toPy d)
def sortD (ds : List D) : List D := ds.mergeSort leD
def aSortD (r : Ret) (Γ : Sl) (M : Mem) (Q : Ret → Sl → Mem → Prop) : Prop := match sqOf r Γ M with
  | some (.lst ds) => (∀ d ∈ ds, plain d = true ∧ dep d ≤ 64) ∧ AllAlike (ds.map toPy) ∧ Sortable (ds.map toPy) ∧ Q (.tmp (.lst (sortD ds))) Γ M
  | _ => False
theorem aSortD_w {x : Ret} {Γ : Sl} {M : Mem} {Q : Ret → Sl → Mem → Prop} : aSortD x Γ M Q = hold (aSortD x Γ M) Q ⟨⟩ := by simp only [hold]
end
end Gw

namespace Gw
open PySem L2 PyProof.Rows
variable {ρ : Ent}
structure Xc where
  cn : Str
  ns : List Str
  ds : List D
def Xc.d (x : Xc) : D := .exc x.cn x.ns x.ds
def RepX (K : PySem.W.Frag) (G : Hp) (x : Xc) (cls : Value) (d : Option Addr) : Prop :=
  ∃ C ws, cls = .ref C ∧ PySem.W.nsIn K mainGlobals x.cn = some (some (.ref C)) ∧ XD G d ws ∧ ws.map (·.1) = x.ns ∧ RepL K G x.ds (ws.map (·.2))
theorem RepX.mono {K : PySem.W.Frag} {G G' : Hp} {x : Xc} {cls : Value} {d : Option Addr} (e : Ex G G') (h : RepX K G x cls d) : RepX K G' x cls d := by
  obtain ⟨C, ws, h1, h2, h3, h4, h5⟩ := h
  exact ⟨C, ws, h1, h2, h3.mono e, h4, h5.mono e⟩
abbrev XW := Xc → Sl → Mem → Prop
abbrev ASx := List D → Mem → (Ret → Mem → Prop) → (Xc → Mem → Prop) → Prop
def Conn (K : PySem.W.Frag) (ρ : Ent) (W : WX) (w : XW) : Prop :=
  ∀ B σ H G Γ M x cls d, Ok K ρ B σ H G Γ M → RepX K G x cls d → w x Γ M → W cls d σ H
def spX (K : PySem.W.Frag) (n : Nat) (S : ASx) : Sp := fun vs H Q E => ∃ G M ds, vs.length = n ∧ Ex G H ∧ (dom M).Nodup ∧ (∀ a c, (a, c) ∈ M → Cel K H G a c) ∧ RepL K G ds vs ∧
  ∃ (Qa : Ret → Mem → Prop) (Xa : Xc → Mem → Prop), S ds M Qa Xa ∧ (∀ r M' v H' G', Qa r M' → Post K H G M H' G' M' → RetOk K H H' G' M' r v → Q v H') ∧
    ∀ x M' cls d H' G', Xa x M' → Post K H G M H' G' M' → RepX K G' x cls d → E cls d H'
structure WitX (Q : Ret → Mem → Prop) (Z : Xc → Mem → Prop) : Type where
def apX (S : ASx) (ds : List D) (M : Mem) (Q : Ret → Mem → Prop) (Z : Xc → Mem → Prop) (_ : WitX Q Z) : Prop := S ds M Q Z
def aCallX (w : XW) (S : ASx) (aa : AA) (Γ : Sl) (M : Mem) (Q : Ret → Sl → Mem → Prop) : Prop := aa Γ M fun ds Γ1 M1 => apX S ds M1 (fun r M2 => Q r Γ1 M2) (fun x M2 => w x Γ1 M2) ⟨⟩
def ArX (n : Nat) (S : ASx) : Prop := ∀ ds M Q Z, S ds M Q Z → ds.length = n
section
variable {X : Cx} {K : PySem.W.Frag} {B : Ent} {σ : L2.St} {H G H1 G1 H2 G2 : Hp} {Γ Γ1 Γ2 : Sl} {M M1 M2 : Mem}
theorem rd_callX {n : Nat} {S : ASx} {W : WX} {w : XW} {tr : TA} {ar : AA} (hn : ArX n S) (cn : Conn K ρ W w) (ha : RdA K ρ tr ar) : RdE K ρ (tCallS (spX K n S) (WE W) tr) (aCallX w S ar) := by
  intro B σ H G Γ M Q R k h q
  refine ha B σ H G Γ M _ _ k h fun vs H1 G1 Γ1 M1 ds k1 e1 rl h1 => ?_
  refine ⟨G1, M1, ds, by rw [rl.length]; exact hn _ _ _ _ h1, k1.ex, k1.nd, k1.ms, rl, _, _, h1, fun r M' v H' G' hq p rr => ?_, fun x M' cls d H' G' hq p rx => ?_⟩
  · obtain ⟨k2, e2, r2⟩ := k1.call p rr
    exact q _ H' G' Γ1 M' r k2 (e1.trans e2) (r2.old e1.nn) hq
  · obtain ⟨k2, e2, r2⟩ := k1.call (r := .dat .non) (v := .non) p (by simp only [RetOk, Rep])
    exact cn B σ H' G' Γ1 M' x cls d k2 rx hq
section
variable {k : Nat} {f : Addr} {fd : FuncData} {ps : List Str} {S : ASx} {x : Str} {p pos : Pos} {a : Expr} {es : List Expr} {tr : TA} {ar : AA} {W : WX} {w : XW}
theorem pe_callX {CX : CXT} {sp : Sp} {E : L2.St → XK} (F : FnG X.prog X.w X.K X.mg X.base CX k f fd ps sp) (room : Room k X.A) (gd : X.A.guards = some []) (hg : Gl X x) (hm : X.mg x = some (.ref f)) (hk : PySem.W.keepIn X.K (.ref f) = true) (hb : Binds X.K fd ps []) (hx : ∀ σ, PassesAt CX X σ (E σ))
    (ha : PA X (a :: es) tr) (hdb : (x == ("__debug__" : Str)) = false) (he : starEach (a :: es) X.env = (false, eval a X.env) :: starEach es X.env) (hpl : (backTo pos (starEach es X.env)).any (·.1) = false) :
    PE X (.Call (.Name x p) (a :: es) [] pos) (tCallS sp E tr) := by
  refine ⟨fun pins s σ H Q I h => wpAny_Call_Name_kw (ld_glob I hg hm ?_ hdb)⟩
  refine PySem.W.callWith_K (h₀ := X.base) I.ok.mod.kin hk (thn (ha.run pos pins s σ H _ I h) ?_) he hpl
  rintro us s1 ⟨vs, H1, I1, r, q⟩
  have hl : us.length = ps.length := by rw [← r.length]; exact F.arity _ _ _ _ q
  have b := hb s1 us I1.kIn (by rw [List.append_nil]; exact hl)
  rw [List.append_nil] at b
  refine ⟨I1.kIn, wpAny_call (codeAny_mono (F.go X.A X.stack s1 H1 ⟨us, []⟩ us vs Q (E σ) room gd I1.env0 b r q) fun res s' hq => ?_)⟩
  exact match res, hq with
    | .ok (.ret u), hq => I1.after hq
    | .ok .next, hq => hq.elim
    | .ok .brk, hq => hq.elim
    | .ok .cont, hq => hq.elim
    | .error e, hq => hx σ pins H1 s1 e s' I1 hq
theorem q_callX (F : FnG X.prog X.w X.K X.mg X.base (L2.CX X.prog X.w) k f fd ps (spX X.K n S)) (hr : Room k X.A) (gd : X.A.guards = some []) (hm : X.mg x = some (.ref f)) (hk : PySem.W.keepIn X.K (.ref f) = true) (hb : Binds X.K fd ps []) (hn : ArX n S)
    (tk : Takes X W) (cn : Conn X.K ρ W w) (ha : QA X ρ (a :: es) tr ar) (hg : Gl X x := by rfl) (hdb : (x == ("__debug__" : Str)) = false := by decide) (he : starEach (a :: es) X.env = (false, eval a X.env) :: starEach es X.env := by rfl) (hpl : (backTo pos (starEach es X.env)).any (·.1) = false := by rfl) :
    QE X ρ (.Call (.Name x p) (a :: es) [] pos) (tCallS (spX X.K n S) (WE W) tr) (aCallX w S ar) := ⟨pe_callX F hr gd hg hm hk hb (passAt tk) ha.pe hdb he hpl, rd_callX hn cn ha.rd⟩
end
end
theorem Ok.base {K : PySem.W.Frag} {B : Ent} {σ : L2.St} {H G : Hp} {Γ : Sl} {M : Mem} (k : Ok K ρ B σ H G Γ M) : Ok K ρ ρ σ H G Γ M := by
  obtain ⟨PH, PG, PA⟩ := ρ
  obtain ⟨BH, BG, BA⟩ := B
  obtain ⟨h1, h2, h3, h4⟩ := id k.pb
  dsimp only at h1 h2 h3 h4
  subst h1 h2
  exact (Ok.back (B := ⟨BH, PG, BA⟩) (Refi.refl _) k h3 h4).1
section
variable {P : Program} {w : World} {K : PySem.W.Frag} {mg : Str → Option Value} {base : Heap}
theorem takes_cx {N : List Str} {qual : Str} {scope : Scope} {f : Addr} {cd : Value} {A : Around} {outer : List Env} {s : Shared} {H : Hp} {E : XK} :
    Takes (cxOf (L2.CX P w) P w K mg base N qual scope f cd A outer s H E) (fun cls d _ H => E cls d H) := takes_of rfl rfl rfl rfl
theorem fn_okX {k : Nat} {x qual : Str} {st : Stmt} {f : Addr} {fd : FuncData} {N ps : List Str} {S : ASx} (F : Fun K x qual st f fd) (sc : FnScope N ps (defScope st)) (hn : ArX ps.length S) {as : XW → AS}
    (hb : ∀ (ρ : Ent) (cd : Value) (A : Around) (outer : List Env) (s : Shared) (H : Hp) (E : XK) (xw : XW), Room k (A.deeper (envOfC qual (defScope st) s.heap.objs.size f cd)) → A.guards = some [] → Conn K ρ (fun cls d _ H => E cls d H) xw →
      ∃ ts, QSs (cxOf (L2.CX P w) P w K mg base N qual (defScope st) f cd A outer s H E) ρ (defBody st) ts (as xw))
    (hr : ∀ ds M Q Z, S ds M Q Z → as (fun x _ M => Z x M) (endsOf Q) (slots N.length ds) M) : FnG P w K mg base (L2.CX P w) (k + 1) f fd ps (spX K ps.length S) := by
  refine fnG_of F sc (fun vs H Q E h => ?_) fun cd A outer s H vs Q E room gd h => ?_
  · obtain ⟨G, M, ds, hl, _⟩ := h; exact hl
  · obtain ⟨G, M, ds, hl, ex, nd, ms, rl, Qa, Xa, hS, fin, finX⟩ := h
    have cn : Conn K ⟨H, G, dom M⟩ (fun cls d _ H => E cls d H) (fun x _ M => Xa x M) := fun B σ H' G' Γ' M' x cls d k' rx hx => by
      have k2 := k'.base
      exact finX x M' cls d H' G' hx ⟨k2.st, k2.ex, k2.nd, k2.ms⟩ rx
    obtain ⟨ts, q⟩ := hb ⟨H, G, dom M⟩ cd A outer s H E _ room gd cn
    refine ⟨ts, q.pe, q.rd ⟨H, G, dom M⟩ (L2.start N vs) H G (slots N.length ds) M (endsOf Qa) _ (ok_start ex nd ms rl) (hr ds M Qa Xa hS) ⟨fun σ H' G' Γ' M' k' z => ?_, fun σ H0 H' G' Γ' M' r v k' rr z => ?_, fun _ _ _ _ _ _ z => z.elim, fun _ _ _ _ _ _ z => z.elim⟩⟩
    · exact fin (.dat .non) M' .non H' G' z ⟨k'.st, k'.ex, k'.nd, k'.ms⟩ (by simp only [RetOk, Rep])
    · have post : Post K H G M H' G' M' := ⟨k'.st, k'.ex, k'.nd, k'.ms⟩
      cases r with
      | dat d => exact fin (.dat d) M' v H' G' z post rr
      | tmp c =>
        obtain ⟨p, e, _, hb, hc, hm, _⟩ := rr
        exact fin (.tmp c) M' v H' G' z post ⟨p, e, hb, hc, hm⟩
      | var i =>
        simp only [endsOf, ret] at z
        split at z
        · rename_i c e1
          obtain ⟨p, s1, hb, hm, hc⟩ := k'.own i c e1
          have : v = .ref p := by have := (show (_ : L2.St)[i]? = some (some v) from rr); rw [s1] at this; cases this; rfl
          exact fin (.tmp c) M' v H' G' z post ⟨p, this, hb, hc, hm⟩
        · rename_i d e1
          obtain ⟨v', h1, h2⟩ := k'.dat i d e1
          have : v' = v := by have := (show (_ : L2.St)[i]? = some (some v) from rr); rw [h1] at this; cases this; rfl
          subst this
          exact fin (.dat d) M' _ H' G' z post h2
        · exact z.elim
end
end Gw

namespace Gw
open PySem PySem.Spec L2 PyProof.Rows
theorem fly_keeps {base : Heap} {l : List Env} {e : Addr} {Z : Obj → Prop} {h h' : Heap} (fl : HandSPX.FlyingZ base l e Z h) (k : ∀ b o, h.get? b = some o → h'.get? b = some o) : HandSPX.FlyingZ base l e Z h' := by
  obtain ⟨k1, k2, k3, oe, vs, T, oT, ts, he, hz, hd, h1, hnT, hTe, hT, hdT, h3⟩ := fl
  exact ⟨fun b o q => k b o (k1 b o q), k2, Heap.FunFrames.of_keeps (fun b o e _ => ⟨o, k b o e, rfl⟩) k3, oe, vs, T, oT, ts, k _ _ he, hz, hd, h1, hnT, hTe, k _ _ hT, hdT, h3⟩
abbrev hnd (X : Cx) (a : Addr) : Cx := { X with A := X.A.mark (some (.ref a)), calm := false, xe := fun _ _ => False }
theorem xob_ok {P : Program} {w : World} {H : Hp} {h : Heap} {a C : Addr} {d : Option Addr} {oe : Obj} {vs : Array Value} (e : h.get? a = some oe) (z : Zc (.ref C) d oe) (f : oe.data = .fields vs) : ObjOk P w H h a (xob a C d) :=
  ⟨⟨oe, vs, e, z, f⟩, ⟨oe, e⟩, fun _ _ ⟨o, v, q, r⟩ k => ⟨o, v, k o q, r⟩⟩
section
variable {X : Cx} {pins : List (Addr × Obj)} {σ : L2.St} {H : Hp} {s : Shared}
theorem hnd_ok (ok : X.Ok) (a : Addr) : (hnd X a).Ok :=
  ⟨ok.mod, ok.kind, ok.glob, ok.blt, ok.above, ok.inj, ok.has, ok.cab, (fun z => absurd (show false = true from z) Bool.false_ne_true), ok.frames, ok.stk, ok.exf, ok.bs, ok.bsz, ok.noex, ok.exfs, ok.funs, ok.frf⟩
theorem Inv.hnd (I : Inv X pins σ H s) {a C : Addr} {d : Option Addr} {oe : Obj} {vs : Array Value} (ha : s.heap.get? a = some oe) (hz : Zc (.ref C) d oe) (hd : oe.data = .fields vs) (na : H a = none) (nL : a ≠ X.env.locals)
    (n0 : X.s_0.heap.get? a = none) (np : ∀ p ∈ X.pn ++ pins, p.1 ≠ a) (nc : ∀ x c, X.env.cells.lookup x = some c → c ≠ a) : Inv (Gw.hnd X a) pins σ (upd H a (xob a C d)) s := by
  have n1 : ∀ b o, X.s_0.heap.get? b = some o → b ≠ a := fun b o e z => nomatch (z ▸ e).symm.trans n0
  refine ⟨hnd_ok I.ok a, I.os, I.bare, ⟨I.base.keep, I.base.slot, fun b o e n x => ?_, I.base.there, fun b xs e => ?_, fun b o u e => ?_, fun b ps e => ?_⟩, I.loc, I.cell, ?_, fun x c e => ?_, fun p hp => ?_, fun b o e => ?_, I.len⟩
  · rw [upd_ne (n1 b o e)]; exact I.base.free b o e n x
  · have q := I.base.tups b xs e
    rw [upd_ne (ne_of_none q na)]; exact q
  · have q := I.base.frzs b o u e
    rw [upd_ne (ne_of_none q na)]; exact q
  · obtain ⟨m, q⟩ := I.base.tbls b ps e
    exact ⟨m, by rw [upd_ne (ne_of_none q na)]; exact q⟩
  · show upd H a (xob a C d) X.env.locals = none
    rw [upd_ne (fun z => nL z.symm)]; exact I.free
  · show upd H a (xob a C d) c = none
    rw [upd_ne (nc x c e)]; exact I.freeC x c e
  · obtain ⟨e, n, ne, nf, dd⟩ := I.pin p hp
    exact ⟨e, by rw [upd_ne (np p hp)]; exact n, ne, nf, dd⟩
  · by_cases hb : b = a
    · subst hb; rw [upd_same] at e; cases e
      exact xob_ok ha hz hd
    · rw [upd_ne hb] at e
      exact (I.hok b o e).stay (fun _ _ _ q => q) (fun c hc => by rw [upd_ne (ne_of_none hc na)]; exact hc) (fun c xs hc => by rw [upd_ne (ne_of_none hc na)]; exact hc)
theorem Inv.unhnd {a : Addr} (I : Inv (Gw.hnd X a) pins σ H s) (ok : X.Ok) : Inv X pins σ H s :=
  ⟨ok, I.os, I.bare, I.base, I.loc, I.cell, I.free, I.freeC, I.pin, I.hok, I.len⟩
inductive Tst (X : Cx) : Expr → List Value → Prop
  | one {x : Str} {c : Value} {np : Pos} (h : Names X x c) : Tst X (.Name x np) [c]
  | three {x1 x2 x3 : Str} {c1 c2 c3 : Value} {p1 p2 p3 tp : Pos} {kk : Nat} (h1 : Names X x1 c1) (h2 : Names X x2 c2) (h3 : Names X x3 c3) : Tst X (.Tuple [.Name x1 p1, .Name x2 p2, .Name x3 p3] kk tp) [c1, c2, c3]
theorem ld_names {a : Addr} {pn : List (Addr × Obj)} {x : Str} {c : Value} {np : Pos} (n : Names X x c) (S : Inv (X.suite a pn) pins σ H s) {Q : Value → Shared → Prop} {E : Value → Shared → Prop} (q : Q c s) : wpAny (model X.prog X.w) (X.A.mark (some (.ref a))) (eval (.Name x np) X.env) Q E s := by
  obtain ⟨hg, hdbg, hm | ⟨hm, hv, hnn⟩⟩ := n
  · exact ld_glob (X := X.suite a pn) S hg hm q hdbg
  · exact ld_blt (X := X.suite a pn) S hg hm hv q hnn hdbg
theorem tst_run {t : Expr} {cs : List Value} (T : Tst X t cs) {a : Addr} {pn : List (Addr × Obj)} {oe : Obj} {cls : Value} {b : Bool} (S : Inv (X.suite a pn) pins σ H s) (ha : s.heap.get? a = some oe) (hc : oe.cls = cls) (e : PySem.W.exmAny X.K cls cs = some b)
    {Q : Bool → Shared → Prop} {E E' : Value → Shared → Prop} (q : ∀ h' : Heap, (∀ b o, s.heap.get? b = some o → h'.get? b = some o) → Q b { s with heap := h' }) :
    wpAny (model X.prog X.w) (X.A.mark (some (.ref a))) (eval t X.env) (fun c s₁ => wpAny (model X.prog X.w) (X.A.mark (some (.ref a))) (excMatches (.ref a) c) Q E s₁) E' s := by
  have LT : PySem.W.Looks (model X.prog X.w) s.heap (typeOf (.ref a)) cls := fun A Q E s k q => wpAny_typeOf_ref (k _ _ ha) (by rw [hc]; exact q)
  cases T with
  | one h =>
    obtain ⟨b1, d1, e1, e2, e3⟩ := PySem.W.exmAny_cons e
    have e4 : d1 = false := by cases e2; rfl
    subst e4
    rw [Bool.or_false] at e3
    subst e3
    exact ld_names h S ((PySem.W.exm_one S.kIn LT e1).here (q s.heap fun _ _ z => z))
  | @three x1 x2 x3 c1 c2 c3 p1 p2 p3 tp kk h1 h2 h3 =>
    refine wpAny_Tuple ?_
    refine wpAny_items_cons (ld_names h1 S ?_)
    refine wpAny_items_cons (ld_names h2 S ?_)
    refine wpAny_items_cons (ld_names h3 S ?_)
    refine wpAny_items_nil ⟨by size_fits, ?_⟩
    have kp : ∀ q o, s.heap.get? q = some o → (s.heap.push { cls := .type "tuple", data := .seq [c1, c2, c3].toArray }).get? q = some o := fun _ _ z => Heap.get?_push_of_some _ z
    exact (PySem.W.exm_tup3 (S.kIn.keeps kp) (LT.keeps kp) (Heap.get?_push_size s.heap rfl) e).here (q _ kp)
end
structure Hd where
  cs : List Value
  i : Option Nat
  ts : TS
def onAs (i : Option Nat) (D : Ends) : Ends := match i with
  | none => D
  | some i => { nx := fun σ H => D.nx (σ.set i none) H, rt := D.rt, bk := fun σ H => D.bk (σ.set i none) H, ct := fun σ H => D.ct (σ.set i none) H }
def toAs (i : Option Nat) (a : Addr) (σ : L2.St) : L2.St := match i with
  | none => σ
  | some i => σ.set i (some (.ref a))
def wHs (K : PySem.W.Frag) (Wout : WX) (D : Ends) : List Hd → WX
  | [] => Wout
  | h :: r => fun cls d σ H => ∃ b C, cls = .ref C ∧ PySem.W.exmAny K cls h.cs = some b ∧ (b = true → ∀ a, H a = none → h.ts (onAs h.i D) (toAs h.i a σ) (upd H a (xob a C d))) ∧ (b = false → wHs K Wout D r cls d σ H)
inductive HdOk (X : Cx) : List ExceptHandler → List Hd → Prop
  | nil : HdOk X [] []
  | plain {t : Expr} {cs : List Value} {ts : TS} {b₀ : Stmt} {suite : List Stmt} {pos' : Pos} {hds : List ExceptHandler} {l : List Hd} (hc : Tst X t cs) (hsu : ∀ a, PSs (hnd X a) (b₀ :: suite) ts) (r : HdOk X hds l) :
      HdOk X (.ExceptHandler (some t) none (b₀ :: suite) pos' :: hds) (⟨cs, none, ts⟩ :: l)
  | as {t : Expr} {n : Str} {i : Nat} {cs : List Value} {ts : TS} {b₀ : Stmt} {suite : List Stmt} {pos' : Pos} {hds : List ExceptHandler} {l : List Hd} (hc : Tst X t cs) (hN : X.N.Nodup) (hi : X.N[i]? = some n) (hln : X.env.kindOf n = some .local)
      (hsu : ∀ a, PSs (hnd X a) (b₀ :: suite) ts) (r : HdOk X hds l) : HdOk X (.ExceptHandler (some t) (some n) (b₀ :: suite) pos' :: hds) (⟨cs, some i, ts⟩ :: l)
structure Caught (X : Cx) (pins : List (Addr × Obj)) (σ : L2.St) (H : Hp) (sI s : Shared) (B : Heap) (a : Addr) (cls : Value) (d : Option Addr) : Prop where
  J : Inv X pins σ H sI
  gr : ∀ b o, sI.heap.get? b = some o → b ∉ frs X.stack → B.get? b = some o
  up : sI.heap.UpToSlots s.heap
  na : H a = none
  os : s.os = sI.os
  ag : AllBare s.gens
  nL : a ≠ X.env.locals
  nF : a ∉ X.fs
  nI : sI.heap.get? a = none
abbrev Fly (X : Cx) (B : Heap) (a : Addr) (cls : Value) (d : Option Addr) (h : Heap) : Prop := HandSPX.FlyingZ B X.stack a (Zc cls d) h
section
variable {X : Cx} {pins : List (Addr × Obj)} {σ : L2.St} {H : Hp} {sI s : Shared} {B h : Heap} {a : Addr} {cls : Value} {d : Option Addr}
theorem Caught.inv (c : Caught X pins σ H sI s B a cls d) (fl : Fly X B a cls d h) (up : s.heap.UpToSlots h) : Inv X pins σ H { s with heap := h } := c.J.landed (s' := { s with heap := h }) c.gr fl.1 (c.up.trans up) c.os c.ag
theorem Caught.n0 (c : Caught X pins σ H sI s B a cls d) (hex : X.ex = []) : X.s_0.heap.get? a = none :=
  match q : X.s_0.heap.get? a with
  | none => rfl
  | some o => by
    obtain ⟨o', z⟩ := c.J.base.there a o q (by rw [hex]; exact List.not_mem_nil)
    exact nomatch z.symm.trans c.nI
theorem Caught.held {C : Addr} (c : Caught X pins σ H sI s B a (.ref C) d) (hex : X.ex = []) (fl : Fly X B a (.ref C) d h) (up : s.heap.UpToSlots h) : Inv (hnd X a) pins σ (upd H a (xob a C d)) { s with heap := h } := by
  obtain ⟨oe, vs, h1, h2, h3⟩ := fl.there
  refine Gw.Inv.hnd (c.inv fl up) h1 h2 h3 c.na c.nL (c.n0 hex) (fun p hp z => ?_) (fun x k e z => ?_)
  · exact nomatch (z ▸ (c.J.pin p hp).1).symm.trans c.nI
  · obtain ⟨v, o, q, _⟩ := c.J.cell x k e
    exact nomatch (z ▸ q).symm.trans c.nI
theorem Caught.test {t : Expr} {cs : List Value} {b : Bool} (c : Caught X pins σ H sI s B a cls d) (T : Tst X t cs) (e : PySem.W.exmAny X.K cls cs = some b) (fl : Fly X B a cls d h) (up : s.heap.UpToSlots h) {Q : Bool → Shared → Prop} {E E' : Value → Shared → Prop}
    (q : ∀ g, Fly X B a cls d g → s.heap.UpToSlots g → Q b { s with heap := g }) : wpAny (model X.prog X.w) (X.A.mark (some (.ref a))) (eval t X.env) (fun v s₁ => wpAny (model X.prog X.w) (X.A.mark (some (.ref a))) (excMatches (.ref a) v) Q E s₁) E' { s with heap := h } := by
  obtain ⟨oe, vs, h1, h2, h3⟩ := fl.there
  exact tst_run T ((c.inv fl up).suite h1 h3 c.na c.nL c.nF) h1 h2.1 e fun g k => q g (fly_keeps fl k) (up.trans (Heap.UpToSlots.of_keeps k))
theorem Caught.on {W : WX} {D : Ends} (c : Caught X pins σ H sI s B a cls d) (hf : X.env.frame = some X.env.locals) (tk : Takes X W) (fl : Fly X B a cls d h) (up : s.heap.UpToSlots h) (w : W cls d σ H) : wpAny (model X.prog X.w) X.A (handleBy (.ref a) X.env []) (SP X pins D) X.xe { s with heap := h } := by
  have last : wpAny (model X.prog X.w) X.A (setFlight (.ref a) X.env.frame) (fun _ s4 => wpAny (model X.prog X.w) X.A (throw (.ref a) : Sem Flow) (SP X pins D) X.xe s4) X.xe { s with heap := h } := by
    rw [hf]
    exact HandSPX.setFlight_upZ fl fun g hg ug => wpAny_throw (tk _ _ ⟨a, B, sI, pins, σ, H, cls, d, rfl, c.J, c.gr, (c.up.trans up).trans ug, .inr (.inr hg), c.na, c.os, c.ag, w⟩)
  obtain ⟨_, _, _, oe, vs, T, oT, ts, h1, h2, h3, h4, _⟩ := id fl
  refine wpAny_handleBy_nil ?_
  unfold PySem.passOn
  refine wpAny_bind (wpAny_field h1 h3 h4 ?_)
  have nn : (Value.ref T == Value.none) = false := by simp
  simp only [nn, Bool.false_eq_true, if_false]
  first
    | exact wpAny_bind last
    | exact wpAny_bind (wpAny_pure (wpAny_bind last))
theorem out_hnd {D : Ends} {f : Flow} (ok : X.Ok) (h : SP (hnd X a) pins D f s) : SP X pins D f s := by
  cases f with
  | ret u => obtain ⟨v, σ', H', I', r, q⟩ := h; exact ⟨v, σ', H', Gw.Inv.unhnd I' ok, r, q⟩
  | next => obtain ⟨σ', H', I', q⟩ := h; exact ⟨σ', H', Gw.Inv.unhnd I' ok, q⟩
  | brk => obtain ⟨σ', H', I', q⟩ := h; exact ⟨σ', H', Gw.Inv.unhnd I' ok, q⟩
  | cont => obtain ⟨σ', H', I', q⟩ := h; exact ⟨σ', H', Gw.Inv.unhnd I' ok, q⟩
theorem out_name {M : Model} {A : Around} {E : Value → Shared → Prop} {D : Ends} {f : Flow} {i : Nat} {n : Str} {pos : Pos} (hN : X.N.Nodup) (hi : X.N[i]? = some n) (hl : X.env.kindOf n = some .local) (h : SP X pins (onAs (some i) D) f s) :
    wpAny M A (do bindName X.env n .none; unbindBehindTheSuite X.env n pos) (fun _ s' => SP X pins D f s') E s := by
  cases f with
  | ret u => obtain ⟨v, σ', H', I', r, q⟩ := h; exact gone_ok I' hN hi hl fun s' I2 => ⟨v, _, H', I2, r, q⟩
  | next => obtain ⟨σ', H', I', q⟩ := h; exact gone_ok I' hN hi hl fun s' I2 => ⟨_, H', I2, q⟩
  | brk => obtain ⟨σ', H', I', q⟩ := h; exact gone_ok I' hN hi hl fun s' I2 => ⟨_, H', I2, q⟩
  | cont => obtain ⟨σ', H', I', q⟩ := h; exact gone_ok I' hN hi hl fun s' I2 => ⟨_, H', I2, q⟩
theorem Caught.by {W : WX} {D : Ends} {hds : List ExceptHandler} {l : List Hd} (c : Caught X pins σ H sI s B a cls d) (hf : X.env.frame = some X.env.locals) (hex : X.ex = []) (tk : Takes X W) (hk : HdOk X hds l) :
    ∀ h, Fly X B a cls d h → s.heap.UpToSlots h → wHs X.K W D l cls d σ H → wpAny (model X.prog X.w) X.A (handleBy (.ref a) X.env hds) (SP X pins D) X.xe { s with heap := h } := by
  have ok := c.J.ok
  induction hk with
  | nil => exact fun h fl up w => c.on hf tk fl up w
  | plain hc hsu r ih =>
    rintro h fl up ⟨b, C, rfl, hb, yes, no⟩
    refine wpAny_handleBy_cons (codeAny_handlers_test (c.test hc hb fl up fun g fg ug => ?_)) (fun q => nomatch q)
    cases b with
    | false => exact ih g fg ug (no rfl)
    | true =>
      refine codeAny_handlers_suite (HandSPX.lands_againZ fg fun g2 f2 u2 => ?_)
      exact wpAny_mono ((hsu a).run pins _ _ _ _ (c.held hex f2 (ug.trans u2)) (yes rfl a c.na)) (fun f s6 z => out_hnd ok z) (fun _ _ z => z.elim)
  | as hc hN hi hln hsu r ih =>
    rintro h fl up ⟨b, C, rfl, hb, yes, no⟩
    refine wpAny_handleBy_cons (codeAny_handlers_test (c.test hc hb fl up fun g fg ug => ?_)) (fun q => nomatch q)
    cases b with
    | false => exact ih g fg ug (no rfl)
    | true =>
      refine codeAny_handlers_suite_as (HandSPX.lands_againZ fg fun g2 f2 u2 => ?_)
      refine store_ok (X := hnd X a) (v := .ref a) (c.held hex f2 (ug.trans u2)) hN hi (.inl hln) rfl (fun s5 I5 => ?_) (.inr hln)
      exact wpAny_mono ((hsu a).run pins s5 _ _ _ I5 (yes rfl a c.na)) (fun f s6 z => out_name hN hi hln (out_hnd ok z)) (fun _ _ z => z.elim)
end
end Gw

namespace Gw
open PySem PySem.W L2 PyProof.Rows
variable {ρ : Ent}
def heirs : List (Str × List Str) := [("Refused", ["Refused", "ValueError"]), ("Missing", ["Missing", "LookupError"]), ("Halted", ["Halted", "RuntimeError"]),
  ("NoText", ["NoText", "Refused", "ValueError"]), ("NoProgram", ["NoProgram", "Refused", "ValueError"]), ("NoKind", ["NoKind", "Refused", "ValueError"]), ("TooGreat", ["TooGreat", "Refused", "ValueError"]), ("NoFit", ["NoFit", "Refused", "ValueError"]),
  ("Nothing", ["Nothing", "Refused", "ValueError"]), ("NoStep", ["NoStep", "Refused", "ValueError"]), ("NoLine", ["NoLine", "Refused", "ValueError"]),
  ("NoPlace", ["NoPlace", "Missing", "LookupError"]), ("NoGate", ["NoGate", "Missing", "LookupError"]), ("NoStage", ["NoStage", "Missing", "LookupError"]), ("Unclean", ["Unclean", "Halted", "RuntimeError"])]
def subX (r c : Str) : Bool := match heirs.lookup r with
  | some l => l.contains c
  | none => false
def isX (cns : List Str) (r : Str) : Bool := cns.any (subX r)
def clsV (K : Frag) (c : Str) : Option Value := match nsIn K mainGlobals c with
  | some (some v) => some v
  | some none => bootBuiltins c
  | none => none
def clsVal (K : Frag) (c : Str) : Value := (clsV K c).getD .none
def clsAd (K : Frag) (c : Str) : Addr := match nsIn K mainGlobals c with
  | some (some (.ref C)) => C
  | _ => 0
structure XcF (K : Frag) (C : Addr) : Prop where
  ga : findIn K (.ref C) "__getattribute__" = some (some (.builtin "BaseException.__getattribute__"))
  gg : findIn K (.ref C) "__getattr__" = some none
  exC : subIn K (.ref C) (.type "BaseException") = some true
  hdC : hasDictIn K C = true
  ca : findIn K (.ref C) "__class__" = some (some (.builtin "object.__class__"))
  gs : specialIn K (.builtin "object.__class__") "__get__" = some (some (.builtin "getset_descriptor.__get__"))
  tk : takesIn K (.builtin "object.__class__") = some true
  mr : mroIn K C (.type "object") = some true
def isClsB (v : Value) : Bool := match v with
  | .ref _ => true
  | .type _ => true
  | _ => false
structure XTab (K : Frag) (R A F : List Str) : Prop where
  ok : ∀ r ∈ R, nsIn K mainGlobals r = some (some (.ref (clsAd K r))) ∧ XcF K (clsAd K r)
  fd : ∀ r ∈ R, ∀ f ∈ F, findIn K (.ref (clsAd K r)) f = some none
  cv : ∀ c ∈ A, (clsV K c).isSome = true ∧ isClsB (clsVal K c) = true ∧ kitOne K (.type "NoneType") (clsVal K c) = some false
  is : ∀ r ∈ R, ∀ c ∈ A, kitOne K (.ref (clsAd K r)) (clsVal K c) = some (subX r c) ∧ exmOne K (.ref (clsAd K r)) (clsVal K c) = some (subX r c)
def Agr (K : Frag) (mg : Str → Option Value) : Prop := ∀ x o, nsIn K mainGlobals x = some o → mg x = o
theorem agr_of {K : Frag} {h : Heap} {mg : Str → Option Value} (X : K.In h) (G : h.Ns mainGlobals mg) : Agr K mg := fun x o e => by
  cases o with
  | none => exact mg_none_of X G e
  | some v => exact mg_of X G e
section
variable {X : Cx} {K : Frag} {mg : Str → Option Value} {R A F : List Str} {B : Ent} {σ : L2.St} {H G H1 G1 H2 G2 : Hp} {Γ Γ1 Γ2 : Sl} {M M1 M2 : Mem} {a : Expr} {ta : TE} {aa : AE} {pos : Pos}
inductive TyE (K : Frag) (H : Hp) : V → Value → Prop where
  | base {x : V} {t : Value} (h : TyX K H x t) : TyE K H x t
  | exc {a C : Addr} {d : Option Addr} {ws : List (Str × V)} (e : H a = some (xob a C d)) (f : XcF K C) (x : XD H d ws) : TyE K H (.ref a) (.ref C)
def aIsX (R cns : List Str) (r : Ret) (Γ : Sl) (M : Mem) (Q : Ret → Sl → Mem → Prop) : Prop := match r with
  | .dat (.exc cn _ _) => R.contains cn = true ∧ Q (.dat (.bl (isX cns cn))) Γ M
  | .dat .non => Q (.dat (.bl false)) Γ M
  | _ => False
inductive ClsNs (X : Cx) (A : List Str) : List Expr → List Str → Prop
  | nil : ClsNs X A [] []
  | cons {c : Str} {p : Pos} {es : List Expr} {cs : List Str} (hc : c ∈ A) (hg : Gl X c) (hn : c ≠ "__name__") (hdb : (c == ("__debug__" : Str)) = false) (hs : starEach (.Name c p :: es) X.env = (false, eval (.Name c p) X.env) :: starEach es X.env) (r : ClsNs X A es cs) : ClsNs X A (.Name c p :: es) (c :: cs)
def aXf (R : List Str) (f : Str) (r : Ret) (Γ : Sl) (M : Mem) (Q : Ret → Sl → Mem → Prop) : Prop := match r with
  | .dat (.exc cn ns ds) => R.contains cn = true ∧ match (ns.zip ds).lookup f with
    | some d => Q (.dat d) Γ M
    | none => False
  | _ => False
theorem lookup_rep {ns : List Str} {ds : List D} {ws : List (Str × V)} {f : Str} {d : D} (hn : ws.map (·.1) = ns) (h : RepL K G ds (ws.map (·.2))) (e : (ns.zip ds).lookup f = some d) : ∃ v, ws.lookup f = some v ∧ Rep K G d v := by
  subst hn
  induction ws generalizing ds with
  | nil => simp at e
  | cons w ws ih =>
    obtain ⟨n, v⟩ := w
    cases ds with
    | nil => simp at e
    | cons d0 ds =>
      obtain ⟨x, r, ex, h1, h2⟩ := repL_cons.mp h
      simp only [List.map_cons, List.cons.injEq] at ex
      obtain ⟨rfl, rfl⟩ := ex
      rw [List.map_cons, List.zip_cons_cons, List.lookup_cons] at e
      rw [List.lookup_cons]
      dsimp only at e ⊢
      split at e
      · rename_i hq
        cases e
        exact ⟨_, rfl, h1⟩
      · exact ih h2 e
structure AH where
  cns : List Str
  i : Option Nat
  as : AS
def onAsA (i : Option Nat) (A : AEnds) : AEnds := match i with
  | none => A
  | some i => { nx := fun Γ M => A.nx (Γ.set i .non) M, rt := fun r Γ M => A.rt r Γ M, bk := fun Γ M => A.bk (Γ.set i .non) M, ct := fun Γ M => A.ct (Γ.set i .non) M }
def toAsA (i : Option Nat) (x : Xc) (Γ : Sl) : Sl := match i with
  | none => Γ
  | some i => Γ.set i (.dat x.d)
def wAH (R : List Str) (xw : XW) (A : AEnds) : List AH → XW
  | [] => xw
  | h :: r => fun x Γ M => R.contains x.cn = true ∧ if isX h.cns x.cn = true then h.as (onAsA h.i A) (toAsA h.i x Γ) M else wAH R xw A r x Γ M
def aTry (R : List Str) (xw : XW) (body : XW → AS) (hs : List AH) : AS := fun A Γ M => body (wAH R xw A hs) A Γ M
theorem Ok.setN {i : Nat} (k : Ok K ρ B σ H G Γ M) : Ok K ρ B (σ.set i none) H G (Γ.set i .non) M := by
  refine ⟨k.st, k.ex, k.nd, k.ms, fun j e h => ?_, fun j c h => ?_, fun j l c c' q h h' a b => ?_, by rw [List.length_set, List.length_set]; exact k.len, k.pb⟩
  · rcases set_get h with ⟨_, e2⟩ | ⟨ne, e1⟩
    · cases e2
    · rw [List.getElem?_set_ne (fun q => ne q.symm)]; exact k.dat j e e1
  · rcases set_get h with ⟨_, e2⟩ | ⟨ne, e1⟩
    · cases e2
    · rw [List.getElem?_set_ne (fun q => ne q.symm)]; exact k.own j c e1
  · rcases set_get h with ⟨_, e2⟩ | ⟨ne, e1⟩
    · cases e2
    rcases set_get h' with ⟨_, e2⟩ | ⟨ne', e1'⟩
    · cases e2
    rw [List.getElem?_set_ne (fun q => ne q.symm)] at a
    rw [List.getElem?_set_ne (fun q => ne' q.symm)] at b
    exact k.dis j l c c' q e1 e1' a b
inductive HdQ (X : Cx) (ρ : Ent) (A : List Str) : List ExceptHandler → List Hd → List AH → Prop
  | nil : HdQ X ρ A [] [] []
  | plain {t : Expr} {cns : List Str} {ts : TS} {as : AS} {b₀ : Stmt} {suite : List Stmt} {pos' : Pos} {hds : List ExceptHandler} {l : List Hd} {la : List AH} (hc : Tst X t (cns.map (clsVal X.K))) (hA : ∀ c ∈ cns, c ∈ A)
      (hsu : ∀ a, QSs (hnd X a) ρ (b₀ :: suite) ts as) (r : HdQ X ρ A hds l la) : HdQ X ρ A (.ExceptHandler (some t) none (b₀ :: suite) pos' :: hds) (⟨cns.map (clsVal X.K), none, ts⟩ :: l) (⟨cns, none, as⟩ :: la)
  | as {t : Expr} {n : Str} {i : Nat} {cns : List Str} {ts : TS} {as : AS} {b₀ : Stmt} {suite : List Stmt} {pos' : Pos} {hds : List ExceptHandler} {l : List Hd} {la : List AH} (hc : Tst X t (cns.map (clsVal X.K))) (hA : ∀ c ∈ cns, c ∈ A) (hN : X.N.Nodup) (hi : X.N[i]? = some n) (hln : X.env.kindOf n = some .local)
      (hsu : ∀ a, QSs (hnd X a) ρ (b₀ :: suite) ts as) (r : HdQ X ρ A hds l la) : HdQ X ρ A (.ExceptHandler (some t) (some n) (b₀ :: suite) pos' :: hds) (⟨cns.map (clsVal X.K), some i, ts⟩ :: l) (⟨cns, some i, as⟩ :: la)
theorem HdQ.ok {hds : List ExceptHandler} {l : List Hd} {la : List AH} (h : HdQ X ρ A hds l la) : HdOk X hds l := by
  induction h with
  | nil => exact .nil
  | plain hc hA hsu r ih => exact .plain hc (fun a => (hsu a).pe) ih
  | as hc hA hN hi hln hsu r ih => exact .as hc hN hi hln (fun a => (hsu a).pe) ih
theorem Ok.self (k : Ok K ρ B σ H G Γ M) : Ok K B B σ H G Γ M := ⟨k.st, k.ex, k.nd, k.ms, k.dat, k.own, k.dis, k.len, Refi.refl B⟩
theorem Ok.from (k : Ok K B B σ H G Γ M) (p : Refi ρ B) : Ok K ρ B σ H G Γ M := ⟨k.st, k.ex, k.nd, k.ms, k.dat, k.own, k.dis, k.len, p⟩
theorem Sim.as {A : AEnds} {E : Ends} (i : Option Nat) (s : Sim K ρ B A E) : Sim K ρ B (onAsA i A) (onAs i E) := by
  cases i with
  | none => exact s
  | some i => exact ⟨fun σ H G Γ M k q => s.nx _ H G _ M k.setN q, s.rt, fun σ H G Γ M k q => s.bk _ H G _ M k.setN q, fun σ H G Γ M k q => s.ct _ H G _ M k.setN q⟩
end
end Gw

namespace Gw
open PySem PySem.W L2 PyProof.Rows
variable {ρ : Ent}
structure OxG (K : Frag) (C : Addr) : Prop where
  ex : ∃ (B newId initId : String) (bmB : List Value), ExcBaseFacts B newId initId bmB ∧ StoreFacts B bmB "object.__setattr__" "object" ∧ excInitIn K C bmB newId = true ∧ excOver K C bmB = true
  hd : hasDictIn K C = true
  sa : findIn K (.ref C) "__setattr__" = some (some (.builtin "object.__setattr__"))
  exC : subIn K (.ref C) (.type "BaseException") = some true
  tyC : typeIn K (.ref C) = some (.type "type")
  kC : keepIn K (.ref C) = true
theorem noSize (h : Heap) : h.get? h.objs.size = none :=
  match q : h.get? h.objs.size with
  | none => rfl
  | some _ => absurd (Heap.lt_size q) (Nat.lt_irrefl _)
section
variable {X : Cx} {pins : List (Addr × Obj)} {σ : L2.St} {H H' : Hp} {s : Shared} {h' : Heap}
theorem Inv.re {t' : Nat} (T : Addr → Prop) (I : L2.Inv X pins σ H s) (c0 : ∀ b, ¬ T b → H' b = H b ∧ ∀ o, s.heap.get? b = some o → h'.get? b = some o) (c1 : ∀ b, T b → (∃ φ, H b = some (.ext φ)) ∨ (H b = none ∧ s.heap.get? b = none))
    (c2 : ∀ b, T b → ∃ o, H' b = some o ∧ ObjOk X.prog X.w H' h' b o ∧ ∃ u, h'.get? b = some u) : L2.Inv X pins σ H' { s with heap := h', toks := t' } := by
  have cls : ∀ b, T b ∨ ¬ T b := fun b => Classical.em _
  have bare : ∀ b u, H b = some u → (∀ φ, u ≠ .ext φ) → ¬ T b := fun b u e n1 z => by
    rcases c1 b z with ⟨φ, q⟩ | ⟨q, _⟩ <;> rw [e] at q <;> cases q
    exact n1 _ rfl
  have none' : ∀ b o, s.heap.get? b = some o → H b = none → ¬ T b := fun b o e n z => by
    rcases c1 b z with ⟨_, q⟩ | ⟨_, q⟩
    · rw [n] at q; cases q
    · rw [e] at q; cases q
  have same : ∀ b u, H b = some u → (∀ φ, u ≠ .ext φ) → H' b = some u := fun b u e n1 => by rw [(c0 b (bare b u e n1)).1]; exact e
  refine Inv.un I ⟨fun b o e n _ _ => (c0 b (none' b o e n)).2 o e, fun b o e n _ _ => ⟨o.slots, (c0 b (none' b o e n)).2 o e⟩, fun b o e n _ => by rw [(c0 b (none' b o e n)).1]; exact n, fun b o e _ => ?_, fun b xs e => same b _ e nofun, fun b o u e => same b _ e nofun, fun b ps e => ⟨#[], ?_⟩⟩ fun b o e => ?_
  · rcases cls b with z | z
    · obtain ⟨_, _, _, q⟩ := c2 b z; exact q
    · exact ⟨o, (c0 b z).2 o e⟩
  · rw [same b _ e nofun]; simp
  · rcases cls b with z | z
    · obtain ⟨u, e1, e2, _⟩ := c2 b z
      cases e1.symm.trans e; exact e2
    · rw [(c0 b z).1] at e
      refine (I.hok b o e).stay (fun c u hc q => (c0 c ?_).2 u q) (fun c hc => same c _ hc nofun) (fun c xs hc => same c _ hc nofun)
      rcases hc with rfl | hc
      · exact z
      · exact bare c _ hc nofun
theorem sto_exc {A : Around} {a C : Addr} {d : Option Addr} {f : Str} {tk : Tok} {u : Value} {R : Result → Shared → Prop} {sl : Array (Option Value)} {vs : Array Value} {m0 : Str → Option Value} {nl : List Str} (T : OxG X.K C) (hK : X.K.In s.heap) (ha : s.heap.get? a = some ⟨.ref C, d, .fields vs, sl⟩) (hno : findIn X.K (.ref C) f = some none)
    (hd : (d = none ∧ m0 = fun _ => none) ∨ ∃ dx, d = some dx ∧ dx ≠ a ∧ s.heap.Ns1 dx m0) (hw : Within m0 nl) (hz : nl.length ≤ 1000)
    (q : ∀ (dx : Addr) (g : Heap) (t : Nat), (d = none → s.heap.get? dx = none ∧ s.heap.objs.size ≤ dx) → (∀ z, d = some z → dx = z) → dx ≠ a → g.get? a = some ⟨.ref C, some dx, .fields vs, sl⟩ → g.Ns1 dx (fun y => if y = f then some u else m0 y) → (∀ b o, b ≠ a → b ≠ dx → s.heap.get? b = some o → g.get? b = some o) → R (.ok (.ret .none)) { s with heap := g, toks := t }) :
    codeAny (model X.prog X.w) A (.call (.builtin "object.__setattr__") ⟨[.ref a, .str f tk, u], []⟩) R s := by
  obtain ⟨B, n, i, bm, FB, SF, _, ho⟩ := T.ex
  obtain ⟨cd, hcd, hh⟩ := any_some T.hd
  have hcls : Looks (model X.prog X.w) s.heap (classData C) cd := looks_clsIn hK hcd
  obtain ⟨hp, g0, d0, t0, os0⟩ := s
  have tk' : takerIn X.K C f = some none := by unfold takerIn; rw [hno]; rfl
  obtain ⟨c1, c2, c3, c4, c5, hasD, c6, c7, c8, c9, c10⟩ := cd
  have e1 : hasD = true := hh
  subst e1
  rcases hd with ⟨rfl, rfl⟩ | ⟨dx, rfl, ne, hns⟩
  · have lt := Heap.lt_size ha
    have ax : a ≠ hp.objs.size := Nat.ne_of_lt lt
    refine osa_openX (od := none) (r := none) SF hK ⟨ha, rfl, rfl, trivial⟩ ho tk' fun b => ?_
    unfold Builtin.ObjectAttr.storeInOwnDict Builtin.ObjectAttr.ownDictForStores
    dsimp only
    repeat (first | with_reducible refine wpAny_loadPart_at ha ?_ | with_reducible refine hcls.at ?_ | with_reducible refine HandSPX.store_in_new ?_ (fun g t h1 h2 => ?_) | wp_step)
    · refine ⟨{ cls := .type "dict", data := .dict #[] }, #[], 0, ?_, rfl, fun _ z => absurd z (by simp), fun _ => rfl⟩
      rw [Heap.get?_update_ne _ _ _ _ (fun z => ax z.symm)]
      exact Heap.get?_push_at rfl rfl
    · have old : ∀ b o, hp.get? b = some o → b ≠ a → g.get? b = some o := fun b o e nb => by
        rw [h2.2 b (Nat.ne_of_lt (Heap.lt_size e)), Heap.get?_update_ne _ _ _ _ nb]
        exact Heap.get?_push_of_some _ e
      refine q hp.objs.size g t (fun _ => ⟨noSize hp, Nat.le_refl _⟩) nofun (fun z => ax z.symm) ?_ h1 fun b o n1 n2 e => old b o e n1
      rw [h2.2 a ax]
      exact Heap.get?_update_self _ (Heap.get?_push_of_some _ ha) rfl
  · obtain ⟨oD, esD, epD, hoD, hdD, _⟩ := hns.count hw
    refine osa_openX (od := some oD) (r := none) SF hK ⟨ha, rfl, rfl, hoD⟩ ho tk' fun b => ?_
    unfold Builtin.ObjectAttr.storeInOwnDict Builtin.ObjectAttr.ownDictForStores
    dsimp only
    repeat (first | with_reducible refine wpAny_loadPart_at ha ?_ | with_reducible refine hcls.at ?_ | with_reducible refine OEX.store_in_old hns hw hz (fun g t h1 h2 => ?_) | wp_step)
    exact q dx g t nofun (fun z e => Option.some.inj e) ne ((h2.2 a (fun z => ne z.symm)).trans ha) h1 fun b o _ n2 e => (h2.2 b n2).trans e
end
def tSt (K : Frag) (f : Str) (to te : TE) : TS := fun D σ H => te σ H fun y H1 => to σ H1 fun x H2 => ∃ (a C : Addr) (d : Option Addr) (fs : List (Str × V)), x = .ref a ∧ OxG K C ∧ findIn K (.ref C) f = some none ∧ H2 a = some (exo a C d) ∧ fs.length ≤ 900 ∧
  ((d = none ∧ fs = []) ∨ ∃ dx, d = some dx ∧ dx ≠ a ∧ H2 dx = some (exd dx fs)) ∧ ∀ dx, (d = none → H2 dx = none) → (∀ z, d = some z → dx = z) → dx ≠ a → D.nx σ (upd (upd H2 dx (exd dx ((f, y) :: fs))) a (exo a C (some dx)))
section
variable {X : Cx} {o e : Expr} {es : List Expr} {to te : TE} {ta : TA} {f : Str} {p p' pos : Pos}
theorem ps_st (ho : PE X o to) (he : PE X e te) (hs : swapsWith e (some (.Attribute o f p')) pos.line X.env = pure false := by rfl) : PS X (.Assign [.Attribute o f p'] e pos) (tSt X.K f to te) := ⟨fun pins s σ H D I w => by
  refine plainObj_wpAny_Assign_Attribute (thn (he.run pins s σ H _ I w) ?_) hs
  rintro v s1 ⟨y, H1, I1, ry, w1⟩
  refine thn (ho.run pins s1 σ H1 _ I1 w1) ?_
  rintro v' s2 ⟨x, H2, I2, rx, a, C, d, fs, rfl, T, hno, ea, len, hd, nx⟩
  cases (show v' = Value.ref a from rx)
  obtain ⟨t1, ha⟩ := exo_at I2.hok ea
  have key : ∃ (m0 : Str → Option Value) (nl : List Str) (od : Option Obj), InstAt s2.heap a ⟨.ref C, d, .fields #[.ref t1, .none, .none, .none, .bool false, .none], #[]⟩ C od ∧ ((d = none ∧ m0 = fun _ => none) ∨ ∃ dx, d = some dx ∧ dx ≠ a ∧ s2.heap.Ns1 dx m0) ∧ Within m0 nl ∧ nl.length ≤ 1000 ∧ (∀ g, RelO (fs.lookup g) (m0 g)) ∧
      ∀ dx, d = some dx → (∃ φ, H2 dx = some (.ext φ)) := by
    rcases hd with ⟨rfl, rfl⟩ | ⟨dx, rfl, ne, ed⟩
    · exact ⟨_, [], none, ⟨ha, rfl, rfl, trivial⟩, .inl ⟨rfl, rfl⟩, Within.nil, by decide, fun _ => True.intro, nofun⟩
    · obtain ⟨m0, hns, rel⟩ := exd_at I2.hok ed
      obtain ⟨oD, _, _, hoD, _⟩ := hns.count (within_of rel)
      exact ⟨m0, fs.map (·.1), some oD, ⟨ha, rfl, rfl, hoD⟩, .inr ⟨dx, rfl, ne, hns⟩, within_of rel, by rw [List.length_map]; omega, rel, fun z e => by cases e; exact ⟨_, ed⟩⟩
  obtain ⟨m0, nl, od, J, hd', hw, hz, rel, old⟩ := key
  refine set_plain I2.kIn (od := od) J T.sa (sto_exc (s := { s2 with toks := s2.toks + 1 }) T I2.kIn ha hno hd' hw hz fun dx g t n0 n1 ne g1 g2 g3 => ?_)
  have fresh : d = none → H2 dx = none := fun z => I2.hok.fresh (n0 z).2
  refine ⟨σ, _, Gw.Inv.re (t' := t) (fun b => b = a ∨ b = dx) (I2.tok (s2.toks + 1)) (fun b nb => ?_) (fun b hb => ?_) (fun b hb => ?_), nx dx fresh n1 ne⟩
  · obtain ⟨na, nd⟩ := not_or.mp nb
    exact ⟨by rw [upd_ne na, upd_ne nd], fun u q => g3 b u na nd q⟩
  · rcases hb with z | rfl
    · exact .inl ⟨_, (congrArg H2 z).trans ea⟩
    · cases d with
      | none => exact .inr ⟨fresh rfl, (n0 rfl).1⟩
      | some z => rw [n1 z rfl]; exact .inl (old z rfl)
  · by_cases z : b = a
    · rw [z]; exact ⟨_, upd_same, exo_ok g1, _, g1⟩
    · have z2 : b = dx := hb.resolve_left z
      rw [z2]
      obtain ⟨u, _, _, gu, _⟩ := id g2
      exact ⟨_, by rw [upd_ne ne]; exact upd_same, exd_ok g2 (relO_put ry rel), u, gu⟩⟩
end
def spInit (K : Frag) (names : List Str) : Sp := fun vs H Q _ => ∃ (a C : Addr) (ws : List V), vs = .ref a :: ws ∧ ws.length = names.length ∧ OxG K C ∧ (∀ f ∈ names, findIn K (.ref C) f = some none) ∧ H a = some (exo a C none) ∧
  ∀ dx, H dx = none → dx ≠ a → Q .non (upd (upd H dx (exd dx (names.zip ws).reverse)) a (exo a C (some dx)))
structure Xcl (P : Program) (w : World) (K : Frag) (mg : Str → Option Value) (base : Heap) (cn : Str) (names : List Str) (k : Nat) : Prop where
  ns : nsIn K mainGlobals cn = some (some (.ref (clsAd K cn)))
  ox : OxG K (clsAd K cn)
  no : ∀ f ∈ names, findIn K (.ref (clsAd K cn)) f = some none
  ex : ∃ (fI : Addr) (fd : FuncData) (ps : List Str), findIn K (.ref (clsAd K cn)) "__init__" = some (some (.ref fI)) ∧ typeIn K (.ref fI) = some (.type "function") ∧ FnOk P w K mg base CX0 k fI fd ps (spInit K names) ∧ Binds K fd ps []
  ln : names.length ≤ 1000
section
variable {X : Cx} {e : Expr} {es : List Expr} {ta : TA} {names : List Str} {cn : Str} {k : Nat} {p pos : Pos} {pins : List (Addr × Obj)} {σ : L2.St} {H1 : Hp} {vs : List V} {us : List Value}
theorem mk_run {hp : Heap} {g1 : Array GenState} {d1 : Drawn} {t1 : Nat} {o1 : OsState} {P : Value → Shared → Prop} {E : Value → Shared → Prop} (c : Xcl X.prog X.w X.K X.mg X.base cn names k) (hr : Room (k + 1) X.A) (I1 : L2.Inv X pins σ H1 ⟨hp, g1, d1, t1, o1⟩) (rv : Vals vs us) (len : vs.length = names.length)
    (post : ∀ (a dx : Addr) (H2 : Hp) (hp2 h2 : Heap) (g2 : Array GenState) (d2 : Drawn) (t2 : Nat), H2 = upd (upd H1 dx (exd dx (names.zip vs).reverse)) a (exo a (clsAd X.K cn) (some dx)) → H1 a = none → H1 dx = none → dx ≠ a → hp.objs.size ≤ a → (∀ b o, hp.get? b = some o → hp2.get? b = some o) →
      L2.Inv X pins σ (upd H1 a (exo a (clsAd X.K cn) none)) ⟨hp2, g1, d1, t1, o1⟩ → Un (frs X.stack) [] (upd H1 a (exo a (clsAd X.K cn) none)) H2 hp2 h2 → HOk X.prog X.w H2 h2 → AllBare g2 → P (.ref a) ⟨h2, g2, d2, t2, o1⟩) :
    wpAny (model X.prog X.w) X.A (call (.ref (clsAd X.K cn)) us) P E ⟨hp, g1, d1, t1, o1⟩ := by
  obtain ⟨B, newId, initId, bmB, FB, SF, hin, _⟩ := c.ox.ex
  obtain ⟨fI, fd, ps, hfi, hty, F, hb⟩ := c.ex
  obtain ⟨_, _, _, _, _, _, _, _, _, _, _, _, _, _, _, _, hC, hT⟩ := excInit_of I1.kIn hin
  have up : ∀ b o, hp.get? b = some o → ((hp.push (kdv_tup us)).push (HandSPX.excO (clsAd X.K cn) hp.objs.size)).get? b = some o := fun b o q => Heap.get?_push_of_some _ (Heap.get?_push_of_some _ q)
  have fresh : H1 (hp.objs.size + 1) = none := I1.hok.fresh (Nat.le_succ _)
  have there : ((hp.push (kdv_tup us)).push (HandSPX.excO (clsAd X.K cn) hp.objs.size)).get? (hp.objs.size + 1) = some (HandSPX.excO (clsAd X.K cn) hp.objs.size) := by heap_get
  have I2 := I1.laid (t' := t1) up (Nat.le_succ _) (exo_ok (P := X.prog) (w := X.w) (H := upd H1 (hp.objs.size + 1) (exo (hp.objs.size + 1) (clsAd X.K cn) none)) there)
  have rv2 : Vals (V.ref (hp.objs.size + 1) :: vs) (Value.ref (hp.objs.size + 1) :: us) := .cons rfl rv
  have wi : spInit X.K names (V.ref (hp.objs.size + 1) :: vs) (upd H1 (hp.objs.size + 1) (exo (hp.objs.size + 1) (clsAd X.K cn) none)) (fun v H2 => v = .non ∧ ∃ dx, H2 = upd (upd H1 dx (exd dx (names.zip vs).reverse)) (hp.objs.size + 1) (exo (hp.objs.size + 1) (clsAd X.K cn) (some dx)) ∧ H1 dx = none ∧ dx ≠ hp.objs.size + 1) (fun _ _ _ => False) := by
    refine ⟨_, _, vs, rfl, len, c.ox, c.no, upd_same, fun dx n1 n2 => ⟨rfl, dx, ?_, by rw [upd_ne n2] at n1; exact n1, n2⟩⟩
    funext b
    unfold upd
    split <;> rfl
  have lp := F.len _ _ _ _ wi
  have bt := hb ⟨(hp.push (kdv_tup us)).push (HandSPX.excO (clsAd X.K cn) hp.objs.size), g1, d1, t1, o1⟩ (Value.ref (hp.objs.size + 1) :: us) I2.kIn (by rw [List.append_nil, ← rv2.length]; exact lp)
  rw [List.append_nil] at bt
  have few : us.length ≤ sizeLine := by rw [← rv.length, len, sizeLine_eq]; have := c.ln; omega
  refine wpAny_call (HandSPX.call_own FB hT hC (looks_findIn I1.kIn hfi) (fun self => bind_fn I1.kIn self hty) few (codeAny_mono (F.run _ X.stack _ _ ⟨_ :: us, []⟩ _ _ _ _ (hr.make _ us []) (I2.env0.make _ us []) bt rv2 wi) fun r s' z => ?_))
  match r, s', z with
  | .error _, _, z => exact z.elim
  | .ok .next, _, z => exact z.elim
  | .ok .brk, _, z => exact z.elim
  | .ok .cont, _, z => exact z.elim
  | .ok (.ret u), ⟨h2, g2, d2, t2, o2⟩, ⟨v, H2, os2, ag2, un2, ok2, ru, ev, dx, eH, n1, n2⟩ =>
    subst ev
    cases (show o2 = o1 from os2)
    exact ⟨ru, post _ dx H2 _ h2 g2 d2 t2 eH fresh n1 n2 (Nat.le_succ _) up I2 un2 ok2 ag2⟩
theorem pmk_mk (c : Xcl X.prog X.w X.K X.mg X.base cn names k) (g : Agr X.K X.mg) (hr : Room (k + 1) X.A) (ha : PA X (e :: es) ta) (hg : Gl X cn) (hdb : (cn == ("__debug__" : Str)) = false) (he : starEach (e :: es) X.env = (false, eval e X.env) :: starEach es X.env) (hpl : (backTo pos (starEach es X.env)).any (·.1) = false) :
    PMk X (.Call (.Name cn p) (e :: es) [] pos) (fun σ H Q => ta σ H fun vs H1 => vs.length = names.length ∧ ∀ dx, H1 dx = none → Q (.ref (clsAd X.K cn)) (some dx) (upd H1 dx (.xd (names.zip vs).reverse))) := fun pins s σ H Q I w => by
  refine wpAny_Call_Name_kw (ld_glob I hg (g _ _ c.ns) (callWith_K (h₀ := X.base) I.ok.mod.kin c.ox.kC (thn (ha.run pos pins s σ H _ I w) ?_) he hpl) hdb)
  rintro us ⟨hp, g1, d1, t1, o1⟩ ⟨vs, H1, I1, rv, len, w1⟩
  refine ⟨I1.kIn, mk_run c hr I1 rv len fun a dx H2 hp2 h2 g2 d2 t2 eH n1 n2 n3 sz up I2 un ok ag => ?_⟩
  refine mk_end (raises_own c.ox.exC c.ox.tyC) I1 sz up un ok rfl ag (by rw [eH]; exact upd_same) (by rw [eH, upd_ne n3]; exact upd_same) n2 ?_
  have e2 : upd (del H2 a) dx (.xd (names.zip vs).reverse) = upd H1 dx (.xd (names.zip vs).reverse) := by
    rw [eH]
    funext b
    by_cases z1 : b = dx
    · rw [z1, upd_same, upd_same]
    · rw [upd_ne z1, upd_ne z1]
      by_cases z2 : b = a
      · rw [z2, del_same, n1]
      · rw [del_ne z2, upd_ne z2, upd_ne z1]
  rw [e2]
  exact w1 dx n2
end
end Gw

namespace Gw
open PySem L2 PyProof.Rows
variable {ρ : Ent}
def aRaise (w : XW) (cn : Str) (names : List Str) (aa : AA) (_ : AEnds) (Γ : Sl) (M : Mem) : Prop := aa Γ M fun ds Γ1 M1 => ds.length = names.length ∧ w ⟨cn, names.reverse, ds.reverse⟩ Γ1 M1
theorem zip_snd {α β : Type} : ∀ (xs : List α) (ys : List β), ys.length = xs.length → (xs.zip ys).map (·.2) = ys
  | [], [], _ => rfl
  | _ :: xs, y :: ys, h => by
    rw [List.zip_cons_cons, List.map_cons, zip_snd xs ys (by simpa using h)]
theorem zip_fst {α β : Type} : ∀ (xs : List α) (ys : List β), ys.length = xs.length → (xs.zip ys).map (·.1) = xs
  | [], [], _ => rfl
  | _ :: xs, y :: ys, h => by
    rw [List.zip_cons_cons, List.map_cons, zip_fst xs ys (by simpa using h)]
theorem repL_rev {K : PySem.W.Frag} {G : Hp} : ∀ {ds : List D} {vs : List V}, RepL K G ds vs → RepL K G ds.reverse vs.reverse
  | [], _, h => by rw [repL_nil.mp h]; exact repL_nil.mpr rfl
  | d :: ds, _, h => by
    obtain ⟨x, r, rfl, h1, h2⟩ := repL_cons.mp h
    rw [List.reverse_cons, List.reverse_cons]
    exact (repL_rev h2).append (RepL.one h1)
section
variable {X : Cx} {K : PySem.W.Frag} {mg : Str → Option Value}
theorem q_raise {W : WX} {w : XW} {cn : Str} {names : List Str} {k : Nat} {e : Expr} {es : List Expr} {ta : TA} {aa : AA} {p p1 pos : Pos} (c : Xcl X.prog X.w K mg X.base cn names k) (g : Agr K mg) (tk : Takes X W) (con : Conn K ρ W w) (hr : Room (k + 1) X.A) (ha : QA X ρ (e :: es) ta aa) (hc : X.calm = true := by rfl) (hg : Gl X cn := by rfl)
    (hdb : (cn == ("__debug__" : Str)) = false := by decide) (he : starEach (e :: es) X.env = (false, eval e X.env) :: starEach es X.env := by rfl) (hpl : (backTo pos (starEach es X.env)).any (·.1) = false := by rfl) (hK : X.K = K := by rfl) (hM : X.mg = mg := by rfl) :
    QS X ρ (.Raise (some (.Call (.Name cn p) (e :: es) [] pos)) none p1) (fun _ σ H => ta σ H fun vs H1 => vs.length = names.length ∧ ∀ dx, H1 dx = none → W (.ref (clsAd K cn)) (some dx) σ (upd H1 dx (.xd (names.zip vs).reverse))) (aRaise w cn names aa) := by
  subst hK; subst hM
  refine ⟨ps_raise (pos := p1) hc tk (pmk_mk c g hr ha.pe hg hdb he hpl), fun B σ H G Γ M A E k h s => ha.rd B σ H G Γ M _ _ k h fun vs H1 G1 Γ1 M1 ds k1 e1 rl hh => ?_⟩
  obtain ⟨hl, hw⟩ := hh
  have hv : vs.length = names.length := by rw [rl.length]; exact hl
  refine ⟨hv, fun dx hd => ?_⟩
  obtain ⟨k2, e2⟩ := k1.new (o := .xd (names.zip vs).reverse) hd
  refine con B σ _ _ Γ1 M1 _ _ _ k2 ⟨_, _, rfl, c.ns, .inr ⟨dx, rfl, upd_same⟩, ?_, ?_⟩ hw
  · rw [List.map_reverse, zip_fst _ _ hv]
  · rw [List.map_reverse, zip_snd _ _ hv]
    exact repL_rev (rl.mono e2.g)
def aMk (cn : Str) (names : List Str) (aa : AA) (Γ : Sl) (M : Mem) (Q : Ret → Sl → Mem → Prop) : Prop := aa Γ M fun ds Γ1 M1 => ds.length = names.length ∧ Q (.dat (.exc cn names.reverse ds.reverse)) Γ1 M1
structure XclP (K : PySem.W.Frag) (cn : Str) : Prop where
  ns : PySem.W.nsIn K mainGlobals cn = some (some (.ref (clsAd K cn)))
  ex : ∃ (B newId initId : String) (bmB : List Value), ExcBaseFacts B newId initId bmB ∧ PySem.W.excIn K (clsAd K cn) bmB newId = true
  kC : PySem.W.keepIn K (.ref (clsAd K cn)) = true
  exC : PySem.W.subIn K (.ref (clsAd K cn)) (.type "BaseException") = some true
  tyC : PySem.W.typeIn K (.ref (clsAd K cn)) = some (.type "type")
def aRaiseP (w : XW) (cn : Str) (aa : AE) (_ : AEnds) (Γ : Sl) (M : Mem) : Prop := aa Γ M fun _ Γ1 M1 => w ⟨cn, [], []⟩ Γ1 M1
end
end Gw

namespace Gw
open PySem L2 PyProof.Rows
section
variable {P : Program} {w : World} {K : PySem.W.Frag} {mg : Str → Option Value} {base : Heap}
theorem init_len {names ps : List Str} (h : ps.length = names.length + 1) : ∀ vs H Q E, spInit K names vs H Q E → vs.length = ps.length := by
  rintro vs H Q E ⟨a, C, ws, rfl, hl, _⟩
  rw [List.length_cons, hl, h]
theorem init1 {f x0 x1 qual : Str} {st : Stmt} {fa : Addr} {fd : FuncData} {N : List Str} {k : Nat} (F : Fun K "__init__" qual st fa fd) (S : FnScope N [x0, x1] (defScope st)) (hN : ∀ vs : List V, vs.length = 2 → (start N vs)[0]? = (vs.map some)[0]? ∧ (start N vs)[1]? = (vs.map some)[1]?)
    (hb : ∀ (cdv : Value) (A : Around) (outer : List Env) (s : Shared) (H : Hp) (E : XK), PSs (cxOf CX0 P w K mg base N qual (defScope st) fa cdv A outer s H E).nox (defBody st) (tSt K f (tVar 0) (tVar 1))) : FnOk P w K mg base CX0 (k + 1) fa fd [x0, x1] (spInit K [f]) := by
  refine F.ok S (init_len rfl) fun cdv A outer s H vs Q E hr h => ⟨_, hb cdv A outer s H E, ?_⟩
  obtain ⟨a, C, ws, rfl, hl, T, hno, ha, q⟩ := h
  match ws, hl with
  | [y], _ =>
    obtain ⟨e0, e1⟩ := hN [.ref a, y] rfl
    exact ⟨y, e1, .ref a, e0, a, C, none, [], rfl, T, hno f List.mem_cons_self, ha, by simp, .inl ⟨rfl, rfl⟩, fun dx hd _ hne => q dx (hd rfl) hne⟩
end
end Gw

namespace Gw
open PySem L2 PyProof.Rows
variable {ρ : Ent}
section
variable {X : Cx} {a b c e : Expr} {ta tb tc te : TE} {aa ab ac ae : AE} {pos : Pos} {K : PySem.W.Frag} {B : Ent} {σ : L2.St} {H G H1 G1 H2 G2 H0 : Hp} {Γ Γ1 Γ2 : Sl} {M M1 M2 : Mem}
def aSlS (aa : AE) (al ah : AO) (Γ : Sl) (M : Mem) (Q : Ret → Sl → Mem → Prop) : Prop := aa Γ M fun r Γ1 M1 => al Γ1 M1 fun lo Γ2 M2 => ah Γ2 M2 fun hi Γ3 M3 => match r with
  | .dat (.str z) => z.length ≤ sizeLine ∧ Q (.dat (.str (cutS z lo hi))) Γ3 M3
  | _ => False
def aStr (r : Ret) (Γ : Sl) (M : Mem) (Q : Ret → Sl → Mem → Prop) : Prop := match r with
  | .dat (.int i) => i.natAbs.log2 < 1920 ∧ Q (.dat (.str (Str.ofString (toString i)))) Γ M
  | _ => False
def aEq0 (f : Bool → Bool) (x : Ret) (y : Ret) (Γ : Sl) (M : Mem) (Q : Ret → Sl → Mem → Prop) : Prop := match x, y with
  | .dat (.tup ds), .dat (.tup []) => Q (.dat (.bl (f (ds.length == 0)))) Γ M
  | _, _ => False
def intsD : List D → Option (List Int)
  | [] => some []
  | .int i :: ds => (intsD ds).map (i :: ·)
  | _ :: _ => none
theorem intsD_ok : ∀ {ds : List D} {ns : List Int}, intsD ds = some ns → ds = ns.map .int
  | [], _, h => by cases h; rfl
  | .int i :: ds, _, h => by
    simp only [intsD, Option.map_eq_some_iff] at h
    obtain ⟨ns, h1, rfl⟩ := h
    rw [intsD_ok h1]; rfl
theorem intsD_map (ns : List Int) : intsD (ns.map .int) = some ns := by
  induction ns with
  | nil => rfl
  | cons n ns ih => rw [List.map_cons, intsD, ih]; rfl
def aLtT (x : Ret) (y : Ret) (Γ : Sl) (M : Mem) (Q : Ret → Sl → Mem → Prop) : Prop := match x, y with
  | .dat (.tup ds), .dat (.tup es) => match intsD ds, intsD es with
    | some ns, some ms => Q (.dat (.bl (HT.lexLt ns ms))) Γ M
    | _, _ => False
  | _, _ => False
def aSortSet (r : Ret) (Γ : Sl) (M : Mem) (Q : Ret → Sl → Mem → Prop) : Prop := match r with
  | .dat (.tup ds) => match intsD ds with
    | some ns => ns.length ≤ 60 ∧ ∀ ms : List Int, ms.Pairwise (· < ·) → (∀ k, k ∈ ms ↔ k ∈ ns) → Q (.tmp (.lst (ms.map .int))) Γ M
    | none => False
  | _ => False
def aRepT (x : Ret) (y : Ret) (Γ : Sl) (M : Mem) (Q : Ret → Sl → Mem → Prop) : Prop := match x, y with
  | .dat (.tup ds), .dat (.int k) => (ds ≠ [] ∧ 2 ≤ k ∧ k ≤ 10000 ∧ ds.length ≤ 100) ∧ Q (.dat (.tup (List.replicate k.toNat ds).flatten)) Γ M
  | _, _ => False
def aRevT (r : Ret) (Γ : Sl) (M : Mem) (Q : Ret → Sl → Mem → Prop) : Prop := match r with
  | .dat (.tup ds) => Q (.dat (.tup ds.reverse)) Γ M
  | _ => False
end
theorem fnG_no {P : Program} {w : World} {K : PySem.W.Frag} {mg : Str → Option Value} {base : Heap} {k n : Nat} {f : Addr} {fd : FuncData} {ps : List Str} {S : ASp} (h : ∀ ds M Q, ¬ S ds M Q) : FnG P w K mg base CX0 k f fd ps (spA K n S) where
  arity := fun vs H Q E z => by
    obtain ⟨G, M, ds, _, _, _, _, _, Qa, hS, _⟩ := z
    exact absurd hS (h ds M Qa)
  go := fun A o s H ar us vs Q E r gd e b rv z => by
    obtain ⟨G, M, ds, _, _, _, _, _, Qa, hS, _⟩ := z
    exact absurd hS (h ds M Qa)
def e_aCatS := @aCatS.eq_def
def e_aSlS := @aSlS.eq_def
def e_aStr := @aStr.eq_def
def e_aEq0 := @aEq0.eq_def
def e_aLtT := @aLtT.eq_def
def e_aSortSet := @aSortSet.eq_def
def e_aRepT := @aRepT.eq_def
def e_aRevT := @aRevT.eq_def
end Gw

namespace Gw
open PySem L2 PyProof.Rows
variable {ρ : Ent}
section
variable {prog : Program} {w : World} {A : Around} {E : Value → Shared → Prop} {s : Shared} {i : Int} {t : Tok} {b : Bool} {Q : Value → Shared → Prop}
def b2i (b : Bool) : Int := if b = true then 1 else 0
end
section
variable {X : Cx} {a b : Expr} {ta tb : TE} {aa ab : AE} {pos : Pos} {K : PySem.W.Frag}
def numD : D → Option Int
  | .int i => some i
  | .bl b => some (b2i b)
  | _ => none
def aIB (f : Int → Int → Int) (x : Ret) (y : Ret) (Γ : Sl) (M : Mem) (Q : Ret → Sl → Mem → Prop) : Prop := match x, y with
  | .dat (.int i), .dat (.int j) => Q (.dat (.int (f i j))) Γ M
  | .dat (.int i), .dat (.bl c) => Q (.dat (.int (f i (b2i c)))) Γ M
  | .dat (.bl c), .dat (.int j) => Q (.dat (.int (f (b2i c) j))) Γ M
  | _, _ => False
def strN : D → Str
  | .int i => Str.ofString (toString i)
  | .bl b => if b then "True" else "False"
  | _ => ""
def rStrB : List V → Hp → VK → Prop := fun xs H Q => (∃ i, xs = [.int i] ∧ i.natAbs.log2 < 1920 ∧ Q (.str (toString i)) H) ∨ ∃ c : Bool, xs = [.bl c] ∧ Q (.str (if c then "True" else "False")) H
theorem call_strB : CallR X (.type "str") rStrB := by
  rintro pins s σ H xs us Q I r (h | ⟨c, rfl, q⟩)
  · exact call_str_int pins s σ H xs us Q I r h
  · obtain ⟨u, rfl, hu⟩ := vals1 r
    cases (show u = Value.bool c from hu)
    exact PySem.P.str_of_bool ⟨.str _, H, I.tok _, ⟨_, rfl⟩, q⟩
def aStrB (r : Ret) (Γ : Sl) (M : Mem) (Q : Ret → Sl → Mem → Prop) : Prop := match r with
  | .dat (.int i) => i.natAbs.log2 < 1920 ∧ Q (.dat (.str (strN (.int i)))) Γ M
  | .dat (.bl c) => Q (.dat (.str (strN (.bl c)))) Γ M
  | _ => False
def rEqL0 (K : PySem.W.Frag) (f : Bool → Bool) : R2 := fun x y H Q => ∃ a b xs, x = .ref a ∧ y = .ref b ∧ SqL K H a xs ∧ SqL K H b [] ∧ Q (.bl (f (xs.length == 0))) H
theorem op_eqL0 (hu : X.A.units + 64 < cLine) : OpR X (compareOp .Eq) (rEqL0 X.K id) := by
  rintro pins s σ H x y v u Q I rx ry ⟨p, q, xs, rfl, rfl, hp, hq, w⟩
  cases rx; cases ry
  obtain ⟨its, r, ht, _⟩ := I.list hp
  obtain ⟨jts, r2, ht2, _⟩ := I.list hq
  cases r2
  by_cases z : its.toArray.size = (#[] : Array Value).size
  · refine SeqAt.RcAt.lists (e := fun _ => true) ht.isList ht2.isList z (by omega) (fun j _ h2 => absurd h2 (Nat.not_lt_zero j)) X.prog X.w X.xe _ ⟨.bl _, H, I, ?_, w⟩
    have : xs.length = 0 := by rw [r.length, ← List.size_toArray]; exact z
    rw [this]; simp at z; subst z; rfl
  · refine SeqAt.RcAt.lists_lengths ht.isList ht2.isList (bne_iff_ne.mpr z) (by omega) X.prog X.w X.xe _ ⟨.bl _, H, I, ?_, w⟩
    have : xs.length ≠ 0 := by rw [r.length, ← List.size_toArray]; exact z
    show Value.bool false = Value.bool (id (xs.length == 0))
    rw [show (xs.length == 0) = false from by simpa using this]; rfl
theorem op_neL0 (hu : X.A.units + 64 < cLine) : OpR X (compareOp .NotEq) (rEqL0 X.K not) := by
  rintro pins s σ H x y v u Q I rx ry ⟨p, q, xs, rfl, rfl, hp, hq, w⟩
  cases rx; cases ry
  obtain ⟨its, r, ht, _⟩ := I.list hp
  obtain ⟨jts, r2, ht2, _⟩ := I.list hq
  cases r2
  by_cases z : its.toArray.size = (#[] : Array Value).size
  · refine SeqAt.RcNeAt.lists (e := fun _ => true) ht.isList ht2.isList z (by omega) (fun j _ h2 => absurd h2 (Nat.not_lt_zero j)) X.prog X.w X.xe _ ⟨.bl _, H, I, ?_, w⟩
    have : xs.length = 0 := by rw [r.length, ← List.size_toArray]; exact z
    rw [this]; simp at z; subst z; rfl
  · refine SeqAt.RcNeAt.lists_lengths ht.isList ht2.isList (bne_iff_ne.mpr z) (by omega) X.prog X.w X.xe _ ⟨.bl _, H, I, ?_, w⟩
    have : xs.length ≠ 0 := by rw [r.length, ← List.size_toArray]; exact z
    show Value.bool true = Value.bool (not (xs.length == 0))
    rw [show (xs.length == 0) = false from by simpa using this]; rfl
def aEqL0 (f : Bool → Bool) (x : Ret) (y : Ret) (Γ : Sl) (M : Mem) (Q : Ret → Sl → Mem → Prop) : Prop := match sqOf x Γ M, y with
  | some (.lst ds), .tmp (.lst []) => Q (.dat (.bl (f (ds.length == 0)))) Γ M
  | _, _ => False
theorem rd_eqL0 {f : Bool → Bool} : RdO K ρ (rEqL0 K f) (aEqL0 f) := by
  intro B σ H H1 H2 G Γ M rx ry x y Q R k r1 r2 h q
  unfold aEqL0 at h
  split at h
  · rename_i ds hs
    obtain ⟨p, xs, e1, h1, l1⟩ := sqOf_ok k r1 hs
    obtain ⟨p2, ys, e2, h2, l2⟩ := sqOf_ok k r2 (show sqOf (.tmp (.lst [])) Γ M = some (.lst []) from rfl)
    rw [repL_nil.mp l2] at h2
    exact ⟨p, p2, xs, e1, e2, SqL.of h1, SqL.of h2, q _ H G Γ M (.dat (.bl _)) k .refl (by simp only [RepR, Rep]; rw [l1.length]) h⟩
  · exact h.elim
theorem c_eqL0 (hu : X.A.units + 64 < cLine) (hK : X.K = K := by rfl) : CmpR X ρ .Eq (rEqL0 K id) (aEqL0 id) := by subst hK; exact ⟨op_eqL0 hu, rd_eqL0⟩
theorem c_neL0 (hu : X.A.units + 64 < cLine) (hK : X.K = K := by rfl) : CmpR X ρ .NotEq (rEqL0 K not) (aEqL0 not) := by subst hK; exact ⟨op_neL0 hu, rd_eqL0⟩
end
def e_aEqL0 := @aEqL0.eq_def
def e_aIB := @aIB.eq_def
def e_aStrB := @aStrB.eq_def
end Gw

namespace Gw
open PySem L2 PyProof.Rows
variable {ρ : Ent}
section
variable {X : Cx} {tg tg1 a : Expr} {ta te : TE} {aa ae : AE} {pos : Pos} {K : PySem.W.Frag} {B : Ent} {σ σ' : L2.St} {H G H0 G0 H2 G2 H3 G3 : Hp} {Γ Γ' Γ0 Γ2 Γ3 : Sl} {M M0 M2 M3 : Mem}
theorem turns_it {J : It} {n : Nat} {GG : Hp → Prop} {Y : Nat → Hp → V → Hp → Prop} (w : Walk J n GG Y) (Pv : Nat → Hp → Prop) {S : V → Hp → (Hp → Prop) → Prop} {Qd : Hp → Prop} {Hs : Hp} (h0 : Pv 0 Hs) (hG : ∀ i H, i ≤ n → Pv i H → GG H)
    (hs : ∀ i x H H', i < n → Pv i H → Y i H x H' → S x H' (Pv (i + 1))) (hd : ∀ H, Pv n H → Qd H) :
    ∃ W : Nat → Nat → Hp → Prop, (∃ m, W 0 m Hs) ∧ ∀ i m H, W i m H → (J.stop i H ∧ Qd H) ∨ (J.go i H ∧ ∃ Nx : Hp → Prop, (∀ H', Nx H' → ∃ m', m' < m ∧ W (i + 1) m' H') ∧ ∀ x H', J.yld i H x H' → S x H' Nx) := by
  refine ⟨fun i m H => Pv i H ∧ i + m = n, ⟨n, h0, Nat.zero_add n⟩, fun i m H ⟨p, e⟩ => ?_⟩
  have g := hG i H (by omega) p
  cases m with
  | zero =>
    have e : i = n := e
    subst e
    exact .inl ⟨w.stops H g, hd H p⟩
  | succ m => exact .inr ⟨w.goes i H (by omega) g, Pv (i + 1), fun H' p' => ⟨m, Nat.lt_succ_self m, p', by omega⟩, fun x H' y => hs i x H H' (by omega) p (w.yields i H x H' (by omega) g y)⟩
structure Grow (K : PySem.W.Frag) (ρ : Ent) (B : Ent) (p : Addr) (σ0 : L2.St) (H0 G0 : Hp) (Γ0 : Sl) (M0 : Mem) (vs : List Nat) (acc : List D) (σ : L2.St) (H G : Hp) (Γ : Sl) (M : Mem) : Prop where
  ok : Ok K ρ B σ H G Γ M
  g : Ex G0 G
  tmp : ∀ a o, H0 a = some o → G0 a = none → a ∉ dom M0 → ¬ owned σ0 Γ0 a → H a = some o ∧ G a = none ∧ a ∉ dom M ∧ ¬ owned σ Γ a
  nn : ∀ a, H a = none → H0 a = none
  wi : ∀ (j : Nat) (s : Slot), Γ[j]? = some s → s ≠ .non → j ∉ vs
  here : ∃ xs, H p = some (.lst xs) ∧ RepL K G acc xs
  gp : G p = none
  mp : p ∉ dom M
  op : ¬ owned σ Γ p
  base : B.H p = none ∧ H0 p = none
variable {p : Addr} {σ0 : L2.St} {vs : List Nat} {acc : List D}
theorem Grow.es (w : Grow K ρ B p σ0 H0 G0 Γ0 M0 vs acc σ H G Γ M) (k : Ok K ρ B σ H2 G2 Γ2 M2) (e : Es σ H G Γ M H2 G2 Γ2 M2) : Grow K ρ B p σ0 H0 G0 Γ0 M0 [] acc σ H2 G2 Γ2 M2 := by
  obtain ⟨xs, hp, ra⟩ := w.here
  obtain ⟨p1, p2, p3, p4⟩ := e.tmp p _ hp w.gp w.mp w.op
  refine ⟨k, w.g.trans e.g, fun a o h g m n => ?_, fun a z => w.nn a (e.nn a z), fun j s _ _ => by simp, ⟨xs, p1, ra.mono e.g⟩, p2, p3, p4, w.base⟩
  obtain ⟨a1, a2, a3, a4⟩ := w.tmp a o h g m n
  exact e.tmp a o a1 a2 a3 a4
theorem Grow.to (w : Grow K ρ B p σ0 H0 G0 Γ0 M0 vs acc σ H G Γ M) (k : Ok K ρ B σ' H G Γ' M) (o : ∀ x, owned σ' Γ' x → owned σ Γ x) {us : List Nat} (hw : ∀ (j : Nat) (s : Slot), Γ'[j]? = some s → s ≠ .non → j ∉ us) : Grow K ρ B p σ0 H0 G0 Γ0 M0 us acc σ' H G Γ' M := by
  refine ⟨k, w.g, fun a o' h g m n => ?_, w.nn, hw, w.here, w.gp, w.mp, fun z => w.op (o _ z), w.base⟩
  obtain ⟨a1, a2, a3, a4⟩ := w.tmp a o' h g m n
  exact ⟨a1, a2, a3, fun z => a4 (o _ z)⟩
theorem Grow.add {xs : List V} {v : V} {y : D} (w : Grow K ρ B p σ0 H0 G0 Γ0 M0 vs acc σ H G Γ M) (hp : H p = some (.lst xs)) (ra : RepL K G acc xs) (rv : Rep K G y v) : Grow K ρ B p σ0 H0 G0 Γ0 M0 vs (acc ++ [y]) σ (upd H p (.lst (xs ++ [v]))) G Γ M := by
  refine ⟨w.ok.updTmp hp w.base.1 w.gp w.mp w.op, w.g, fun a o h g m n => ?_, fun a z => ?_, w.wi, ⟨_, upd_same, ra.append (RepL.one rv)⟩, w.gp, w.mp, w.op, w.base⟩
  · obtain ⟨a1, a2, a3, a4⟩ := w.tmp a o h g m n
    exact ⟨by rw [upd_ne (ne_of_none h w.base.2)]; exact a1, a2, a3, a4⟩
  · by_cases e : a = p
    · subst e; exact w.base.2
    · rw [upd_ne e] at z; exact w.nn a z
theorem Grow.enter (w : Grow K ρ B p σ0 H0 G0 Γ0 M0 vs acc σ H G Γ M) : Grow K ρ B p σ0 H0 G0 Γ0 M0 vs acc (wipe σ vs) H G Γ M := by
  obtain ⟨k, o⟩ := w.ok.agree (σ' := wipe σ vs) (Γ' := Γ) (fun j s a b => ⟨a, wipe_out (w.wi j s a b)⟩) (by rw [wipe_length]; exact w.ok.len)
  exact w.to k o w.wi
theorem Grow.leave (w : Grow K ρ B p σ0 H0 G0 Γ0 M0 [] acc σ' H G Γ M) (hw : wipe σ' vs = wipe σ vs) : Grow K ρ B p σ0 H0 G0 Γ0 M0 vs acc σ H G (wipeS Γ vs) M := by
  have ag : ∀ j, j ∉ vs → σ[j]? = σ'[j]? := fun j hj => by rw [← wipe_out (σ := σ') hj, hw, wipe_out hj]
  have hl : σ'.length = σ.length := by rw [← wipe_length σ' vs, hw, wipe_length]
  obtain ⟨k, o⟩ := w.ok.agree (σ' := σ) (Γ' := wipeS Γ vs) (fun j s a b => ⟨(wipeS_some a b).1, ag j (wipeS_some a b).2⟩) (by rw [wipeS_length, w.ok.len, hl])
  exact w.to k o fun j s a b => (wipeS_some a b).2
def aLcO (ai1 : AI) (g : AG) (tt : AT) (g1 : AG) (tt1 : AT) (ae : AE) (vs vs1 : List Nat) (k : List D → Sl → Mem → Prop) : List D → List D → Sl → Mem → Prop
  | [], acc, Γ, M => k acc Γ M
  | d :: ds, acc, Γ, M => g d Γ fun Γ1 => tt Γ1 M fun b Γ2 M2 => if b = true then ai1 Γ2 M2 fun es Γ3 M3 => aLcL g1 tt1 ae vs1 (fun acc' Γ4 M4 => aLcO ai1 g tt g1 tt1 ae vs vs1 k ds acc' (wipeS Γ4 vs) M4) es acc (wipeS Γ3 vs1) M3
      else aLcO ai1 g tt g1 tt1 ae vs vs1 k ds acc (wipeS Γ2 vs) M2
def lcO (ai1 : AI) (g : AG) (tt : AT) (g1 : AG) (tt1 : AT) (ae : AE) (vs vs1 : List Nat) (k : List D → Sl → Mem → Prop) (_ : WitL k) (ds acc : List D) (Γ : Sl) (M : Mem) : Prop := aLcO ai1 g tt g1 tt1 ae vs vs1 k ds acc Γ M
def aLc2 (ai : AI) (g : AG) (tt : AT) (ai1 : AI) (g1 : AG) (tt1 : AT) (ae : AE) (vs vs1 : List Nat) (Γ : Sl) (M : Mem) (Q : Ret → Sl → Mem → Prop) : Prop := ai Γ M fun ds Γ1 M1 => lcO ai1 g tt g1 tt1 ae vs vs1 (fun acc Γ2 M2 => Q (.tmp (.lst acc)) Γ2 M2) ⟨⟩ ds [] (wipeS Γ1 vs) M1
theorem rd_lc2 {wi wi1 : TI} {ai ai1 : AI} {g g1 : TG} {ag ag1 : AG} {is is1 vs vs1 : List Nat} {tt tt1 : TT} {at' at1 : AT} {bt : Bool} (hi : RdI K ρ bt wi ai) (hg : RdG K ρ bt g ag is) (hsub : ∀ j ∈ is, j ∈ vs) (ht : RdT K ρ tt at') {bt1 : Bool} (hi1 : RdI K ρ bt1 wi1 ai1) (hg1 : RdG K ρ bt1 g1 ag1 is1) (hsub1 : ∀ j ∈ is1, j ∈ vs1) (hvs : ∀ j ∈ vs1, j ∈ vs) (ht1 : RdT K ρ tt1 at1) (he : RdE K ρ te ae) :
    RdE K ρ (tLc2 wi g tt wi1 g1 tt1 te vs vs1) (aLc2 ai ag at' ai1 ag1 at1 ae vs vs1) := by
  intro B σ H G Γ M Q R k h q
  refine hi B σ H G Γ M _ _ k h fun J H1 G1 Γ1 M1 ds k1 e1 w h1 p hp => ?_
  obtain ⟨GG, Y, wk, hGG, hY⟩ := w.w
  obtain ⟨k1t, e1t, hm1, hn1, hb1, hg1'⟩ := k1.tmp (o := .lst []) hp
  have start : Grow K ρ B p σ H1 G1 Γ1 M1 [] [] σ (upd H1 p (.lst [])) G1 Γ1 M1 := ⟨k1t, e1t.g, e1t.tmp, e1t.nn, fun j s _ _ => by simp, ⟨[], upd_same, repL_nil.mpr rfl⟩, hg1', hm1, hn1, hb1, hp⟩
  refine turns_it wk (fun i H2 => ∃ G2 Γ2 M2 acc, Grow K ρ B p σ H1 G1 Γ1 M1 vs acc σ H2 G2 Γ2 M2 ∧ aLcO ai1 ag at' ag1 at1 ae vs vs1 (fun acc Γ2 M2 => Q (.tmp (.lst acc)) Γ2 M2) (ds.drop i) acc Γ2 M2) ?_ ?_ ?_ ?_
  · exact ⟨G1, wipeS Γ1 vs, M1, [], start.leave rfl, h1⟩
  · rintro i H2 _ ⟨G2, Γ2, M2, acc, gr, _⟩
    exact hGG H2 (gr.g.trans gr.ok.ex)
  · rintro i x H2 H2' hin ⟨G2, Γ2, M2, acc, gr, h2⟩ y
    rw [List.drop_eq_getElem_cons hin] at h2
    obtain ⟨G3, k3, e3, rp⟩ := (hY i H2 x H2' _ (List.getElem?_eq_getElem hin) (gr.g.trans gr.ok.ex) y).ok gr.ok gr.g
    have gr3 := ((gr.es k3 e3).to k3 (fun _ z => z) gr.wi).enter
    refine hg B (wipe σ vs) H2' G3 Γ2 M2 _ x _ _ gr3.ok rp h2 fun σ2 Γ3 k4 w4 o4 h4 => ⟨by rw [w4 vs hsub, wipe_wipe], ?_⟩
    have hw2 : wipe σ2 vs = wipe σ vs := by rw [w4 vs hsub, wipe_wipe]
    have gr4 : Grow K ρ B p σ H1 G1 Γ1 M1 [] acc σ2 H2' G3 Γ3 M2 := gr3.to k4 o4 fun j s _ _ => by simp
    refine ht B σ2 H2' G3 Γ3 M2 _ _ k4 h4 fun b H5 G5 Γ5 M5 k5 e5 h5 => ?_
    have gr5 := gr4.es k5 e5
    cases b with
    | false => exact ⟨G5, wipeS Γ5 vs, M5, acc, gr5.leave hw2, by simpa using h5⟩
    | true =>
      refine hi1 B σ2 H5 G5 Γ5 M5 _ _ k5 (by simpa using h5) fun J1 H6 G6 Γ6 M6 es k6 e6 w6 h6 => ?_
      obtain ⟨GG1, Y1, wk1, hGG1, hY1⟩ := w6.w
      have gr6 := gr5.es k6 e6
      refine turns_it wk1 (fun j H7 => ∃ G7 Γ7 M7 acc, Grow K ρ B p σ H1 G1 Γ1 M1 vs1 acc σ2 H7 G7 Γ7 M7 ∧ Ex G6 G7 ∧ aLcL ag1 at1 ae vs1 (fun acc' Γ4 M4 => aLcO ai1 ag at' ag1 at1 ae vs vs1 (fun acc Γ2 M2 => Q (.tmp (.lst acc)) Γ2 M2) (ds.drop (i + 1)) acc' (wipeS Γ4 vs) M4) (es.drop j) acc Γ7 M7) ?_ ?_ ?_ ?_
      · exact ⟨G6, wipeS Γ6 vs1, M6, acc, gr6.leave rfl, Ex.refl _, h6⟩
      · rintro j H7 _ ⟨G7, Γ7, M7, acc, gr7, x7, _⟩
        exact hGG1 H7 (x7.trans gr7.ok.ex)
      · rintro j x7 H7 H7' hin7 ⟨G7, Γ7, M7, acc, gr7, x7, h7⟩ y7
        rw [List.drop_eq_getElem_cons hin7] at h7
        obtain ⟨G8, k8, e8, rp8⟩ := (hY1 j H7 _ H7' _ (List.getElem?_eq_getElem hin7) (x7.trans gr7.ok.ex) y7).ok gr7.ok x7
        have gr8 := ((gr7.es k8 e8).to k8 (fun _ z => z) gr7.wi).enter
        refine hg1 B (wipe σ2 vs1) H7' G8 Γ7 M7 _ _ _ _ gr8.ok rp8 h7 fun σ3 Γ9 k9 w9 o9 h9 => ⟨by rw [w9 vs1 hsub1, wipe_wipe], ?_⟩
        have hw3 : wipe σ3 vs1 = wipe σ2 vs1 := by rw [w9 vs1 hsub1, wipe_wipe]
        have gr9 : Grow K ρ B p σ H1 G1 Γ1 M1 [] acc σ3 H7' G8 Γ9 M7 := gr8.to k9 o9 fun j s _ _ => by simp
        refine ht1 B σ3 H7' G8 Γ9 M7 _ _ k9 h9 fun b HA GA ΓA MA kA eA hA => ?_
        have grA := gr9.es kA eA
        cases b with
        | false => exact ⟨GA, wipeS ΓA vs1, MA, acc, grA.leave hw3, (x7.trans e8.g).trans eA.g, by simpa using hA⟩
        | true =>
          refine he B σ3 HA GA ΓA MA _ _ kA (by simpa using hA) fun v HB GB ΓB MB r kB eB rr hB => ?_
          obtain ⟨GC, ΓC, yv, kC, eC, rpC, hlen, hC⟩ := frz_ok (H0 := HA) kB eB rr hB
          have grC := (grA.es kC eC).leave hw3
          obtain ⟨xs, pC, raC⟩ := grC.here
          exact ⟨xs, pC, by rw [raC.length]; exact hlen, GC, wipeS ΓC vs1, MB, acc ++ [yv], grC.add pC raC rpC, ((x7.trans e8.g).trans eA.g).trans eC.g, hC⟩
      · rintro H7 ⟨G7, Γ7, M7, acc, gr7, x7, h7⟩
        rw [List.drop_length] at h7
        exact ⟨G7, wipeS Γ7 vs, M7, acc, (gr7.to gr7.ok (fun _ z => z) (fun j s _ _ => by simp) : Grow K ρ B p σ H1 G1 Γ1 M1 [] acc σ2 H7 G7 Γ7 M7).leave hw2, h7⟩
  · rintro H2 ⟨G2, Γ2, M2, acc, gr, h2⟩
    rw [List.drop_length] at h2
    obtain ⟨xs, hp2, ra2⟩ := gr.here
    exact q _ H2 G2 Γ2 M2 (.tmp (.lst acc)) gr.ok (e1.trans ⟨gr.g, gr.tmp, gr.nn⟩) ⟨p, rfl, e1.nn p hp, hb1, ⟨gr.gp, _, hp2, xs, rfl, ra2⟩, gr.mp, gr.op⟩ h2
theorem q_comp2 (vs1 : List Nat) {elt iter iter1 : Expr} {ifs ifs1 : List Expr} {scope : Scope} {own : List (Str × Nat)} {wi wi1 : TI} {ai ai1 : AI} {g g1 : TG} {ag ag1 : AG} {is is1 : List Nat} {tt tt1 : TT} {at' at1 : AT} (hN : X.N.Nodup) (hi : QI X ρ tg iter wi ai) (ok : BlkOk X.N X.env.scope scope own)
    (hg : ∀ (s : Shared) (H : Hp) (C : Addr) (cl : List (Str × Addr)) (fp : List Addr), QG (X.blk s H scope (compEnvC scope cl C X.env) fp) ρ tg g ag is) (ht : ∀ (s : Shared) (H : Hp) (C : Addr) (cl : List (Str × Addr)) (fp : List Addr), QTs (X.blk s H scope (compEnvC scope cl C X.env) fp) ρ ifs tt at')
    (hi1 : ∀ (s : Shared) (H : Hp) (C : Addr) (cl : List (Str × Addr)) (fp : List Addr), QI (X.blk s H scope (compEnvC scope cl C X.env) fp) ρ tg1 iter1 wi1 ai1) (hg1 : ∀ (s : Shared) (H : Hp) (C : Addr) (cl : List (Str × Addr)) (fp : List Addr), QG (X.blk s H scope (compEnvC scope cl C X.env) fp) ρ tg1 g1 ag1 is1) (ht1 : ∀ (s : Shared) (H : Hp) (C : Addr) (cl : List (Str × Addr)) (fp : List Addr), QTs (X.blk s H scope (compEnvC scope cl C X.env) fp) ρ ifs1 tt1 at1)
    (he : ∀ (s : Shared) (H : Hp) (C : Addr) (cl : List (Str × Addr)) (fp : List Addr), QE (X.blk s H scope (compEnvC scope cl C X.env) fp) ρ elt te ae) (s0 : Shared) (hsub : ∀ j ∈ is, j ∈ own.map (·.2) := by decide) (hsub1 : ∀ j ∈ is1, j ∈ vs1 := by decide) (hv : ∀ i ∈ vs1, i ∈ own.map (·.2) := by decide) (hc : X.calm = true := by rfl) (hs : ∀ x, foldedSetIterable iter X.env x = pure x := by intro _; rfl) (hs1 : ∀ env x, foldedSetIterable iter1 env x = pure x := by intro _ _; rfl) :
    QE X ρ (.ListComp elt [⟨tg, iter, ifs, 0⟩, ⟨tg1, iter1, ifs1, 0⟩] scope pos) (tLc2 wi g tt wi1 g1 tt1 te (own.map (·.2)) vs1) (aLc2 ai ag at' ai1 ag1 at1 ae (own.map (·.2)) vs1) := ⟨pe_lc2 hc hN hi.pe ok hv (fun s H C cl fp => (hg s H C cl fp).pe) (fun s H C cl fp => (ht s H C cl fp).pe) (fun s H C cl fp => (hi1 s H C cl fp).pe) (fun s H C cl fp => (hg1 s H C cl fp).pe) (fun s H C cl fp => (ht1 s H C cl fp).pe) (fun s H C cl fp => (he s H C cl fp).pe) hs hs1, (rd_lc2 hi.rd (hg s0 X.H_0 0 [] []).rd hsub (ht s0 X.H_0 0 [] []).rd (hi1 s0 X.H_0 0 [] []).rd (hg1 s0 X.H_0 0 [] []).rd hsub1 hv (ht1 s0 X.H_0 0 [] []).rd (he s0 X.H_0 0 [] []).rd)⟩
def rowD (r : List Int) : D := .tup (r.map .int)
def rowsD : List D → Option (List (List Int))
  | [] => some []
  | .tup es :: ds => match intsD es, rowsD ds with
    | some r, some rs => some (r :: rs)
    | _, _ => none
  | _ :: _ => none
end
section
variable {prog : Program} {w : World} {A : Around} {E : Value → Shared → Prop} {s : Shared}
end
section
variable {X : Cx} {a : Expr} {ta : TE} {aa : AE} {pos : Pos} {K : PySem.W.Frag}
def aSortRows (r : Ret) (Γ : Sl) (M : Mem) (Q : Ret → Sl → Mem → Prop) : Prop := match sqOf r Γ M with
  | some (.lst ds) => match rowsD ds with
    | some rs => (rs.length < 64 ∧ ∃ n, ∀ r ∈ rs, r.length = n ∧ TS.Bd 64 r) ∧ ∀ os : List (List Int), os.Pairwise (fun r q => HT.lexLt r q = true) → (∀ r, r ∈ os ↔ r ∈ rs) → Q (.tmp (.lst (os.map rowD))) Γ M
    | none => False
  | _ => False
end
def e_aLc2 := @aLc2.eq_def
def e_aSortRows := @aSortRows.eq_def
end Gw

namespace Gw
open PySem L2 PyProof.Rows
theorem DcT.at {h h' : Heap} {a : Addr} {L : List RE} (t : DcT h a L) (k : ∀ o, h.get? a = some o → h'.get? a = some o) : DcT h' a L := by
  obtain ⟨xs, pr, o, es, ep, ho, r⟩ := t.ex
  exact ⟨⟨xs, pr, o, es, ep, k o ho, r⟩, t.few, t.sys⟩
section
variable {X : Cx} {o i e f value : Expr} {pos pos' apos cpos : Pos} {td ty tv tx : TE} {pins : List (Addr × Obj)} {σ : L2.St} {H : Hp} {s : Shared} {a : Addr} {L : List RE} {K : PySem.W.Frag}
end
end Gw

namespace Gw
open PySem L2 PyProof.Rows
variable {ρ : Ent}
def keyT : D → Option (List Int)
  | .tup ds => intsD ds
  | _ => none
def getT : List (List Int) → List D → List Int → Option D
  | k :: ks, d :: ds, x => if k = x then some d else getT ks ds x
  | _, _, _ => none
def putT : List (List Int) → List D → List Int → D → List (List Int) × List D
  | k :: ks, e :: ds, x, d => if k = x then (k :: ks, d :: ds) else (k :: (putT ks ds x d).1, e :: (putT ks ds x d).2)
  | _, _, x, d => ([x], [d])
def itemsT : List (List Int) → List D → List D
  | k :: ks, d :: ds => .tup [rowD k, d] :: itemsT ks ds
  | _, _ => []
section
variable {X : Cx} {a b c e : Expr} {ta tb tc te : TE} {aa ab ac ae : AE} {pos : Pos} {K : PySem.W.Frag} {B : Ent} {σ : L2.St} {H G H1 G1 H2 G2 H0 : Hp} {Γ Γ1 Γ2 : Sl} {M M1 M2 : Mem}
def dcTOf (r : Ret) (Γ : Sl) (M : Mem) : Option (List (List Int) × List D) := match r with
  | .dat (.dcT ks ds) => some (ks, ds)
  | .dat (.ref a) => match M.lookup a with
    | some (.dcT ks ds) => some (ks, ds)
    | _ => none
  | .tmp (.dcT ks ds) => some (ks, ds)
  | .var i => match Γ[i]? with
    | some (.own (.dcT ks ds)) => some (ks, ds)
    | some (.dat (.dcT ks ds)) => some (ks, ds)
    | _ => none
  | _ => none
structure SeeT (K : PySem.W.Frag) (H G : Hp) (l : Addr) (L : List RE) (t : List (List Int) × List D) : Prop where
  rd : Rd H l (DcO l L)
  ks : L.map (·.1) = t.1
  key : KeyR K G L
  val : RepL K G t.2 (L.map (·.2.2))
def aTNew (Γ : Sl) (M : Mem) (Q : Ret → Sl → Mem → Prop) : Prop := Q (.tmp (.dcT [] [])) Γ M
def aTGet (ad ay : AE) (Γ : Sl) (M : Mem) (Q : Ret → Sl → Mem → Prop) : Prop := ad Γ M fun r Γ1 M1 => ay Γ1 M1 fun ry Γ2 M2 => match ry with
  | .dat y => match keyT y with
    | some k => match dcTOf r Γ2 M2 with
      | some t => match getT t.1 t.2 k with
        | some d => Q (.dat d) Γ2 M2
        | none => False
      | none => False
    | none => False
  | _ => False
def aTGet2 (ad ay az : AE) (Γ : Sl) (M : Mem) (Q : Ret → Sl → Mem → Prop) : Prop := ad Γ M fun r Γ1 M1 => (dcTOf r Γ1 M1).isSome = true ∧ ay Γ1 M1 fun ry Γ2 M2 => az Γ2 M2 fun rz Γ3 M3 => match ry with
  | .dat y => match rz with
    | .dat z => match keyT y with
      | some k => match dcTOf r Γ3 M3 with
        | some t => Q (.dat ((getT t.1 t.2 k).getD z)) Γ3 M3
        | none => False
      | none => False
    | _ => False
  | _ => False
def aTPut (ae ao ai : AE) (A : AEnds) (Γ : Sl) (M : Mem) : Prop := ae Γ M fun r Γ0 M0 => frz r Γ0 fun d Γ1 => ao Γ1 M0 fun ro Γ2 M2 => ai Γ2 M2 fun ri Γ3 M3 => match ri with
  | .dat y => match keyT y with
    | some k => match cget ro Γ3 M3 with
      | some (.dcT ks ds) => ks.length < sizeLine ∧ cput ro (.dcT (putT ks ds k d).1 (putT ks ds k d).2) Γ3 M3 fun Γ4 M4 => A.nx Γ4 M4
      | _ => False
    | none => False
  | _ => False
def aTItems (aa : AE) (Γ : Sl) (M : Mem) (Q : List D → Sl → Mem → Prop) : Prop := aa Γ M fun r Γ1 M1 => match r with
  | .dat (.dcT ks ds) => Q (itemsT ks ds) Γ1 M1
  | _ => False
def aTIn (f : Bool → Bool) (ay ad : AE) (Γ : Sl) (M : Mem) (Q : Ret → Sl → Mem → Prop) : Prop := ay Γ M fun ry Γ1 M1 => ad Γ1 M1 fun r Γ2 M2 => match ry with
  | .dat y => match keyT y with
    | some k => match dcTOf r Γ2 M2 with
      | some t => Q (.dat (.bl (f (getT t.1 t.2 k).isSome))) Γ2 M2
      | none => False
    | none => False
  | _ => False
def aSortT (r : Ret) (Γ : Sl) (M : Mem) (Q : Ret → Sl → Mem → Prop) : Prop := match dcTOf r Γ M with
  | some t => (t.1.length < 64 ∧ ∃ n, ∀ r ∈ t.1, r.length = n ∧ TS.Bd 64 r) ∧ ∀ os : List (List Int), os.Pairwise (fun r q => HT.lexLt r q = true) → os.Perm t.1 → Q (.tmp (.lst (os.map rowD))) Γ M
  | none => False
end
def e_aTNew := @aTNew.eq_def
def e_aTGet := @aTGet.eq_def
def e_aTGet2 := @aTGet2.eq_def
def e_aTPut := @aTPut.eq_def
def e_aTItems := @aTItems.eq_def
def e_aTIn := @aTIn.eq_def
def e_aSortT := @aSortT.eq_def
def e_dcTOf := @dcTOf.eq_def
end Gw

namespace Gw
open PySem L2 PyProof.Rows
variable {ρ : Ent}
section
variable {X : Cx} {a : Expr} {ta : TE} {aa : AE} {pos : Pos} {K : PySem.W.Frag} {pins : List (Addr × Obj)} {σ : L2.St} {H G : Hp} {s : Shared}
def pairsT : List D → Option (List (List Int × D))
  | [] => some []
  | d :: ds => match d with
    | .tup [k, e] => match keyT k, pairsT ds with
      | some r, some ps => some ((r, e) :: ps)
      | _, _ => none
    | _ => none
def putAllT (t : List (List Int) × List D) (ps : List (List Int × D)) : List (List Int) × List D := ps.foldl (fun t p => putT t.1 t.2 p.1 p.2) t
def aDictT (r : Ret) (Γ : Sl) (M : Mem) (Q : Ret → Sl → Mem → Prop) : Prop := match sqOf r Γ M with
  | some (.lst ds) => match pairsT ds with
    | some ps => Q (.tmp (.dcT (putAllT ([], []) ps).1 (putAllT ([], []) ps).2)) Γ M
    | none => False
  | some (.tup ds) => match pairsT ds with
    | some ps => Q (.tmp (.dcT (putAllT ([], []) ps).1 (putAllT ([], []) ps).2)) Γ M
    | none => False
  | _ => False
end
def e_aDictT := @aDictT.eq_def
end Gw

namespace Gw
open PySem L2 PyProof.Rows
variable {ρ : Ent}
section
variable {X : Cx} {kx vx tg iter : Expr} {ifs : List Expr} {scope : Scope} {own : List (Str × Nat)} {pos : Pos} {wi : TI} {g : TG} {tt : TT} {tk tv : TE} {pins : List (Addr × Obj)} {σ : L2.St} {H : Hp} {s : Shared}
end
section
variable {X : Cx} {kx vx tg iter : Expr} {ifs : List Expr} {pos : Pos} {tk tv : TE} {ak av : AE} {K : PySem.W.Frag} {B : Ent} {σ σ' σ0 : L2.St} {H G H0 G0 H2 G2 : Hp} {Γ Γ' Γ0 Γ2 : Sl} {M M0 M2 : Mem} {p : Addr} {vs : List Nat} {c : Cell}
structure Grows (K : PySem.W.Frag) (ρ : Ent) (B : Ent) (p : Addr) (σ0 : L2.St) (H0 G0 : Hp) (Γ0 : Sl) (M0 : Mem) (vs : List Nat) (c : Cell) (σ : L2.St) (H G : Hp) (Γ : Sl) (M : Mem) : Prop where
  ok : Ok K ρ B σ H G Γ M
  g : Ex G0 G
  tmp : ∀ a o, H0 a = some o → G0 a = none → a ∉ dom M0 → ¬ owned σ0 Γ0 a → H a = some o ∧ G a = none ∧ a ∉ dom M ∧ ¬ owned σ Γ a
  nn : ∀ a, H a = none → H0 a = none
  wi : ∀ (j : Nat) (s : Slot), Γ[j]? = some s → s ≠ .non → j ∉ vs
  here : Cel K H G p c
  mp : p ∉ dom M
  op : ¬ owned σ Γ p
  base : B.H p = none ∧ H0 p = none
theorem Grows.es (w : Grows K ρ B p σ0 H0 G0 Γ0 M0 vs c σ H G Γ M) (k : Ok K ρ B σ H2 G2 Γ2 M2) (e : Es σ H G Γ M H2 G2 Γ2 M2) : Grows K ρ B p σ0 H0 G0 Γ0 M0 [] c σ H2 G2 Γ2 M2 := by
  obtain ⟨gp, o, hp, hc⟩ := w.here
  obtain ⟨p1, p2, p3, p4⟩ := e.tmp p _ hp gp w.mp w.op
  refine ⟨k, w.g.trans e.g, fun a o h g m n => ?_, fun a z => w.nn a (e.nn a z), fun j s _ _ => by simp, ⟨p2, o, p1, hc.mono e.g⟩, p3, p4, w.base⟩
  obtain ⟨a1, a2, a3, a4⟩ := w.tmp a o h g m n
  exact e.tmp a o a1 a2 a3 a4
theorem Grows.to (w : Grows K ρ B p σ0 H0 G0 Γ0 M0 vs c σ H G Γ M) (k : Ok K ρ B σ' H G Γ' M) (o : ∀ x, owned σ' Γ' x → owned σ Γ x) {us : List Nat} (hw : ∀ (j : Nat) (s : Slot), Γ'[j]? = some s → s ≠ .non → j ∉ us) : Grows K ρ B p σ0 H0 G0 Γ0 M0 us c σ' H G Γ' M := by
  refine ⟨k, w.g, fun a o' h g m n => ?_, w.nn, hw, w.here, w.mp, fun z => w.op (o _ z), w.base⟩
  obtain ⟨a1, a2, a3, a4⟩ := w.tmp a o' h g m n
  exact ⟨a1, a2, a3, fun z => a4 (o _ z)⟩
theorem Grows.put {c' : Cell} {u : HO} (w : Grows K ρ B p σ0 H0 G0 Γ0 M0 vs c σ H G Γ M) (hu : CellOk K G p c' u) : Grows K ρ B p σ0 H0 G0 Γ0 M0 vs c' σ (upd H p u) G Γ M := by
  obtain ⟨gp, o, hp, hc⟩ := w.here
  refine ⟨w.ok.updTmp' hp w.base.1 gp w.mp w.op, w.g, fun a o h g m n => ?_, fun a z => ?_, w.wi, ⟨gp, u, upd_same, hu⟩, w.mp, w.op, w.base⟩
  · obtain ⟨a1, a2, a3, a4⟩ := w.tmp a o h g m n
    exact ⟨by rw [upd_ne (ne_of_none h w.base.2)]; exact a1, a2, a3, a4⟩
  · by_cases e : a = p
    · subst e; exact w.base.2
    · rw [upd_ne e] at z; exact w.nn a z
theorem Grows.enter (w : Grows K ρ B p σ0 H0 G0 Γ0 M0 vs c σ H G Γ M) : Grows K ρ B p σ0 H0 G0 Γ0 M0 vs c (wipe σ vs) H G Γ M := by
  obtain ⟨k, o⟩ := w.ok.agree (σ' := wipe σ vs) (Γ' := Γ) (fun j s a b => ⟨a, wipe_out (w.wi j s a b)⟩) (by rw [wipe_length]; exact w.ok.len)
  exact w.to k o w.wi
theorem Grows.leave (w : Grows K ρ B p σ0 H0 G0 Γ0 M0 [] c σ' H G Γ M) (hw : wipe σ' vs = wipe σ vs) : Grows K ρ B p σ0 H0 G0 Γ0 M0 vs c σ H G (wipeS Γ vs) M := by
  have ag : ∀ j, j ∉ vs → σ[j]? = σ'[j]? := fun j hj => by rw [← wipe_out (σ := σ') hj, hw, wipe_out hj]
  have hl : σ'.length = σ.length := by rw [← wipe_length σ' vs, hw, wipe_length]
  obtain ⟨k, o⟩ := w.ok.agree (σ' := σ) (Γ' := wipeS Γ vs) (fun j s a b => ⟨(wipeS_some a b).1, ag j (wipeS_some a b).2⟩) (by rw [wipeS_length, w.ok.len, hl])
  exact w.to k o fun j s a b => (wipeS_some a b).2
def aDcL (g : AG) (tt : AT) (ak av : AE) (vs : List Nat) (k : List (List Int) × List D → Sl → Mem → Prop) : List D → List (List Int) × List D → Sl → Mem → Prop
  | [], t, Γ, M => k t Γ M
  | d :: ds, t, Γ, M => g d Γ fun Γ1 => tt Γ1 M fun b Γ2 M2 => if b = true then ak Γ2 M2 fun rk Γ3 M3 => match rk with
      | .dat y => match keyT y with
        | some key => av Γ3 M3 fun rv Γ4 M4 => frz rv Γ4 fun e Γ5 => t.1.length < sizeLine ∧ aDcL g tt ak av vs k ds (putT t.1 t.2 key e) (wipeS Γ5 vs) M4
        | none => False
      | _ => False
    else aDcL g tt ak av vs k ds t (wipeS Γ2 vs) M2
structure WitD (k : List (List Int) × List D → Sl → Mem → Prop) : Type where
def dcW (g : AG) (tt : AT) (ak av : AE) (vs : List Nat) (k : List (List Int) × List D → Sl → Mem → Prop) (_ : WitD k) (ds : List D) (t : List (List Int) × List D) (Γ : Sl) (M : Mem) : Prop := aDcL g tt ak av vs k ds t Γ M
def aDcR (ai : AI) (g : AG) (tt : AT) (ak av : AE) (vs : List Nat) (Γ : Sl) (M : Mem) (Q : Ret → Sl → Mem → Prop) : Prop := ai Γ M fun ds Γ1 M1 => dcW g tt ak av vs (fun t Γ2 M2 => Q (.tmp (.dcT t.1 t.2)) Γ2 M2) ⟨⟩ ds ([], []) (wipeS Γ1 vs) M1
end
def e_aDcR := @aDcR.eq_def
end Gw

namespace Gw
open PySem L2 PyProof.Rows
variable {ρ : Ent}
section
variable {X : Cx} {a b : Expr} {ta tb : TE} {aa ab : AE} {pos : Pos} {K : PySem.W.Frag} {B : Ent} {σ : L2.St} {H G : Hp} {Γ : Sl} {M : Mem}
def aOneR (aa ab : AE) (Γ : Sl) (M : Mem) (Q : Ret → Sl → Mem → Prop) : Prop := aa Γ M fun rk Γ1 M1 => match rk with
  | .dat y => match keyT y with
    | some k => ab Γ1 M1 fun rv Γ2 M2 => match rv with
      | .dat d => Q (.tmp (.dcT [k] [d])) Γ2 M2
      | _ => False
    | none => False
  | _ => False
end
def e_aOneR := @aOneR.eq_def
end Gw

namespace Gw
open PySem L2 PyProof.Rows
variable {ρ : Ent}
def wk (Q : Ret → Mem → Prop) (r : Ret) (M : Mem) : Prop := ∃ M', List.Sublist M' M ∧ Q r M'
theorem wk_tail {Q : Ret → Mem → Prop} {r : Ret} {p : Addr × Cell} {M : Mem} (h : Q r M) : wk Q r (p :: M) := ⟨M, .cons p (.refl _), h⟩
section
variable {P : Program} {w : World} {K : PySem.W.Frag} {mg : Str → Option Value} {base : Heap}
theorem dom_sub {M M' : Mem} (h : List.Sublist M' M) : List.Sublist (dom M') (dom M) := h.map _
theorem Post.sub {H G H' G' : Hp} {M M1 M2 : Mem} (h : List.Sublist M2 M1) (p : Post K H G M H' G' M1) : Post K H G M H' G' M2 := by
  obtain ⟨st, ex, nd, ms⟩ := p
  exact ⟨⟨st.g, st.fr, st.gn, fun a ha => st.mn a ((dom_sub h).subset ha), st.nn⟩, ex, (dom_sub h).nodup nd, fun a c hc => ms a c (h.subset hc)⟩
theorem RetOk.sub {H H' G' : Hp} {M1 M2 : Mem} {r : Ret} {v : V} (h : List.Sublist M2 M1) (p : RetOk K H H' G' M1 r v) : RetOk K H H' G' M2 r v := by
  cases r with
  | dat d => exact p
  | tmp c =>
    obtain ⟨q, e, hq, hc, hm⟩ := p
    exact ⟨q, e, hq, hc, fun z => hm ((dom_sub h).subset z)⟩
  | var i => exact p
theorem FnG.weaken {CX : CXT} {k : Nat} {f : Addr} {fd : FuncData} {ps : List Str} {sp sp' : Sp} (F : FnG P w K mg base CX k f fd ps sp) (h : ∀ vs H Q E, sp' vs H Q E → sp vs H Q E) : FnG P w K mg base CX k f fd ps sp' :=
  ⟨fun vs H Q E z => F.arity vs H Q E (h vs H Q E z), fun A o s H ar us vs Q E r gd env b rl z => F.go A o s H ar us vs Q E r gd env b rl (h vs H Q E z)⟩
theorem fn_okW {k : Nat} {x qual : Str} {st : Stmt} {f : Addr} {fd : FuncData} {N ps : List Str} {S : ASp} (F : Fun K x qual st f fd) (sc : FnScope N ps (defScope st)) (hn : Ar ps.length S) {as : AS}
    (hb : ∀ (ρ : Ent) (cd : Value) (A : Around) (outer : List Env) (s : Shared) (H : Hp) (E : XK), Room k (A.deeper (envOfC qual (defScope st) s.heap.objs.size f cd)) → A.guards = some [] → ∃ ts, QSs (cxOf CX0 P w K mg base N qual (defScope st) f cd A outer s H E).nox ρ (defBody st) ts as)
    (hr : ∀ ds M Q, S ds M Q → as (endsOf (wk Q)) (slots N.length ds) M) : FnG P w K mg base CX0 (k + 1) f fd ps (spA K ps.length S) := by
  have F0 := fn_ok (S := fun ds M Q' => ∃ Q, S ds M Q ∧ Q' = wk Q) F sc (fun ds M Q' ⟨Q, h, _⟩ => hn ds M Q h) hb (fun ds M Q' ⟨Q, h, e⟩ => by rw [e]; exact hr ds M Q h)
  refine F0.weaken ?_
  rintro vs H Q E ⟨G, M, ds, hl, ex, nd, ms, rl, Qa, hS, fin⟩
  refine ⟨G, M, ds, hl, ex, nd, ms, rl, wk Qa, ⟨Qa, hS, rfl⟩, ?_⟩
  rintro r M' v H' G' ⟨M2, hs, hq⟩ po ro
  exact fin r M2 v H' G' hq (po.sub hs) (ro.sub hs)
end
end Gw

namespace Gw
open PySem L2 PyProof.Rows
variable {ρ : Ent}
def aPutI (d : D) (ao ai : AE) (k : Sl → Mem → Prop) (Γ : Sl) (M : Mem) : Prop := ao Γ M fun ro Γ2 M2 => ai Γ2 M2 fun ri Γ3 M3 => match ri, lget ro Γ3 M3 with
  | .dat (.int i), some ds => match ixN ds.length i with
    | some j => lput ro (ds.set j d) Γ3 M3 k
    | none => False
  | _, _ => False
def aSetI2 (aa : AA) (ao ai ap aj : AE) (A : AEnds) (Γ : Sl) (M : Mem) : Prop := aa Γ M fun ds Γ1 M1 => match ds with
  | [d, e] => aPutI d ao ai (aPutI e ap aj A.nx) Γ1 M1
  | _ => False
section
variable {X : Cx} {a b o i p j : Expr} {to ti tp tj : TE} {ao ai ap aj : AE} {K : PySem.W.Frag} {B : Ent} {σ : L2.St} {H G : Hp} {Γ : Sl} {M : Mem}
end
def aIAny (aa : AE) (Γ : Sl) (M : Mem) (Q : List D → Sl → Mem → Prop) : Prop := aISeq aa Γ M Q ∨ aITup aa Γ M Q
def e_aIAny := @aIAny.eq_def
def aIsB (f : Bool → Bool) (x : Ret) (y : Ret) (Γ : Sl) (M : Mem) (Q : Ret → Sl → Mem → Prop) : Prop := match x, y with
  | .dat (.bl a), .dat (.bl b) => Q (.dat (.bl (f (decide (a = b))))) Γ M
  | _, _ => False
def e_aIsB := @aIsB.eq_def
def e_aPutI := @aPutI.eq_def
def e_aSetI2 := @aSetI2.eq_def
end Gw

namespace Gw
open PySem L2 PyProof.Rows
open PySem.W (EachIs AllAlike Sortable dataLe)
open L2.DX (itemsO itemsO_ok)
variable {ρ : Ent}
section
variable {X : Cx} {e : Expr} {td : TE} {apos cpos : Pos} {K : PySem.W.Frag} {B : Ent} {σ : L2.St} {H G H1 G1 : Hp} {Γ Γ1 : Sl} {M M1 : Mem} {pins : List (Addr × Obj)} {s : Shared}
def aSortIt (aa : AE) (Γ : Sl) (M : Mem) (Q : Ret → Sl → Mem → Prop) : Prop := aa Γ M fun r Γ1 M1 => match dcTOf r Γ1 M1 with
  | some t => (∀ d ∈ t.2, plain d = true ∧ dep d ≤ 60) ∧ AllAlike ((itemsT t.1 t.2).map toPy) ∧ Sortable ((itemsT t.1 t.2).map toPy) ∧ Q (.tmp (.lst (sortD (itemsT t.1 t.2)))) Γ1 M1
  | none => False
def aListRg (aa : AE) (Γ : Sl) (M : Mem) (Q : Ret → Sl → Mem → Prop) : Prop := aa Γ M fun r Γ1 M1 => match r with
  | .dat (.int n) => (-(2 ^ 62) ≤ n ∧ n ≤ 16777216) ∧ Q (.tmp (.lst (rngD 0 n.toNat))) Γ1 M1
  | _ => False
end
def e_aListRg := @aListRg.eq_def
def e_aSortIt := @aSortIt.eq_def
end Gw

namespace Gw
open PySem L2
theorem forA {α : Type} (enc : α → D) {g : AG} {body : AS} {A : AEnds} (I : List α → List α → Sl → Mem → Prop) (hn : ∀ dn Γ M, I dn [] Γ M → A.nx Γ M)
    (hc : ∀ dn x ls Γ M (K : Sl → Mem → Prop), I dn (x :: ls) Γ M → (∀ Γ' M', I (dn ++ [x]) ls Γ' M' → K Γ' M') → g (enc x) Γ fun Γ1 => body { A with nx := K, ct := K, bk := A.nx } Γ1 M) :
    ∀ (ls dn : List α) {Γ : Sl} {M : Mem}, I dn ls Γ M → aForL g body (ls.map enc) A Γ M
  | [], dn, Γ, M, h => hn dn Γ M h
  | x :: ls, dn, Γ, M, h => hc dn x ls Γ M _ h fun Γ' M' h' => forA enc I hn hc ls (dn ++ [x]) h'
theorem lcMapA {α : Type} (enc f : α → D) {g : AG} {ae : AE} {vs : List Nat} {k : List D → Sl → Mem → Prop} {Γ : Sl} {M : Mem} : ∀ (xs : List α) (acc : List D), acc.length + xs.length ≤ 16777216 →
    (∀ x ∈ xs, ∀ P : D → Sl → Mem → Prop, P (f x) Γ M → g (enc x) Γ fun Γ1 => ae Γ1 M fun r Γ3 M3 => frz r Γ3 fun y Γ4 => P y (wipeS Γ4 vs) M3) → k (acc ++ xs.map f) Γ M → aLcL g aYes ae vs k (xs.map enc) acc Γ M
  | [], acc, _, _, h => by simpa [aLcL] using h
  | x :: xs, acc, hl, hs, h => by
    rw [List.map_cons]
    unfold aLcL
    simp only [aYes, if_true]
    refine hs x List.mem_cons_self (fun y Γ' M' => acc.length < sizeLine ∧ aLcL g aYes ae vs k (xs.map enc) (acc ++ [y]) Γ' M') ⟨by rw [size_val]; simp at hl; omega, ?_⟩
    refine lcMapA enc f xs (acc ++ [f x]) (by simp at hl ⊢; omega) (fun e he => hs e (List.mem_cons_of_mem _ he)) ?_
    simpa using h
theorem lcFiltA {α : Type} (enc : α → D) (p : α → Bool) (f : α → D) {g : AG} {tt : AT} {ae : AE} {vs : List Nat} {k : List D → Sl → Mem → Prop} {Γ : Sl} {M : Mem} : ∀ (xs : List α) (acc : List D), acc.length + xs.length ≤ 16777216 →
    (∀ x ∈ xs, ∀ (P : D → Sl → Mem → Prop) (N : Sl → Mem → Prop), (p x = true → P (f x) Γ M) → (p x = false → N Γ M) → g (enc x) Γ fun Γ1 => tt Γ1 M fun b Γ2 M2 => if b = true then ae Γ2 M2 fun r Γ3 M3 => frz r Γ3 fun y Γ4 => P y (wipeS Γ4 vs) M3 else N (wipeS Γ2 vs) M2) →
    k (acc ++ (xs.filter p).map f) Γ M → aLcL g tt ae vs k (xs.map enc) acc Γ M
  | [], acc, _, _, h => by simpa [aLcL] using h
  | x :: xs, acc, hl, hs, h => by
    rw [List.map_cons]
    unfold aLcL
    refine hs x List.mem_cons_self (fun y Γ' M' => acc.length < sizeLine ∧ aLcL g tt ae vs k (xs.map enc) (acc ++ [y]) Γ' M') (fun Γ' M' => aLcL g tt ae vs k (xs.map enc) acc Γ' M') (fun e => ⟨by rw [size_val]; simp at hl; omega, ?_⟩) (fun e => ?_)
    · refine lcFiltA enc p f xs (acc ++ [f x]) (by simp at hl ⊢; omega) (fun e he => hs e (List.mem_cons_of_mem _ he)) ?_
      rw [List.filter_cons, if_pos e] at h
      simpa using h
    · refine lcFiltA enc p f xs acc (by simp at hl ⊢; omega) (fun e he => hs e (List.mem_cons_of_mem _ he)) ?_
      rw [List.filter_cons, if_neg (by rw [e]; decide)] at h
      exact h
theorem bls_fun {α : Type} {f : α → Bool} (xs : List α) : blsOf (xs.map fun x => .bl (f x)) = some (xs.map f) := by
  rw [show (xs.map fun x => D.bl (f x)) = (xs.map f).map D.bl by rw [List.map_map]; rfl, blsOf_map]
end Gw

namespace Gw
open PySem L2
variable {ρ : Ent}
def keyPy : L2.Key → PyData
  | .inl i => .int i
  | .inr x => .str x
mutual
def toPyN : D → PyData
  | .non => .none
  | .bl b => .bool b
  | .int i => .int i
  | .str x => .str x
  | .tup ds => .tuple (toPyNL ds)
  | .lst ds => .list (toPyNL ds)
  | .scr ds => .list (toPyNL ds)
  | .dct ks ds => .dict ((ks.map keyPy).zip (toPyNL ds))
  | .ref _ => .none
  | .exc _ _ _ => .none
  | .dcT _ _ => .none
  | .dcN _ _ => .none
def toPyNL : List D → List PyData
  | [] => []
  | d :: ds => toPyN d :: toPyNL ds
end
mutual
def plainN : D → Bool
  | .tup ds => plainNL ds
  | .lst ds => plainNL ds
  | .scr ds => plainNL ds
  | .dct _ ds => plainNL ds
  | .ref _ => false
  | .exc _ _ _ => false
  | .dcT _ _ => false
  | .dcN _ _ => false
  | .non => true
  | .bl _ => true
  | .int _ => true
  | .str _ => true
def plainNL : List D → Bool
  | [] => true
  | d :: ds => plainN d && plainNL ds
end
theorem toPyNL_len : ∀ ds : List D, (toPyNL ds).length = ds.length
  | [] => rfl
  | d :: ds => by rw [toPyNL, List.length_cons, toPyNL_len ds]; rfl
def RKs (P : Program) (w : World) (h : Heap) (u : Value) (d : PyData) : Prop := (∃ as, Reads h u d as) ∧ ∃ bs, ReadAtMost h d.depth bs ∧ ReprK P w bs h d.depth u d.shown
def RKsL (P : Program) (w : World) (h : Heap) (us : List Value) (ds : List PyData) : Prop := (∃ as, ReadsAll h us ds as) ∧ ∃ bs, ReadAtMost h (PyData.depthAll ds) bs ∧ ReprAllK P w bs h (PyData.depthAll ds) us (PyData.shownAll ds)
section
variable {P : Program} {w : World} {h : Heap}
theorem RKsL.nil : RKsL P w h [] [] := ⟨⟨[], .nil⟩, [], (fun _ z => nomatch z), by simp only [PyData.shownAll]; exact .nil⟩
theorem RKsL.cons {u : Value} {d : PyData} {us : List Value} {ds : List PyData} (a : RKs P w h u d) (b : RKsL P w h us ds) : RKsL P w h (u :: us) (d :: ds) := by
  obtain ⟨⟨as, r⟩, b1, hb1, k1⟩ := a
  obtain ⟨⟨as2, r2⟩, b2, hb2, k2⟩ := b
  refine ⟨⟨as ++ as2, .cons r r2⟩, b1 ++ b2, ?_, ?_⟩
  · simp only [PyData.depthAll]
    exact (hb1.mono (Nat.le_max_left _ _)).append (hb2.mono (Nat.le_max_right _ _))
  · simp only [PyData.depthAll, PyData.shownAll]
    exact .cons ((k1.more fun b hb => List.mem_append_left _ hb).level_le (Nat.le_max_left _ _)) (k2.more_le (fun b hb => List.mem_append_right _ hb) (Nat.le_max_right _ _))
theorem keys_pairs {knd : KeyKind P w L2.Key} (hk : ∀ k v, knd.is k v = true → keyIs k v = true) : ∀ {es : List DictEntry} {kvs : List (L2.Key × Value)}, Pairs knd es kvs → (∀ t ∈ (kvs.map (·.1)).map keyPy, t.showable = true ∧ t.shown.length ≤ sizeLine) → RKsL P w h (es.map (·.key)) ((kvs.map (·.1)).map keyPy) ∧ es.map (·.val) = kvs.map (·.2)
  | _, _, .nil, _ => ⟨RKsL.nil, rfl⟩
  | _, _, .cons (e := e) (kv := kv) (es := es) (kvs := kvs) h1 h2 r, hz => by
    obtain ⟨i1, i2⟩ := keys_pairs hk r fun t ht => hz t (by simp only [List.map_cons]; exact List.mem_cons_of_mem _ ht)
    obtain ⟨s, z⟩ := hz (keyPy kv.1) (by simp)
    refine ⟨?_, by rw [List.map_cons, List.map_cons, h2, i2]⟩
    rw [List.map_cons, List.map_cons, List.map_cons]
    refine RKsL.cons ?_ i1
    rcases keyIs_shape (hk _ _ h1) with ⟨i, t, e1, e2⟩ | ⟨x, t, e1, e2⟩
    · rw [e1, e2]
      rw [e1] at s
      refine ⟨⟨_, .int i t⟩, [], (fun _ q => nomatch q), ?_⟩
      simp only [keyPy, PyData.shown]
      exact .of_is (ReprIs.int t (by simpa [keyPy, PyData.showable] using s)) _ _ _
    · rw [e1, e2]
      rw [e1] at z
      refine ⟨⟨_, .str x t⟩, [], (fun _ q => nomatch q), ?_⟩
      simp only [keyPy, PyData.shown]
      exact .of_is (ReprIs.str x t (by simpa only [keyPy, PyData.shown] using z)) _ _ _
end
section
variable {X : Cx} {pins : List (Addr × Obj)} {σ : L2.St} {H : Hp} {s : Shared}
inductive Held (P : Program) (w : World) (h : Heap) (a : Addr) : PyData → Prop
  | lst {o : Obj} {us : List Value} {n : Nat} {ds : List PyData} (h1 : h.get? a = some o) (h2 : o.cls = .type "list") (h3 : o.data = .seq us.toArray n) (r : RKsL P w h us ds) : Held P w h a (.list ds)
  | tup {o : Obj} {us : List Value} {n : Nat} {ds : List PyData} (h1 : h.get? a = some o) (h2 : o.cls = .type "tuple") (h3 : o.data = .seq us.toArray n) (r : RKsL P w h us ds) : Held P w h a (.tuple ds)
  | dct {o : Obj} {es : Array DictEntry} {n : Nat} {kvs : List (PyData × PyData)} (h1 : h.get? a = some o) (h2 : o.cls = .type "dict") (h3 : o.data = .dict es n) (hs : (a == sysModules) = false) (r1 : RKsL P w h (es.toList.map (·.key)) (kvs.map (·.1))) (r2 : RKsL P w h (es.toList.map (·.val)) (kvs.map (·.2))) : Held P w h a (.dict kvs)
theorem Held.rk {P : Program} {w : World} {h : Heap} {a : Addr} {d : PyData} (x : Held P w h a d) : RKs P w h (.ref a) d := by
  cases x with
  | @lst o us n ds h1 h2 h3 r =>
    obtain ⟨⟨as, r⟩, bs, hb, hk⟩ := r
    have rd : Reads h (.ref a) (.list ds) (a :: as) := .list h1 h2 h3 r
    have hna : a ∉ bs := not_mem_of_deeper rd (by simp only [PyData.depth]; omega) hb
    refine ⟨⟨_, rd⟩, a :: bs, ReadAtMost.cons rd (by simp only [PyData.depth]; omega) hb, ?_⟩
    simp only [PyData.depth, PyData.shown]
    cases us with
    | nil =>
      cases r
      simp only [PyData.shownAll, listText_nil]
      exact ReprK.listEmpty h1 h2 h3
    | cons x l => exact ReprK.list h1 h2 h3 hna (by simpa using hk.length_eq) (fun i y e => hk.item i y (by simpa using e))
  | @tup o us n ds h1 h2 h3 r =>
    obtain ⟨⟨as, r⟩, bs, hb, hk⟩ := r
    have rd : Reads h (.ref a) (.tuple ds) as := .tuple h1 h2 h3 r
    have hna : a ∉ bs := not_mem_of_deeper rd (by simp only [PyData.depth]; omega) hb
    refine ⟨⟨_, rd⟩, a :: bs, ReadAtMost.cons rd (by simp only [PyData.depth]; omega) hb, ?_⟩
    simp only [PyData.depth, PyData.shown]
    exact ReprK.tuple h1 h2 h3 hna hk
  | @dct o es n kvs h1 h2 h3 hs r1 r2 =>
    obtain ⟨⟨as, r1⟩, b1, hb1, k1⟩ := r1
    obtain ⟨⟨as2, r2⟩, b2, hb2, k2⟩ := r2
    have rd : Reads h (.ref a) (.dict kvs) _ := .dict h1 h2 h3 r1 r2
    have hb : ReadAtMost h (PyData.depthKv kvs) (b1 ++ b2) := (hb1.mono (PyData.depthAll_keys_le kvs)).append (hb2.mono (PyData.depthAll_vals_le kvs))
    have hna : a ∉ b1 ++ b2 := not_mem_of_deeper rd (by simp only [PyData.depth]; omega) hb
    refine ⟨⟨_, rd⟩, a :: (b1 ++ b2), ReadAtMost.cons rd (by simp only [PyData.depth]; omega) hb, ?_⟩
    simp only [PyData.depth, PyData.shown, PyData.shownKv_eq]
    exact ReprK.dict h1 h2 h3 hs hna (ReprEntriesK.of_two es.toList _ _
      (k1.more_le (fun b hb => List.mem_append_left _ hb) (PyData.depthAll_keys_le kvs)) (k2.more_le (fun b hb => List.mem_append_right _ hb) (PyData.depthAll_vals_le kvs)))
def fits (d : PyData) : Prop := d.showable = true ∧ d.shown.length ≤ sizeLine
def fitsL (ds : List PyData) : Prop := PyData.showableAll ds = true ∧ ∀ t ∈ PyData.shownAll ds, t.length ≤ sizeLine
theorem fitsL_cons {d : PyData} {ds : List PyData} (h : fitsL (d :: ds)) : fits d ∧ fitsL ds := by
  have h1 : d.showable = true ∧ PyData.showableAll ds = true := by simpa [PyData.showableAll] using h.1
  exact ⟨⟨h1.1, h.2 _ (by simp only [PyData.shownAll]; exact List.mem_cons_self ..)⟩, h1.2, fun t ht => h.2 t (by simp only [PyData.shownAll]; exact List.mem_cons_of_mem _ ht)⟩
theorem fits_list {ds : List PyData} (h : fits (.list ds)) : fitsL ds := ⟨by simpa [PyData.showable] using h.1, fun t ht => Nat.le_trans (listText_mem_le ht) (by have := h.2; simpa only [PyData.shown] using this)⟩
theorem fits_tuple {ds : List PyData} (h : fits (.tuple ds)) : fitsL ds := ⟨by simpa [PyData.showable] using h.1, fun t ht => Nat.le_trans (tupleText_mem_le ht) (by have := h.2; simpa only [PyData.shown] using this)⟩
theorem fits_dict {kvs : List (PyData × PyData)} (h : fits (.dict kvs)) : fitsL (kvs.map (·.1)) ∧ fitsL (kvs.map (·.2)) := by
  have hz : (dictText (PyData.shownKv kvs)).length ≤ sizeLine := by have := h.2; simpa only [PyData.shown] using this
  obtain ⟨h1, h2⟩ := PyData.showableKv_split kvs (by simpa [PyData.showable] using h.1)
  exact ⟨⟨h1, fun t ht => let ⟨p, hp, hl⟩ := PyData.shownKv_key_le kvs t ht; Nat.le_trans hl (Nat.le_trans (dictText_mem_le hp) hz)⟩, ⟨h2, fun t ht => let ⟨p, hp, hl⟩ := PyData.shownKv_val_le kvs t ht; Nat.le_trans hl (Nat.le_trans (dictText_mem_le hp) hz)⟩⟩
theorem fitsL_mem : ∀ {ds : List PyData}, fitsL ds → ∀ d ∈ ds, fits d
  | d :: ds, h, e, he => by
    obtain ⟨a, b⟩ := fitsL_cons h
    rcases List.mem_cons.mp he with rfl | he
    · exact a
    · exact fitsL_mem b e he
theorem repL_unzip {K : PySem.W.Frag} {G : Hp} {vs : List V} {us : List Value} {kvs : List (L2.Key × V)} {kws : List (L2.Key × Value)} (h : KV kvs kws) : Vals (kvs.map (·.2)) (kws.map (·.2)) ∧ kvs.map (·.1) = kws.map (·.1) := by
  induction h with
  | nil => exact ⟨.nil, rfl⟩
  | cons h _ ih => exact ⟨.cons h.2 ih.1, by rw [List.map_cons, List.map_cons, h.1, ih.2]⟩
mutual
theorem held_of (I : Inv X pins σ H s) : ∀ (d : D) (v : V) (a : Addr), Rep X.K H d v → RelV v (.ref a) → plainN d = true → fits (toPyN d) → Held X.prog X.w s.heap a (toPyN d)
  | .tup ds, v, a, hr, rv, p, f => by
    obtain ⟨b, xs, rfl, h1, h2⟩ := rep_tup hr
    cases rv
    obtain ⟨its, rvs, ⟨o, ho, hc, n, hd⟩, _⟩ := I.tuple h1
    rw [toPyN] at f ⊢
    exact .tup ho hc hd (rksL_of I ds xs its h2 rvs (by rwa [plainN] at p) (fits_tuple f))
  | .lst ds, v, a, hr, rv, p, f => by
    obtain ⟨b, xs, rfl, h1, h2⟩ := rep_lst.mp hr
    cases rv
    obtain ⟨its, rvs, ⟨o, n, ho, hc, _, hd⟩, _⟩ := I.list (SqL.of h1)
    rw [toPyN] at f ⊢
    exact .lst ho hc hd (rksL_of I ds xs its h2 rvs (by rwa [plainN] at p) (fits_list f))
  | .scr ds, v, a, hr, rv, p, f => by
    obtain ⟨b, xs, rfl, h1, h2⟩ := rep_scr.mp hr
    cases rv
    obtain ⟨its, rvs, ⟨o, n, ho, hc, _, hd⟩, _⟩ := I.list h1
    rw [toPyN] at f ⊢
    exact .lst ho hc hd (rksL_of I ds xs its h2 rvs (by rwa [plainN] at p) (fits_list f))
  | .dct ks ds, v, a, hr, rv, p, f => by
    obtain ⟨b, ob, xs, rfl, h1, hl, h2⟩ := rep_dct.mp hr
    cases rv
    obtain ⟨_, _, hsys, vs, hv, o, es, ep, e1, e2, e3, _, e4, _⟩ := (show ObjOk X.prog X.w H s.heap a (.frz ob (.dK (ks.zip xs))) from I.hok a _ h1)
    have hx : xs.length = ks.length := by rw [h2.length, hl]
    obtain ⟨rvs, ek⟩ := repL_unzip (K := X.K) (G := H) (vs := []) (us := []) hv
    rw [List.map_snd_zip (by omega)] at rvs
    rw [List.map_fst_zip (by omega)] at ek
    rw [toPyN] at f ⊢
    have lz : (ks.map keyPy).length = (toPyNL ds).length := by rw [List.length_map, toPyNL_len, hl]
    obtain ⟨fk, fv⟩ := fits_dict f
    rw [List.map_fst_zip (by omega)] at fk
    rw [List.map_snd_zip (by omega)] at fv
    obtain ⟨k1, k2⟩ := keys_pairs (h := s.heap) (fun _ _ z => z) e4 fun t ht => by rw [← ek] at ht; exact fitsL_mem fk t ht
    refine .dct e1 e2.1 e3 hsys ?_ ?_
    · rw [List.map_fst_zip (by omega), ek]; exact k1
    · rw [List.map_snd_zip (by omega), k2]
      exact rksL_of I ds xs _ h2 rvs (by rwa [plainN] at p) fv
  | .ref _, _, _, _, _, p, _ => by rw [plainN] at p; cases p
  | .exc _ _ _, _, _, _, _, p, _ => by rw [plainN] at p; cases p
  | .dcT _ _, _, _, _, _, p, _ => by rw [plainN] at p; cases p
  | .dcN _ _, _, _, _, _, p, _ => by rw [plainN] at p; cases p
  | .non, _, _, hr, rv, _, _ => by rw [Rep] at hr; subst hr; cases rv
  | .bl _, _, _, hr, rv, _, _ => by rw [Rep] at hr; subst hr; cases rv
  | .int _, _, _, hr, rv, _, _ => by rw [Rep] at hr; subst hr; obtain ⟨t, e⟩ := rv; cases e
  | .str _, _, _, hr, rv, _, _ => by rw [Rep] at hr; subst hr; obtain ⟨t, e⟩ := rv; cases e
theorem rks_of (I : Inv X pins σ H s) : ∀ (d : D) (v : V) (u : Value), Rep X.K H d v → RelV v u → plainN d = true → fits (toPyN d) → RKs X.prog X.w s.heap u (toPyN d)
  | .non, v, u, hr, rv, _, _ => by
    rw [Rep] at hr; subst hr; cases rv
    rw [toPyN]
    exact ⟨⟨_, .none⟩, [], (fun _ q => nomatch q), by simp only [PyData.shown]; exact .of_is ReprIs.none _ _ _⟩
  | .bl b, v, u, hr, rv, _, _ => by
    rw [Rep] at hr; subst hr; cases rv
    rw [toPyN]
    exact ⟨⟨_, .bool b⟩, [], (fun _ q => nomatch q), by simp only [PyData.shown]; exact .of_is (ReprIs.bool b) _ _ _⟩
  | .int i, v, u, hr, rv, _, f => by
    rw [Rep] at hr; subst hr; obtain ⟨t, rfl⟩ := rv
    rw [toPyN] at f ⊢
    exact ⟨⟨_, .int i t⟩, [], (fun _ q => nomatch q), by simp only [PyData.shown]; exact .of_is (ReprIs.int t (by have := f.1; simpa [PyData.showable] using this)) _ _ _⟩
  | .str x, v, u, hr, rv, _, f => by
    rw [Rep] at hr; subst hr; obtain ⟨t, rfl⟩ := rv
    rw [toPyN] at f ⊢
    exact ⟨⟨_, .str x t⟩, [], (fun _ q => nomatch q), by simp only [PyData.shown]; exact .of_is (ReprIs.str x t (by have := f.2; simpa only [PyData.shown] using this)) _ _ _⟩
  | .tup ds, v, u, hr, rv, p, f => by
    obtain ⟨b, xs, rfl, h1, h2⟩ := rep_tup hr
    cases rv
    exact (held_of I (.tup ds) _ b hr rfl p f).rk
  | .lst ds, v, u, hr, rv, p, f => by
    obtain ⟨b, xs, rfl, h1, h2⟩ := rep_lst.mp hr
    cases rv
    exact (held_of I (.lst ds) _ b hr rfl p f).rk
  | .scr ds, v, u, hr, rv, p, f => by
    obtain ⟨b, xs, rfl, h1, h2⟩ := rep_scr.mp hr
    cases rv
    exact (held_of I (.scr ds) _ b hr rfl p f).rk
  | .dct ks ds, v, u, hr, rv, p, f => by
    obtain ⟨b, ob, xs, rfl, h1, hl, h2⟩ := rep_dct.mp hr
    cases rv
    exact (held_of I (.dct ks ds) _ b hr rfl p f).rk
  | .ref _, _, _, _, _, p, _ => by rw [plainN] at p; cases p
  | .exc _ _ _, _, _, _, _, p, _ => by rw [plainN] at p; cases p
  | .dcT _ _, _, _, _, _, p, _ => by rw [plainN] at p; cases p
  | .dcN _ _, _, _, _, _, p, _ => by rw [plainN] at p; cases p
theorem rksL_of (I : Inv X pins σ H s) : ∀ (ds : List D) (vs : List V) (us : List Value), RepL X.K H ds vs → Vals vs us → plainNL ds = true → fitsL (toPyNL ds) → RKsL X.prog X.w s.heap us (toPyNL ds)
  | [], vs, us, hr, rv, _, _ => by
    rw [repL_nil.mp hr] at rv; cases rv
    rw [toPyNL]; exact .nil
  | d :: ds, vs, us, hr, rv, p, f => by
    obtain ⟨x, r, rfl, h1, h2⟩ := repL_cons.mp hr
    cases rv with
    | cons r1 r2 =>
      rw [plainNL, Bool.and_eq_true] at p
      rw [toPyNL] at f ⊢
      obtain ⟨f1, f2⟩ := fitsL_cons f
      exact .cons (rks_of I d _ _ h1 r1 p.1 f1) (rksL_of I ds _ _ h2 r2 p.2 f2)
end
theorem call_top {P : Program} {w : World} {A : Around} {E : Value → Shared → Prop} {s : Shared} {a : Addr} {d : PyData} {Q : Value → Shared → Prop} (x : Held P w s.heap a d) (hz : d.shown.length ≤ sizeLine) (hg : A.guards = some []) (hu : A.units + (d.depth + 1) < cLine)
    (hQ : ∀ h' u tk, (∀ b o, s.heap.get? b = some o → h'.get? b = some o) → Q (.str d.shown u) { s with heap := h', toks := tk }) : wpAny (model P w) A (call (.builtin "repr") [.ref a]) Q E s := by
  cases x with
  | @lst o us n ds h1 h2 h3 r =>
    obtain ⟨⟨as, r⟩, bs, hb, hk⟩ := r
    have rd : Reads s.heap (.ref a) (.list ds) (a :: as) := .list h1 h2 h3 r
    have hna : a ∉ bs := not_mem_of_deeper rd (by simp only [PyData.depth]; omega) hb
    simp only [PyData.depth] at hu
    simp only [PyData.shown] at hQ hz
    refine call_repr_slot (by omega) ⟨o, h1, h2⟩ F.slot_list_repr.toG ?_
    cases us with
    | nil =>
      cases r
      simp only [PyData.shownAll, listText_nil] at hQ
      exact call_list_repr_empty ⟨o, h1, h2⟩ h1 h3 ⟨_, _, rfl, hQ s.heap _ _ fun _ _ e => e⟩
    | cons x l => exact call_list_reprK h1 h2 h3 hna (by simpa using hk.length_eq) (fun i y e => hk.item i y (by simpa using e)) hg (fun b _ => Clear.nil b) (by show A.units + 1 + _ < _; omega) (fun _ _ e => e) (fun h' u tk k => ⟨_, _, rfl, hQ h' u tk k⟩) hz
  | @tup o us n ds h1 h2 h3 r =>
    obtain ⟨⟨as, r⟩, bs, hb, hk⟩ := r
    have rd : Reads s.heap (.ref a) (.tuple ds) as := .tuple h1 h2 h3 r
    have hna : a ∉ bs := not_mem_of_deeper rd (by simp only [PyData.depth]; omega) hb
    simp only [PyData.depth] at hu
    simp only [PyData.shown] at hQ hz
    refine call_repr_slot (by omega) ⟨o, h1, h2⟩ F.slot_tuple_repr ?_
    exact call_tuple_reprK h1 h2 h3 hna hk hg (fun b _ => Clear.nil b) (by show A.units + 1 + _ < _; omega) (fun _ _ e => e) (fun h' u tk k => ⟨_, _, rfl, hQ h' u tk k⟩) hz
  | @dct o es n kvs h1 h2 h3 hs r1 r2 =>
    obtain ⟨⟨as, r1⟩, b1, hb1, k1⟩ := r1
    obtain ⟨⟨as2, r2⟩, b2, hb2, k2⟩ := r2
    have rd : Reads s.heap (.ref a) (.dict kvs) _ := .dict h1 h2 h3 r1 r2
    have hb : ReadAtMost s.heap (PyData.depthKv kvs) (b1 ++ b2) := (hb1.mono (PyData.depthAll_keys_le kvs)).append (hb2.mono (PyData.depthAll_vals_le kvs))
    have hna : a ∉ b1 ++ b2 := not_mem_of_deeper rd (by simp only [PyData.depth]; omega) hb
    simp only [PyData.depth] at hu
    simp only [PyData.shown, PyData.shownKv_eq] at hQ
    refine call_repr_slot (by omega) ⟨o, h1, h2⟩ F.slot_dict_repr ?_
    exact call_dict_reprK h1 h2 h3 hs hna (ReprEntriesK.of_two es.toList _ _
      (k1.more_le (fun b hb => List.mem_append_left _ hb) (PyData.depthAll_keys_le kvs)) (k2.more_le (fun b hb => List.mem_append_right _ hb) (PyData.depthAll_vals_le kvs))) hg (fun b _ => Clear.nil b) (by show A.units + 1 + _ < _; omega) (fun _ _ e => e) (fun h' u tk k => ⟨_, _, rfl, hQ h' u tk k⟩) (by rw [← PyData.shownKv_eq]; simpa only [PyData.shown] using hz)
def rReprN (K : PySem.W.Frag) : List V → Hp → VK → Prop := fun xs H Q => ∃ v d, xs = [v] ∧ Rep K H d v ∧ plainN d = true ∧ fits (toPyN d) ∧ (toPyN d).depth ≤ 90 ∧ Q (.str (toPyN d).shown) H
theorem call_reprN (gd : X.A.guards = some []) (hu : X.A.units + 100 < cLine) : CallR X (.builtin "repr") (rReprN X.K) := by
  intro pins s σ H xs us Q I rv h
  obtain ⟨v, d, rfl, hd, hp, hf, hdep, q⟩ := h
  obtain ⟨u, rfl, ru⟩ := rv.one
  have top : ∀ a, RelV v (.ref a) → wpAny (model X.prog X.w) X.A (call (.builtin "repr") [.ref a]) (EP X pins σ Q) X.xe s := fun a rv' =>
    call_top (held_of I d v a hd rv' hp hf) hf.2 gd (by omega) fun h' u tk hk => ⟨.str _, H, I.kept hk, ⟨_, rfl⟩, q⟩
  cases d with
  | non =>
    rw [Rep] at hd; subst hd; cases ru
    exact PySem.P.repr_of_none ⟨.str _, H, I.tok _, ⟨_, rfl⟩, q⟩
  | bl b =>
    rw [Rep] at hd; subst hd; cases ru
    exact PySem.P.repr_of_bool ⟨.str _, H, I.tok _, ⟨_, rfl⟩, q⟩
  | int i =>
    rw [Rep] at hd; subst hd; obtain ⟨t, rfl⟩ := ru
    rw [toPyN] at hf q
    exact PySem.P.repr_of_int (by have := hf.1; simpa [PyData.showable] using this) ⟨.str _, H, I.tok _, ⟨_, rfl⟩, q⟩
  | str z =>
    rw [Rep] at hd; subst hd; obtain ⟨t, rfl⟩ := ru
    rw [toPyN] at hf q
    exact PySem.P.repr_of_str ⟨.str _, H, I.tok _, ⟨_, rfl⟩, q⟩ (by have := hf.2; simpa [PyData.shown] using this)
  | tup ds =>
    obtain ⟨b, xs, rfl, _⟩ := rep_tup hd
    cases ru
    exact top b rfl
  | lst ds =>
    obtain ⟨b, xs, rfl, _⟩ := rep_lst.mp hd
    cases ru
    exact top b rfl
  | scr ds =>
    obtain ⟨b, xs, rfl, _⟩ := rep_scr.mp hd
    cases ru
    exact top b rfl
  | dct ks ds =>
    obtain ⟨b, ob, xs, rfl, _⟩ := rep_dct.mp hd
    cases ru
    exact top b rfl
  | ref _ => rw [plainN] at hp; cases hp
  | exc _ _ _ => rw [plainN] at hp; cases hp
  | dcT _ _ => rw [plainN] at hp; cases hp
  | dcN _ _ => rw [plainN] at hp; cases hp
def shDN (d : D) : Str := (toPyN d).shown
def shOkN (d : D) : Bool := plainN d && (toPyN d).showable && decide ((toPyN d).depth ≤ 90) && decide ((toPyN d).shown.length ≤ sizeLine)
def aReprN (r : Ret) (Γ : Sl) (M : Mem) (Q : Ret → Sl → Mem → Prop) : Prop := match dOf r Γ M with
  | some d => shOkN d = true ∧ Q (.dat (.str (shDN d))) Γ M
  | none => False
theorem rd_reprN {K : PySem.W.Frag} : RdU K ρ (rReprN K) aReprN := by
  intro B σ H H1 G Γ M rx x Q R k r1 h q
  unfold aReprN at h
  split at h
  · rename_i d hd
    obtain ⟨c, h⟩ := h
    simp only [shOkN, Bool.and_eq_true, decide_eq_true_eq] at c
    exact ⟨x, d, rfl, dOf_ok k r1 hd, c.1.1.1, ⟨c.1.1.2, c.2⟩, c.1.2, q _ H G Γ M (.dat (.str _)) k .refl (by simp only [RepR, Rep]; rfl) h⟩
  · exact h.elim
theorem q_reprN {K : PySem.W.Frag} {a : Expr} {ta : TE} {aa : AE} {pos p : Pos} (gd : X.A.guards = some []) (hu : X.A.units + 100 < cLine) (hm : X.mg "repr" = none) (ha : QE X ρ a ta aa) (hg : Gl X "repr" := by rfl) (na : starEach [a] X.env = (false, eval a X.env) :: starEach [] X.env := by rfl) (hK : X.K = K := by rfl) :
    QE X ρ (.Call (.Name "repr" p) [a] [] pos) (tCB (rReprN K) (tCons ta tNil)) (aCall1 aReprN aa) := by subst hK; exact q_callB1 (call_reprN gd hu) rd_reprN hm ha hg (na := na)
theorem aReprN_w {x : Ret} {Γ : Sl} {M : Mem} {Q : Ret → Sl → Mem → Prop} : aReprN x Γ M Q = hold (aReprN x Γ M) Q ⟨⟩ := by simp only [hold]
theorem aReprN_of {d : D} {Γ : Sl} {M : Mem} {Q : Ret → Sl → Mem → Prop} (h : shOkN d = true) (q : Q (.dat (.str (shDN d))) Γ M) : aReprN (.dat d) Γ M Q := by
  have nrf : dOf (.dat d) Γ M = some d := by
    cases d with
    | ref a => simp [shOkN, plainN] at h
    | _ => rfl
  unfold aReprN
  rw [nrf]
  exact ⟨h, q⟩
mutual
def depN : D → Nat
  | .tup ds => depNL ds + 1
  | .lst ds => depNL ds + 1
  | .scr ds => depNL ds + 1
  | .dct _ ds => depNL ds + 1
  | .int _ => 0
  | .ref _ => 0
  | .exc _ _ _ => 0
  | .dcT _ _ => 0
  | .dcN _ _ => 0
  | .non => 0
  | .bl _ => 0
  | .str _ => 0
def depNL : List D → Nat
  | [] => 0
  | d :: ds => max (depN d) (depNL ds)
end
theorem depKv_le : ∀ (ks : List L2.Key) (ds : List PyData), PyData.depthKv ((ks.map keyPy).zip ds) ≤ PyData.depthAll ds
  | [], ds => by simp [PyData.depthKv]
  | k :: ks, [] => by simp [PyData.depthKv]
  | k :: ks, d :: ds => by
    have ih := depKv_le ks ds
    have hk : (keyPy k).depth = 0 := by cases k <;> simp [keyPy, PyData.depth]
    rw [List.map_cons, List.zip_cons_cons, PyData.depthKv, PyData.depthAll, hk]
    omega
mutual
theorem dep_pyN : ∀ d : D, (toPyN d).depth ≤ depN d
  | .tup ds => by rw [toPyN, PyData.depth, depN]; have := depL_pyN ds; omega
  | .lst ds => by rw [toPyN, PyData.depth, depN]; have := depL_pyN ds; omega
  | .scr ds => by rw [toPyN, PyData.depth, depN]; have := depL_pyN ds; omega
  | .dct ks ds => by rw [toPyN, PyData.depth, depN]; have := depL_pyN ds; have := depKv_le ks (toPyNL ds); omega
  | .int _ => by rw [toPyN, PyData.depth, depN]; exact Nat.le_refl _
  | .ref _ => by rw [toPyN, PyData.depth, depN]; exact Nat.le_refl _
  | .exc _ _ _ => by rw [toPyN, PyData.depth, depN]; exact Nat.le_refl _
  | .dcT _ _ => by rw [toPyN, PyData.depth, depN]; exact Nat.le_refl _
  | .dcN _ _ => by rw [toPyN, PyData.depth, depN]; exact Nat.le_refl _
  | .non => by rw [toPyN, PyData.depth, depN]; exact Nat.le_refl _
  | .bl _ => by rw [toPyN, PyData.depth, depN]; exact Nat.le_refl _
  | .str _ => by rw [toPyN, PyData.depth, depN]; exact Nat.le_refl _
theorem depL_pyN : ∀ ds : List D, PyData.depthAll (toPyNL ds) ≤ depNL ds
  | [] => by rw [toPyNL, PyData.depthAll, depNL]; exact Nat.le_refl _
  | d :: ds => by
    rw [toPyNL, PyData.depthAll, depNL]
    have := dep_pyN d
    have := depL_pyN ds
    omega
end
mutual
def widN : D → Nat
  | .non => 4
  | .bl _ => 5
  | .int i => i.natAbs.log2 + 2
  | .str x => (reprText x).length
  | .tup ds => widNL ds + 3
  | .lst ds => widNL ds + 3
  | .scr ds => widNL ds + 3
  | .ref _ => 4
  | .dct ks ds => widKs ks + widNL ds + 3
  | .exc _ _ _ => 4
  | .dcT _ _ => 4
  | .dcN _ _ => 4
def widNL : List D → Nat
  | [] => 0
  | d :: ds => widN d + 2 + widNL ds
def widKs : List L2.Key → Nat
  | [] => 0
  | k :: ks => (keyPy k).shown.length + 2 + widKs ks
end
theorem int_wid (i : Int) : (PyData.int i).shown.length ≤ i.natAbs.log2 + 2 := by
  have := shown_wid (.int i)
  rwa [toPy, wid] at this
theorem kv_wid : ∀ (ks : List L2.Key) (ds : List PyData), ((PyData.shownKv ((ks.map keyPy).zip ds)).map (·.length)).sum + 2 * (PyData.shownKv ((ks.map keyPy).zip ds)).length ≤ widKs ks + (((PyData.shownAll ds).map (·.length)).sum + 2 * (PyData.shownAll ds).length)
  | [], ds => by simp [PyData.shownKv]
  | k :: ks, [] => by simp [PyData.shownKv]
  | k :: ks, d :: ds => by
    have ih := kv_wid ks ds
    rw [List.map_cons, List.zip_cons_cons, PyData.shownKv, PyData.shownAll, widKs, List.map_cons, List.sum_cons, List.map_cons, List.sum_cons, List.length_cons, List.length_cons, strLen_append, strLen_append]
    have : (Str.ofString ": ").length = 2 := by decide
    omega
mutual
theorem shown_widN : ∀ d : D, (toPyN d).shown.length ≤ widN d
  | .non => by rw [toPyN, PyData.shown, widN]; decide
  | .bl b => by rw [toPyN, PyData.shown, widN]; cases b <;> decide
  | .int i => by rw [toPyN, widN]; exact int_wid i
  | .str x => by rw [toPyN, PyData.shown, widN]; exact Nat.le_refl _
  | .ref _ => by rw [toPyN, PyData.shown, widN]; decide
  | .exc _ _ _ => by rw [toPyN, PyData.shown, widN]; decide
  | .dcT _ _ => by rw [toPyN, PyData.shown, widN]; decide
  | .dcN _ _ => by rw [toPyN, PyData.shown, widN]; decide
  | .tup ds => by
    rw [toPyN, PyData.shown, widN]
    have := tupleText_len_le (PyData.shownAll (toPyNL ds))
    have := shownL_widN ds
    omega
  | .lst ds => by
    rw [toPyN, PyData.shown, widN]
    have := listText_len_le (PyData.shownAll (toPyNL ds))
    have := shownL_widN ds
    omega
  | .scr ds => by
    rw [toPyN, PyData.shown, widN]
    have := listText_len_le (PyData.shownAll (toPyNL ds))
    have := shownL_widN ds
    omega
  | .dct ks ds => by
    rw [toPyN, PyData.shown, widN]
    have := dictText_len_le (PyData.shownKv ((ks.map keyPy).zip (toPyNL ds)))
    have := kv_wid ks (toPyNL ds)
    have := shownL_widN ds
    omega
theorem shownL_widN : ∀ ds : List D, ((PyData.shownAll (toPyNL ds)).map (·.length)).sum + 2 * (PyData.shownAll (toPyNL ds)).length ≤ widNL ds
  | [] => by rw [toPyNL, PyData.shownAll, widNL]; decide
  | d :: ds => by
    rw [toPyNL, PyData.shownAll, widNL, List.map_cons, List.sum_cons, List.length_cons]
    have := shown_widN d
    have := shownL_widN ds
    omega
end
end
def e_aReprN := @aReprN.eq_def
end Gw

namespace Gw
open PySem L2 PyProof.Rows
variable {ρ : Ent}
section
variable {X : Cx} {a : Expr} {ta : TE} {aa : AE} {pos : Pos} {K : PySem.W.Frag}
def aLenSetT (r : Ret) (Γ : Sl) (M : Mem) (Q : Ret → Sl → Mem → Prop) : Prop := match sqOf r Γ M with
  | some (.lst ds) => match rowsD ds with
    | some rs => rs.length < 64 ∧ ∀ os : List (List Int), os.Nodup → (∀ r, r ∈ os ↔ r ∈ rs) → Q (.dat (.int os.length)) Γ M
    | none => False
  | _ => False
end
def e_aLenSetT := @aLenSetT.eq_def
end Gw

namespace Gw
open PySem L2 PyProof.Rows
variable {ρ : Ent}
section
variable {X : Cx} {D : Addr} {elt tg iter tg1 iter1 : Expr} {ifs ifs1 : List Expr} {scope : Scope} {pos pos' : Pos} {te : TE} {pins : List (Addr × Obj)} {vs vs1 : List Nat} {g g1 : TG} {tt tt1 : TT} {wi wi1 : TI}
abbrev freshSet (w : World) : Obj := { cls := .type "set", dict := none, data := .set #[] 0 (.fresh 0 0 (!w.params.followText "set-order")) }
end
section
variable {X : Cx} {tg iter : Expr} {te : TE} {ae : AE} {pos : Pos} {K : PySem.W.Frag} {B : Ent} {σ σ' σ0 : L2.St} {H G H0 G0 H2 G2 : Hp} {Γ Γ' Γ0 Γ2 : Sl} {M M0 M2 : Mem} {p : Addr} {vs : List Nat} {α : Type} {Pd : List α → Hp → HO → Prop} {acc : List α}
structure GrowP (K : PySem.W.Frag) (ρ : Ent) (B : Ent) (p : Addr) (σ0 : L2.St) (H0 G0 : Hp) (Γ0 : Sl) (M0 : Mem) (vs : List Nat) (Pd : List α → Hp → HO → Prop) (acc : List α) (σ : L2.St) (H G : Hp) (Γ : Sl) (M : Mem) : Prop where
  ok : Ok K ρ B σ H G Γ M
  g : Ex G0 G
  tmp : ∀ a o, H0 a = some o → G0 a = none → a ∉ dom M0 → ¬ owned σ0 Γ0 a → H a = some o ∧ G a = none ∧ a ∉ dom M ∧ ¬ owned σ Γ a
  nn : ∀ a, H a = none → H0 a = none
  wi : ∀ (j : Nat) (s : Slot), Γ[j]? = some s → s ≠ .non → j ∉ vs
  here : ∃ u, H p = some u ∧ Pd acc G u
  gp : G p = none
  mp : p ∉ dom M
  op : ¬ owned σ Γ p
  base : B.H p = none ∧ H0 p = none
theorem GrowP.es (mono : ∀ acc G G' u, Ex G G' → Pd acc G u → Pd acc G' u) (w : GrowP K ρ B p σ0 H0 G0 Γ0 M0 vs Pd acc σ H G Γ M) (k : Ok K ρ B σ H2 G2 Γ2 M2) (e : Es σ H G Γ M H2 G2 Γ2 M2) : GrowP K ρ B p σ0 H0 G0 Γ0 M0 [] Pd acc σ H2 G2 Γ2 M2 := by
  obtain ⟨o, hp, hc⟩ := w.here
  obtain ⟨p1, p2, p3, p4⟩ := e.tmp p _ hp w.gp w.mp w.op
  refine ⟨k, w.g.trans e.g, fun a o h g m n => ?_, fun a z => w.nn a (e.nn a z), fun j s _ _ => by simp, ⟨o, p1, mono _ _ _ _ e.g hc⟩, p2, p3, p4, w.base⟩
  obtain ⟨a1, a2, a3, a4⟩ := w.tmp a o h g m n
  exact e.tmp a o a1 a2 a3 a4
theorem GrowP.to (w : GrowP K ρ B p σ0 H0 G0 Γ0 M0 vs Pd acc σ H G Γ M) (k : Ok K ρ B σ' H G Γ' M) (o : ∀ x, owned σ' Γ' x → owned σ Γ x) {us : List Nat} (hw : ∀ (j : Nat) (s : Slot), Γ'[j]? = some s → s ≠ .non → j ∉ us) : GrowP K ρ B p σ0 H0 G0 Γ0 M0 us Pd acc σ' H G Γ' M := by
  refine ⟨k, w.g, fun a o' h g m n => ?_, w.nn, hw, w.here, w.gp, w.mp, fun z => w.op (o _ z), w.base⟩
  obtain ⟨a1, a2, a3, a4⟩ := w.tmp a o' h g m n
  exact ⟨a1, a2, a3, fun z => a4 (o _ z)⟩
theorem GrowP.put {acc' : List α} {u : HO} (w : GrowP K ρ B p σ0 H0 G0 Γ0 M0 vs Pd acc σ H G Γ M) (hu : Pd acc' G u) : GrowP K ρ B p σ0 H0 G0 Γ0 M0 vs Pd acc' σ (upd H p u) G Γ M := by
  obtain ⟨o, hp, hc⟩ := w.here
  refine ⟨w.ok.updTmp' hp w.base.1 w.gp w.mp w.op, w.g, fun a o h g m n => ?_, fun a z => ?_, w.wi, ⟨u, upd_same, hu⟩, w.gp, w.mp, w.op, w.base⟩
  · obtain ⟨a1, a2, a3, a4⟩ := w.tmp a o h g m n
    exact ⟨by rw [upd_ne (ne_of_none h w.base.2)]; exact a1, a2, a3, a4⟩
  · by_cases e : a = p
    · subst e; exact w.base.2
    · rw [upd_ne e] at z; exact w.nn a z
theorem GrowP.enter (w : GrowP K ρ B p σ0 H0 G0 Γ0 M0 vs Pd acc σ H G Γ M) : GrowP K ρ B p σ0 H0 G0 Γ0 M0 vs Pd acc (wipe σ vs) H G Γ M := by
  obtain ⟨k, o⟩ := w.ok.agree (σ' := wipe σ vs) (Γ' := Γ) (fun j s a b => ⟨a, wipe_out (w.wi j s a b)⟩) (by rw [wipe_length]; exact w.ok.len)
  exact w.to k o w.wi
theorem GrowP.leave (w : GrowP K ρ B p σ0 H0 G0 Γ0 M0 [] Pd acc σ' H G Γ M) (hw : wipe σ' vs = wipe σ vs) : GrowP K ρ B p σ0 H0 G0 Γ0 M0 vs Pd acc σ H G (wipeS Γ vs) M := by
  have ag : ∀ j, j ∉ vs → σ[j]? = σ'[j]? := fun j hj => by rw [← wipe_out (σ := σ') hj, hw, wipe_out hj]
  have hl : σ'.length = σ.length := by rw [← wipe_length σ' vs, hw, wipe_length]
  obtain ⟨k, o⟩ := w.ok.agree (σ' := σ) (Γ' := wipeS Γ vs) (fun j s a b => ⟨(wipeS_some a b).1, ag j (wipeS_some a b).2⟩) (by rw [wipeS_length, w.ok.len, hl])
  exact w.to k o fun j s a b => (wipeS_some a b).2
def aScL (pick : D → Option α) (g : AG) (tt : AT) (ae : AE) (vs : List Nat) (k : List α → Sl → Mem → Prop) : List D → List α → Sl → Mem → Prop
  | [], acc, Γ, M => k acc Γ M
  | d :: ds, acc, Γ, M => g d Γ fun Γ1 => tt Γ1 M fun b Γ2 M2 => if b = true then ae Γ2 M2 fun r Γ3 M3 => match r with
      | .dat y => match pick y with
        | some x => acc.length < 60 ∧ aScL pick g tt ae vs k ds (acc ++ [x]) (wipeS Γ3 vs) M3
        | none => False
      | _ => False
    else aScL pick g tt ae vs k ds acc (wipeS Γ2 vs) M2
def aScO (pick : D → Option α) (ai1 : AI) (g : AG) (tt : AT) (g1 : AG) (tt1 : AT) (ae : AE) (vs vs1 : List Nat) (k : List α → Sl → Mem → Prop) : List D → List α → Sl → Mem → Prop
  | [], acc, Γ, M => k acc Γ M
  | d :: ds, acc, Γ, M => g d Γ fun Γ1 => tt Γ1 M fun b Γ2 M2 => if b = true then ai1 Γ2 M2 fun es Γ3 M3 => aScL pick g1 tt1 ae vs1 (fun acc' Γ4 M4 => aScO pick ai1 g tt g1 tt1 ae vs vs1 k ds acc' (wipeS Γ4 vs) M4) es acc (wipeS Γ3 vs1) M3
      else aScO pick ai1 g tt g1 tt1 ae vs vs1 k ds acc (wipeS Γ2 vs) M2
structure WitS {α : Type} (k : List α → Sl → Mem → Prop) : Type where
def scO (pick : D → Option α) (ai1 : AI) (g : AG) (tt : AT) (g1 : AG) (tt1 : AT) (ae : AE) (vs vs1 : List Nat) (k : List α → Sl → Mem → Prop) (_ : WitS k) (ds : List D) (acc : List α) (Γ : Sl) (M : Mem) : Prop := aScO pick ai1 g tt g1 tt1 ae vs vs1 k ds acc Γ M
def aSortSc (pick : D → Option α) (fin : List α → (List D → Prop) → Prop) (ai : AI) (g : AG) (tt : AT) (ai1 : AI) (g1 : AG) (tt1 : AT) (ae : AE) (vs vs1 : List Nat) (Γ : Sl) (M : Mem) (Q : Ret → Sl → Mem → Prop) : Prop :=
  ai Γ M fun ds Γ1 M1 => scO pick ai1 g tt g1 tt1 ae vs vs1 (fun acc Γ2 M2 => fin acc fun os => Q (.tmp (.lst os)) Γ2 M2) ⟨⟩ ds [] (wipeS Γ1 vs) M1
end
section
variable {X : Cx} {tg tg1 : Expr} {te : TE} {ae : AE} {pos : Pos} {K : PySem.W.Frag}
end
def e_aSortSc := @aSortSc.eq_def
end Gw

namespace Gw
open PySem PySem.Spec L2 PyProof.Rows
variable {ρ : Ent}
section
variable {P : Program} {w : World} {A : Around} {E : Value → Shared → Prop} {s : Shared}
theorem init_tuple {S l : Addr} {items : Array Value} {Q : Fin → Shared → Prop} (hl : s.heap.IsTuple l items) (hS : s.heap.get? S = some (freshSet w))
    (h : codeAny (model P w) A (.builtin "set.update.loop" ⟨[.ref S, .ref s.heap.objs.size], []⟩) (fun r s' => match r with | .ok (.ret v) => Q (.done (.ret .none)) s' | .ok _ => False | .error e => E e s') { s with heap := s.heap.push { cls := .type "tuple_iterator", data := .fields #[.ref l, .int 0 0] } }) :
    wpAny (model P w) A (Builtin.«set.__init__» ⟨[.ref S, .ref l], []⟩) Q E s := by
  obtain ⟨⟨cl, dl, tl, xl⟩, hol, rfl, nl, rfl⟩ := id hl
  have hsls := F.sub_tuple_set
  have hslf := F.sub_tuple_frozenset
  have hne : (Value.type "tuple" == Value.type "dict") = false := by decide
  have hT : s.TypeIs (.ref l) "tuple" := ⟨_, hol, rfl⟩
  unfold Builtin.«set.__init__» noKeywords Builtin.Frozenset.updateFrom
  generalize hPI : pyIter = PI
  wp_walk
  subst hPI
  refine wpAny_pyIter_tuple hl ?_
  refine wpAny_bind (wpAny_runValue (codeAny_mono h fun r s' hr => ?_))
  cases r with
  | error e => exact hr
  | ok f =>
    cases f with
    | ret v => exact wpAny_pure (wpAny_pure hr)
    | _ => exact hr
theorem set_call {v : Value} {Q : Value → Shared → Prop} (h : wpAny (model P w) A.in1.in1 (Builtin.«set.__init__» ⟨[.ref s.heap.objs.size, v], []⟩)
      (fun fin s' => match fin with | .done f => wants (fun r s₂ => r = .none ∧ Q (.ref s.heap.objs.size) s₂) E (.ok f) s' | .again c' => c'.quiet = true ∧ codeAny (model P w) A.in1 c' (wants (fun r s₂ => r = .none ∧ Q (.ref s.heap.objs.size) s₂) E) s')
      (fun e s' => wants (fun r s₂ => r = .none ∧ Q (.ref s.heap.objs.size) s₂) E (.error e) s') { s with heap := s.heap.push (freshSet w) }) :
    wpAny (model P w) A (call (.type "set") [v]) Q E s := by
  have made := F.called_set.made
  have sub := F.called_set.sub
  have look := F.called_set.init.lookup
  have bind := F.called_set.init.bind (.ref s.heap.objs.size)
  have nt := F.called_set.notType
  have cc := F.called_set.canCreate
  have tc := F.typeCall_set_1 v
  have isSet : Shared.TypeIs { s with heap := s.heap.push (freshSet w) } (.ref s.heap.objs.size) "set" := ⟨_, Heap.get?_push_size _ rfl, rfl⟩
  have fill := codeAny_call_builtin F.called_set.init.plain F.entry_set_init (check_set_init_1 isSet h)
  obtain ⟨c, tl, mro⟩ := F.called_set.mro
  refine wpAny_call (codeAny_of_tree (show wpAny _ _ (callAny (.type "set") _) _ _ _ from wpAny_pure ⟨Code.quiet_builtin _ (by decide +kernel), codeAny_builtin F.entry_type_call ?_⟩))
  rw [Around.under_plain (weight_type_call_type "set" [v] []) rfl]
  repeat (any_goals (first | assumption | wp_step))
  refine codeAny_mono (code_set_led1 v (E := E) (Q₁ := fun u s₁ => u = .ref s.heap.objs.size ∧ s₁ = { s with heap := s.heap.push (freshSet w) }) ⟨rfl, rfl⟩) fun r s₁ hr => ?_
  rcases r with e | f
  · exact hr
  rcases f with _ | _ | _ | u
  all_goals first | exact hr.elim | skip
  obtain ⟨rfl, rfl⟩ := hr
  repeat (any_goals (first | assumption | wp_step))
  refine codeAny_mono fill fun r s₂ hr => ?_
  rcases r with e | f
  · exact hr
  rcases f with _ | _ | _ | u
  all_goals first | exact hr.elim | skip
  obtain ⟨rfl, q⟩ := hr
  repeat (any_goals (first | assumption | wp_step))
end
section
variable {X : Cx} {a : Expr} {ta : TE} {aa : AE} {pos : Pos} {K : PySem.W.Frag}
def aSortRowsT (r : Ret) (Γ : Sl) (M : Mem) (Q : Ret → Sl → Mem → Prop) : Prop := match r with
  | .dat (.tup ds) => match rowsD ds with
    | some rs => (rs.length < 64 ∧ ∃ n, ∀ r ∈ rs, r.length = n ∧ TS.Bd 64 r) ∧ ∀ os : List (List Int), os.Pairwise (fun r q => HT.lexLt r q = true) → (∀ r, r ∈ os ↔ r ∈ rs) → Q (.tmp (.lst (os.map rowD))) Γ M
    | none => False
  | _ => False
end
def e_aSortRowsT := @aSortRowsT.eq_def
end Gw

namespace Gw
open PySem L2 PyProof.Rows
variable {ρ : Ent}
section
variable {X : Cx} {a : Expr} {ta : TE} {aa : AE} {pos : Pos} {K : PySem.W.Frag}
def aLenSetI (r : Ret) (Γ : Sl) (M : Mem) (Q : Ret → Sl → Mem → Prop) : Prop := match sqOf r Γ M with
  | some (.lst ds) => match intsD ds with
    | some ns => ns.length ≤ 60 ∧ ∀ os : List Int, os.Nodup → (∀ k, k ∈ os ↔ k ∈ ns) → Q (.dat (.int os.length)) Γ M
    | none => False
  | _ => False
end
def e_aLenSetI := @aLenSetI.eq_def
end Gw

namespace Gw
open PySem L2
variable {ρ : Ent}
section
variable {X : Cx} {a b : Expr} {ta tb : TE} {aa ab : AE} {x y : Str} {K : PySem.W.Frag} {B : Ent} {σ : L2.St} {Γ : Sl}
theorem owned_setO {i : Nat} {p q : Addr} {c : Cell} (h : owned (σ.set i (some (.ref p))) (Γ.set i (.own c)) q) : q = p ∨ owned σ Γ q := by
  obtain ⟨j, d, h1, h2⟩ := h
  rcases set_get h1 with ⟨e, _⟩ | ⟨ne, e⟩
  · subst e
    by_cases l : j < σ.length
    · rw [List.getElem?_set_self l] at h2
      cases h2; exact .inl rfl
    · rw [List.getElem?_eq_none (by rw [List.length_set]; omega)] at h2; cases h2
  · rw [List.getElem?_set_ne (fun z => ne z.symm)] at h2
    exact .inr ⟨j, d, e, h2⟩
def aParOO (aa ab : AE) (i j : Nat) (A : AEnds) (Γ : Sl) (M : Mem) : Prop := aa Γ M fun r Γ1 M1 => match r with
  | .tmp c => ab Γ1 M1 fun r2 Γ3 M3 => match r2 with
    | .tmp d => A.nx ((Γ3.set i (.own c)).set j (.own d)) M3
    | _ => False
  | _ => False
theorem qs_parOO {px py pt spos : Pos} {kt k2 pt2} (i j : Nat) (hN : X.N.Nodup) (ha : QE X ρ a ta aa) (hb : QE X ρ b tb ab) (na : starEach [a, b] X.env = (false, eval a X.env) :: starEach [b] X.env := by rfl) (nb : starEach [b] X.env = (false, eval b X.env) :: starEach [] X.env := by rfl) (hi : X.N[i]? = some x := by rfl) (hj : X.N[j]? = some y := by rfl) (hij : i ≠ j := by decide)
    (hx : X.env.scope.names.lookup x = some .local := by rfl) (hy : X.env.scope.names.lookup y = some .local := by rfl) (hw : swappedStores [.Tuple [.Name x px, .Name y py] kt pt] (.Tuple [a, b] k2 pt2) X.env = pure (some [x, y]) := by rfl)
    (hs : swapsWithSole [.Tuple [.Name x px, .Name y py] kt pt] (.Tuple [a, b] k2 pt2) spos.line X.env = pure false := by rfl) (hc : X.calm = true := by rfl) : QS X ρ (.Assign [.Tuple [.Name x px, .Name y py] kt pt] (.Tuple [a, b] k2 pt2) spos) (tPar i j (tCons ta (tCons tb tNil))) (aParOO aa ab i j) :=
  ⟨ps_par hc hN hi hj hij hx hy (pa_cons ha.pe (pa_cons hb.pe pa_nil nb) na) hw hs, fun B σ H G Γ M A E k h s => ha.rd B σ H G Γ M _ _ k h fun v H1 G1 Γ1 M1 r k1 e1 rr h1 => by
    split at h1
    · rename_i c
      refine hb.rd B σ H1 G1 Γ1 M1 _ _ k1 h1 fun u H3 G3 Γ3 M3 r3 k3 e3 rr3 h3 => ?_
      split at h3
      · rename_i d
        have had : ∃ p, v = .ref p ∧ ∃ o, H1 p = some o := by
          obtain ⟨p, ev, _, _, ⟨_, o, ho, _⟩, _⟩ := rr
          exact ⟨p, ev, o, ho⟩
        obtain ⟨p, rfl, _, b1, c1, m1, n1⟩ := rr.es e3
        obtain ⟨q, rfl, h0, b2, c2, m2, n2⟩ := rr3
        have ne : q ≠ p := fun e => by
          obtain ⟨p', e', o, ho⟩ := had
          cases e'
          subst e
          rw [ho] at h0; cases h0
        exact ⟨_, _, rfl, s.nx _ H3 G3 _ M3 ((k3.setO (i := i) b1 c1 m1 n1).setO b2 c2 m2 fun z => (owned_setO z).elim ne n2) h3⟩
      · exact h3.elim
    · exact h1.elim⟩
end
def e_aParOO := @aParOO.eq_def
end Gw

namespace Gw
open PySem L2 PyProof.Rows
variable {ρ : Ent}
structure CalX (P : Program) (w : World) (K : PySem.W.Frag) (mg : Str → Option Value) (base : Heap) (x : Str) (ps : List Str) (k : Nat) (S : ASx) : Prop where
  ex : ∃ f fd, FnG P w K mg base (L2.CX P w) k f fd ps (spX K ps.length S) ∧ mg x = some (.ref f) ∧ PySem.W.keepIn K (.ref f) = true ∧ Binds K fd ps []
  ar : ArX ps.length S
section
variable {X : Cx} {K : PySem.W.Frag} {P : Program} {mg : Str → Option Value} {base : Heap} {w : World} {W : WX} {xw : XW} {x : Str} {ps : List Str} {k : Nat} {S : ASx} {a : Expr} {es : List Expr} {p pos : Pos} {ar : AA}
theorem q_callXC {tr : TA} (c : CalX P w K mg base x ps k S) (hr : Room k X.A) (gd : X.A.guards = some []) (tk : Takes X W) (cn : Conn K ρ W xw) (ha : QA X ρ (a :: es) tr ar) (hg : Gl X x := by rfl) (hdb : (x == ("__debug__" : Str)) = false := by decide)
    (he : starEach (a :: es) X.env = (false, eval a X.env) :: starEach es X.env := by rfl) (hpl : (backTo pos (starEach es X.env)).any (·.1) = false := by rfl) (hK : X.K = K := by rfl) (hP : X.prog = P := by rfl) (hM : X.mg = mg := by rfl) (hB : X.base = base := by rfl) (hW : X.w = w := by rfl) :
    QE X ρ (.Call (.Name x p) (a :: es) [] pos) (tCallS (spX K ps.length S) (WE W) tr) (aCallX xw S ar) := by
  subst hK; subst hP; subst hM; subst hB; subst hW
  obtain ⟨f, fd, F, hm, hk, hb⟩ := c.ex
  exact q_callX F hr gd hm hk hb c.ar tk cn ha hg hdb he hpl
end
def e_aCallX := @aCallX.eq_def
def e_aRaise := @aRaise.eq_def
def e_aTry := @aTry.eq_def
def e_aIsX := @aIsX.eq_def
def e_aXf := @aXf.eq_def
end Gw

namespace Gw
open PySem PySem.Spec L2 PyProof.Rows
variable {ρ : Ent}
section
variable {X : Cx} {K : PySem.W.Frag}
end
section
variable {X : Cx} {tg tg1 : Expr} {te : TE} {ae : AE} {pos : Pos} {K : PySem.W.Frag}
def aSortRowsD (r : Ret) (Γ : Sl) (M : Mem) (Q : Ret → Sl → Mem → Prop) : Prop := match sqOf r Γ M with
  | some (.lst ds) => match rowsD ds with
    | some rs => (rs.length < 64 ∧ ∀ r ∈ rs, r ≠ []) ∧ ∀ os : List (List Int), os.Pairwise (fun r q => HT.lexLt r q = true) → (∀ r, r ∈ os ↔ r ∈ rs) → Q (.tmp (.lst (os.map rowD))) Γ M
    | none => False
  | _ => False
end
def e_aSortRowsD := @aSortRowsD.eq_def
end Gw

namespace Gw
open PySem PySem.Spec L2 PyProof.Rows
variable {ρ : Ent}
theorem meets_enumT (t : Addr) (its : Array Value) (n : Nat) (dct : Option Addr) (sl : Array (Option Value)) :
    Meets (Builtin.«enumerate.__new__» ⟨[.type "enumerate", .ref t], []⟩) (fun _ R s => s.heap.get? t = some ⟨.type "tuple", dct, .seq its n, sl⟩ ∧
      R (.ok (.ret (.ref (s.heap.push { cls := .type "tuple_iterator", data := .fields #[.ref t, .int 0 0] }).objs.size)))
        { s with heap := (s.heap.push { cls := .type "tuple_iterator", data := .fields #[.ref t, .int 0 0] }).push { cls := .type "enumerate", data := .fields #[.none, .bool false, .ref s.heap.objs.size, rawInt 0, .none, .none] } }) :=
  .of_wp fun prog w A R s ⟨ht, h⟩ => by
    obtain ⟨hp, g, d, tk, os⟩ := s
    have hsub := sub_enumerate
    have tup : Heap.IsTuple (Shared.heap ⟨hp, g, d, tk, os⟩) t its := ⟨_, ht, rfl, n, rfl⟩
    wp_walk using AutoSeq1.wpAny_loadPart' ht
    refine wpAny_stack_any fun st => wpAny_pure ?_
    split
    · rename_i c _ _ _ _ _
      cases (c == Value.type "enumerate")
      all_goals
        wp_walk using AutoSeq1.wpAny_loadPart' ht, wpAny_pyIter_tuple tup
        exact ⟨_, rfl, h⟩
    · wp_walk using AutoSeq1.wpAny_loadPart' ht, wpAny_pyIter_tuple tup
      exact ⟨_, rfl, h⟩
theorem call_enumT {prog : Program} {w : World} {A : Around} {E : Value → Shared → Prop} {s : Shared} {t : Addr} {its : Array Value} {Q : Value → Shared → Prop} (hT : s.heap.IsTuple t its)
    (h : ∀ h', IsEnum h' (s.heap.objs.size + 1) s.heap.objs.size 0 .none → h'.IsTupleIter s.heap.objs.size t 0 → (∀ b o, s.heap.get? b = some o → h'.get? b = some o) → Q (.ref (s.heap.objs.size + 1)) { s with heap := h' }) :
    wpAny (model prog w) A (call (.type "enumerate") [.ref t]) Q E s := by
  obtain ⟨⟨_, dct, _, sl⟩, ht, rfl, n, rfl⟩ := hT
  refine callType_new PySem.F.called_enumerate (by decide) (PySem.F.typeCall_enumerate_1 _) (PySem.F.newCall_enumerate_1 _) (fun obj => PySem.F.args_object_init_2 obj _) PySem.F.entry_enumerate_new (meets_enumT t its n dct sl) ⟨ht, ?_⟩
  have z : (s.heap.push { cls := .type "tuple_iterator", data := .fields #[.ref t, .int 0 0] }).objs.size = s.heap.objs.size + 1 := Heap.size_push ..
  have he := Heap.get?_push_size (s.heap.push { cls := .type "tuple_iterator", data := .fields #[.ref t, .int 0 0] }) (o := { cls := .type "enumerate", data := .fields #[.none, .bool false, .ref s.heap.objs.size, rawInt 0, .none, .none] }) rfl
  show _ ∧ _
  rw [z] at he ⊢
  exact ⟨⟨_, he, rfl⟩, h _ he ⟨_, Heap.get?_push_of_some _ (Heap.get?_push_size _ rfl), rfl, rfl⟩ fun b o x => Heap.get?_push_of_some _ (Heap.get?_push_of_some _ x)⟩
def IteT (K : PySem.W.Frag) (a : Addr) : It :=
  ⟨fun i H => ∃ (xs : List V) (x : V), SqT K H a xs ∧ xs[i]? = some x, fun i H v H' => ∃ T x, v = .ref T ∧ H T = none ∧ H' = upd H T (.tup [.int (i : Nat), x]) ∧ ∀ xs, SqT K H a xs → xs[i]? = some x, fun i H => ∃ xs : List V, SqT K H a xs ∧ xs.length = i⟩
theorem turn_enumT {P : Program} {w : World} {K : PySem.W.Frag} {elts : List Expr} {kk : Nat} {tpos : Pos} (a e it : Addr) :
    Turn P w K (.Tuple elts kk tpos) (IteT K a) [e, it] e (fun i h => (∃ old, IsEnum h e it ((i : Nat) : Int) old) ∧ h.IsTupleIter it a i ∧ e ≠ it) where
  mem := List.mem_cons_self
  obj := fun i h ⟨⟨old, he⟩, hit, _⟩ b hb => by
    obtain ⟨o, ho, hc, hd⟩ := hit
    simp only [List.mem_cons, List.not_mem_nil, or_false] at hb
    rcases hb with rfl | rfl
    · exact ⟨_, he, fun v q => nomatch q⟩
    · exact ⟨o, ho, fun v q => by rw [hd] at q; cases q⟩
  keep := fun i h h' ⟨⟨old, he⟩, hit, ne⟩ k => ⟨⟨old, k e List.mem_cons_self _ he⟩, hit.at fun o q => k it (by simp) o q, ne⟩
  item := by
    rintro X rfl rfl rfl hc i pins s σ H E I hf ⟨⟨old, he⟩, hit, ne⟩ ⟨xs, x, hq, hx⟩
    obtain ⟨its, rv, ht, hz⟩ := I.tuple hq
    obtain ⟨u, hu, ru⟩ := rv.get hx
    obtain ⟨ot, hot, hct, _⟩ := id ht
    obtain ⟨oi, hoi, hci, _⟩ := id hit
    have eT : e ≠ a := fun z => by subst z; rw [he] at hot; cases hot; exact absurd hct (by simp)
    have iT : a ≠ it := fun z => by subst z; rw [hoi] at hot; cases hot; rw [hci] at hct; exact absurd hct (by simp)
    have lt : ∀ b ∈ [e, it], b < s.heap.objs.size := fun b hb => by
      simp only [List.mem_cons, List.not_mem_nil, or_false] at hb
      rcases hb with rfl | rfl
      · exact Heap.lt_size he
      · exact Heap.lt_size hoi
    have il : i < its.toArray.size := by
      have := (List.getElem?_eq_some_iff.mp hu).1
      simpa using this
    refine wpAny_pyNext_enum_itemD (Draws.tuple (by simp [I.ok.hd hc]) it a iT its.toArray) he ⟨hit, ht⟩ il ne (by simp only [List.mem_cons, List.not_mem_nil, or_false, not_or]; exact ⟨ne, eT⟩) fun y h' tk hy ho st hN hsz hk => ?_
    have ey : y = u := by
      rw [List.getElem?_toArray] at hy
      rw [hu] at hy
      exact (Option.some.inj hy).symm
    subst ey
    refine ⟨_, rfl, wpAny_letOwnedTupleGo_enum (s := { s with heap := h', toks := tk + 1 }) ho fun h'' he' sb => ?_⟩
    have hel := lt e List.mem_cons_self
    have hT2 : h''.get? s.heap.objs.size = some { cls := .type "tuple", data := .seq #[.int i tk, y] } := (sb.2 _ (Nat.ne_of_gt hel)).trans hN
    have new : ObjOk X.prog X.w (upd H s.heap.objs.size (.tup [.int (i : Nat), x])) h'' s.heap.objs.size (.tup [.int (i : Nat), x]) :=
      ⟨by show 2 ≤ sizeLine; decide, [.int i tk, y], .cons ⟨_, rfl⟩ (.cons ru .nil), ⟨_, hT2, rfl, _, rfl⟩⟩
    have I1 : Inv X pins σ (upd H s.heap.objs.size (.tup [.int (i : Nat), x])) { s with heap := h'', toks := tk + 1 } :=
      I.turnedNew (ch := [e, it]) (fun b ob hb q => (sb.2 b (fun z => hb (by simp [z]))).trans (hk b ob (fun z => hb (by simp [z])) (fun z => hb (by simp [z])) q)) hf (Nat.le_refl _) new
    refine ⟨.ref s.heap.objs.size, _, I1, rfl, ⟨_, x, rfl, I.hok.fresh (Nat.le_refl _), rfl, fun ys hy => by rw [I.tuple_inj hy hq]; exact hx⟩, ⟨⟨y, ?_⟩, st.1.at fun o q => (sb.2 it (Ne.symm ne)).trans q, ne⟩, fun b hb => ?_⟩
    · rw [show ((i + 1 : Nat) : Int) = (i : Int) + 1 by omega]; exact he'
    · rw [upd_ne (Nat.ne_of_lt (lt b hb))]
      exact (hf b hb).1
  done := by
    rintro X rfl rfl rfl hc i pins s σ H E I hf ⟨⟨old, he⟩, hit, ne⟩ ⟨xs, hq, rfl⟩
    obtain ⟨its, rv, ht, hz⟩ := I.tuple hq
    obtain ⟨ot, hot, hct, _⟩ := id ht
    obtain ⟨oi, hoi, hci, _⟩ := id hit
    have iT : a ≠ it := fun z => by subst z; rw [hoi] at hot; cases hot; rw [hci] at hct; exact absurd hct (by simp)
    obtain ⟨f0, f1, f2, f3, f4, f5⟩ := hf it (by simp)
    have sz : its.toArray.size = xs.length := by simp [rv.length]
    exact wpAny_pyNext_enum_endD (Draws.tuple (by simp [I.ok.hd hc]) it a iT its.toArray) he ⟨by rw [sz]; exact hit, ht⟩ fun h' eb => ⟨rfl, I.turned (t' := s.toks) (fun b o hb q => eb b o hb q) f0 f1 f3 f4 f5⟩
  self := fun A i s Q E ⟨⟨_, he⟩, _⟩ h => wpAny_pyIter_enum he h
def iEnumT (K : PySem.W.Frag) (ta : TA) : TI := fun σ H R => ta σ H fun vs H1 => ∃ a xs, vs = [.ref a] ∧ SqT K H1 a xs ∧ R (IteT K a) H1
section
variable {X : Cx} {K : PySem.W.Frag} {a : Expr}
theorem pi_enumT {e : Expr} {ta : TA} {p pos tpos : Pos} {elts : List Expr} {kk : Nat} (hg : Gl X "enumerate") (hm : X.mg "enumerate" = none) (ha : PA X [e] ta) (hs : starEach [e] X.env = [(false, eval e X.env)] := by rfl) :
    PI X (.Tuple elts kk tpos) (.Call (.Name "enumerate" p) [e] [] pos) (iEnumT X.K ta) := ⟨fun pins s σ H R I h => by
  refine Call_ (ld_blt I hg hm boot_enumerate (PyProof.Rows.callWith_type1 (thn (ha.run pos pins s σ H _ I h) fun us s1 ⟨vs, H1, I1, r1, l, xs, ev, hq, q⟩ => ?_) hs rfl))
  subst ev
  rw [Vals.ref1 r1]
  obtain ⟨its, rv, ht, _⟩ := I1.tuple hq
  refine call_enumT (its := its.toArray) ht fun h' he hit keep => wpAny_pyIter_enum he ⟨_, [s1.heap.objs.size + 1, s1.heap.objs.size], _, _, H1, rfl, I1.kept (t' := s1.toks) keep, turn_enumT l _ _, ⟨⟨.none, he⟩, hit, Nat.succ_ne_self _⟩, fun b hb => ?_, q⟩
  have le : s1.heap.objs.size ≤ b := by
    simp only [List.mem_cons, List.not_mem_nil, or_false] at hb
    rcases hb with rfl | rfl
    · exact Nat.le_succ _
    · exact Nat.le_refl _
  exact I1.fpOk le (I1.hok.fresh le)⟩
theorem walk_enumT {b : Addr} {xs : List V} : Walk (IteT K b) xs.length (fun H => SqT K H b xs) (YPair (fun i => some (.int (i : Nat))) (fun i => xs[i]?)) :=
  ⟨fun i _ hi q => ⟨xs, xs[i], q, by simp [hi]⟩, fun _ q => ⟨xs, q, rfl⟩, fun i H v H' _ q ⟨T, x, h1, h2, h3, h4⟩ => ⟨T, .int (i : Nat), x, h1, h2, h3, rfl, h4 xs q⟩⟩
def aIenumT (ar : AA) (Γ : Sl) (M : Mem) (Q : List D → Sl → Mem → Prop) : Prop := ar Γ M fun ds Γ1 M1 => match ds with
  | [.tup xs] => Q (enumD 0 xs) Γ1 M1
  | _ => False
theorem qi_enumT {tpos p pos : Pos} {elts : List Expr} {kk : Nat} {tr : TA} {ar : AA} (hm : X.mg "enumerate" = none) (ha : QA X ρ [a] tr ar) (hg : Gl X "enumerate" := by rfl) (hs : starEach [a] X.env = [(false, eval a X.env)] := by rfl) (hK : X.K = K := by rfl) :
    QI X ρ (.Tuple elts kk tpos) (.Call (.Name "enumerate" p) [a] [] pos) (iEnumT K tr) (aIenumT ar) := by
  subst hK
  refine ⟨pi_enumT hg hm ha.pe hs, fun B σ H G Γ M Q R k hh q => ha.rd B σ H G Γ M _ _ k hh fun vs H1 G1 Γ1 M1 ds k1 e1 rl h1 => ?_⟩
  split at h1
  · rename_i xs
    obtain ⟨v, r, rfl, rv, rn⟩ := repL_cons.mp rl
    have := repL_nil.mp rn; subst this
    obtain ⟨p1, us, rfl, s1, l1⟩ := rep_tup rv
    refine ⟨p1, us, rfl, ex_t k1.ex s1, q _ H1 G1 Γ1 M1 _ k1 e1 ⟨fun H => SqT X.K H p1 us, YPair (fun i => some (.int (i : Nat))) (fun i => us[i]?), ?_, fun H e => ex_t e s1, fun i H x H' d hd _ y => ?_⟩ h1⟩
    · rw [enumD_len, ← l1.length]; exact walk_enumT
    · obtain ⟨z, e3, rfl⟩ := enumD_get hd
      obtain ⟨T, u, w, ev, hT, eH, f1, f2⟩ := y
      obtain ⟨u', g1, q1⟩ := l1.get e3
      have f1 : some (V.int (i : Nat)) = some u := f1
      have f2 : us[i]? = some w := f2
      have ew : u' = w := by rw [g1] at f2; exact Option.some.inj f2
      subst ew
      cases f1
      exact .inr ⟨rfl, T, [.int (i : Nat), u'], [.int (0 + i : Nat), z], ev, hT, eH, rfl, repL_cons.mpr ⟨_, _, rfl, by rw [Rep, Nat.zero_add], RepL.one q1⟩⟩
  · exact h1.elim
end
def e_aIenumT := @aIenumT.eq_def
end Gw

namespace Gw
open PySem L2 PyProof.Rows
variable {ρ : Ent}
section
variable {M : Model} {A : Around} {E : Value → Shared → Prop} {s : Shared} {Z : Obj → Prop} {B : Heap} {env ce : Env} {outer l : List Env} {L a : Addr}
end
section
variable {X : Cx} {W : WX} {pins : List (Addr × Obj)} {σ : L2.St} {H : Hp} {s : Shared} {scope : Scope} {ce : Env} {fp : List Addr}
end
section
variable {X : Cx} {W : WX} {elt tg iter : Expr} {ifs : List Expr} {scope : Scope} {pos : Pos} {te : TE} {ae : AE} {g : TG} {ag : AG} {is : List Nat} {tt : TT} {at' : AT} {wi : TI} {ai : AI} {own : List (Str × Nat)}
end
end Gw

namespace Gw
open PySem L2 PyProof.Rows
variable {ρ : Ent}
structure PCalX (P : Program) (w : World) (K : PySem.W.Frag) (mg : Str → Option Value) (base : Heap) (x : Str) (ps : List Str) (m : Nat) (ks : List Str) (π : List Nat) (k : Nat) (S : ASx) : Prop where
  ex : ∃ f fd, FnG P w K mg base (L2.CX P w) k f fd ps (spX K ps.length S) ∧ mg x = some (.ref f) ∧ PySem.W.keepIn K (.ref f) = true ∧
    (∀ (s : Shared) (us ws : List Value), K.In s.heap → us.length = m → ws.length = ks.length → BindsTo s fd ⟨us, ks.zip ws⟩ (ps.zip (permL π (us ++ ws)))) ∧ ArX ps.length S
def tCallPX (sp : Sp) (W : WX) (m n : Nat) (π : List Nat) (t tk : TA) : TE := fun σ H Q => t σ H fun vs H1 => tk σ H1 fun zs H2 => vs.length = m ∧ zs.length = n ∧ sp (permL π (vs ++ zs)) H2 Q (WE W σ)
def aCallPX (w : XW) (S : ASx) (m n : Nat) (π : List Nat) (aa ak : AA) (Γ : Sl) (M : Mem) (Q : Ret → Sl → Mem → Prop) : Prop := aa Γ M fun ds Γ1 M1 => ak Γ1 M1 fun es Γ2 M2 => ds.length = m ∧ es.length = n ∧ apX S (permL π (ds ++ es)) M2 (fun r M3 => Q r Γ2 M3) (fun x M3 => w x Γ2 M3) ⟨⟩
section
variable {K : PySem.W.Frag} {X : Cx}
theorem rd_callPX {n m n' : Nat} {π : List Nat} {S : ASx} {W : WX} {w : XW} {tr tk : TA} {ar ak : AA} (hn : ArX n S) (cn : Conn K ρ W w) (ha : RdA K ρ tr ar) (hk : RdA K ρ tk ak) : RdE K ρ (tCallPX (spX K n S) W m n' π tr tk) (aCallPX w S m n' π ar ak) := by
  intro B σ H G Γ M Q R k h q
  refine ha B σ H G Γ M _ _ k h fun vs H1 G1 Γ1 M1 ds k1 e1 rl h1 => ?_
  refine hk B σ H1 G1 Γ1 M1 _ _ k1 h1 fun zs H2 G2 Γ2 M2 es k2 e2 rz h2 => ?_
  obtain ⟨l1, l2, h2⟩ := h2
  have rp := ((rl.mono e2.g).append rz).perm π
  refine ⟨by rw [rl.length]; exact l1, by rw [rz.length]; exact l2, G2, M2, _, by rw [rp.length]; exact hn _ _ _ _ h2, k2.ex, k2.nd, k2.ms, rp, _, _, h2, fun r M' v H' G' hq p rr => ?_, fun x M' cls d H' G' hq p rx => ?_⟩
  · obtain ⟨k3, e3, r3⟩ := k2.call p rr
    exact q _ H' G' Γ2 M' r k3 ((e1.trans e2).trans e3) (r3.old fun x z => e1.nn x (e2.nn x z)) hq
  · obtain ⟨k3, e3, r3⟩ := k2.call (r := .dat .non) (v := .non) p (by simp only [RetOk, Rep])
    exact cn B σ H' G' Γ2 M' x cls d k3 rx hq
theorem callGX {k : Nat} {f : Addr} {fd : FuncData} {ps ks : List Str} {sp : Sp} {W : WX} {pins : List (Addr × Obj)} {σ : L2.St} {H : Hp} {s : Shared} {Q : VK} {us ws us' : List Value} {zs : List V} (F : FnG X.prog X.w X.K X.mg X.base (L2.CX X.prog X.w) k f fd ps sp) (room : Room k X.A) (gd : X.A.guards = some []) (tk : Takes X W)
    (I : L2.Inv X pins σ H s) (bind : BindsTo s fd ⟨us, ks.zip ws⟩ (ps.zip us')) (r : Vals zs us') (h : sp zs H Q (WE W σ)) : wpAny (model X.prog X.w) X.A (call (.ref f) us (ks.zip ws)) (EP X pins σ Q) X.xe s :=
  wpAny_call (codeAny_mono (F.go X.A X.stack s H ⟨us, ks.zip ws⟩ us' zs Q (WE W σ) room gd I.env0 bind r h) fun res s' hq => match res, hq with
    | .ok (.ret u), hq => I.after hq
    | .ok .next, hq => hq.elim
    | .ok .brk, hq => hq.elim
    | .ok .cont, hq => hq.elim
    | .error e, hq => passAt tk σ pins H s e s' I hq)
variable {P : Program} {w : World} {mg : Str → Option Value} {base : Heap} {k m : Nat} {ps ks : List Str} {π : List Nat} {S : ASx} {x : Str} {p pos : Pos} {a : Expr} {es : List Expr} {tr tk : TA} {ar ak : AA} {kws : List Keyword} {W : WX} {xw : XW}
theorem q_callPX0 (C : PCalX P w K mg base x ps 0 ks π k S) (room : Room k X.A) (gd : X.A.guards = some []) (tks : Takes X W) (cn : Conn K ρ W xw) (hkw : QK X ρ kws tk ak) (hX : At X P w K mg base := by exact ⟨rfl, rfl, rfl, rfl, rfl⟩) (hg : Gl X x := by rfl)
    (hall : (backToKw pos (keywordEach kws X.env)).all (·.1.isSome) = true := by rfl) (hks : (backToKw pos (keywordEach kws X.env)).filterMap (·.1) = ks := by rfl)
    (hdb : (x == ("__debug__" : Str)) = false := by decide) (hpl : ((backTo pos (starEach [] X.env)).any (·.1) || (backToKw pos (keywordEach kws X.env)).any (·.1.isNone)) = false := by rfl) :
    QE X ρ (.Call (.Name x p) [] kws pos) (tCallPX (spX K ps.length S) W 0 ks.length π tNil tk) (aCallPX xw S 0 ks.length π aNil ak) := by
  obtain ⟨f, fd, F, hm, hk, hb, hn⟩ := C.ex
  obtain ⟨h1, h2, h3, h4, h5⟩ := hX
  subst h1 h2 h3 h4 h5
  refine ⟨⟨fun pins s σ H Q I h => wpAny_Call_Name_kw (ld_glob I hg hm ?_ hdb)⟩, rd_callPX hn cn rd_nil hkw.rd⟩
  refine PySem.W.callWith_KW0 (h₀ := X.base) I.ok.mod.kin hk hall (thn (hkw.pe.run pos pins s σ H _ I h) ?_) hpl
  rintro ws s2 ⟨zs, H2, I2, rz, l1, l2, q⟩
  rw [hks]
  exact ⟨I2.kIn, callGX F room gd tks I2 (hb s2 [] ws I2.kIn rfl (by rw [← rz.length]; exact l2)) (vals_perm π (.append .nil rz)) q⟩
end
def e_aCallPX := @aCallPX.eq_def
def e_aRaiseP := @aRaiseP.eq_def
end Gw

namespace Gw
open PySem L2 PyProof.Rows
variable {ρ : Ent}
section
variable {prog : Program} {w : World} {A : Around} {E : Value → Shared → Prop} {s : Shared}
end
section
variable {X : Cx} {a : Expr} {ta : TE} {aa : AE} {pos : Pos} {K : PySem.W.Frag}
def aSortIT (r : Ret) (Γ : Sl) (M : Mem) (Q : Ret → Sl → Mem → Prop) : Prop := match r with
  | .dat (.tup ds) => match intsOf ds with
    | some ns => Q (.tmp (.lst ((isort ns).map .int))) Γ M
    | none => False
  | _ => False
end
def e_aSortIT := @aSortIT.eq_def
end Gw

namespace Gw
open PySem PySem.W L2 PyProof.Rows
variable {ρ : Ent}
section
variable {M : Model} {A : Around} {E : Value → Shared → Prop} {h : Heap} {g : Array GenState} {d : Drawn} {t : Nat} {os : OsState} {kw : List (Str × Value)} {rest : List Value} {R : Result → Shared → Prop} {prog : Program} {w : World}
variable {nm q : Str} {C N : Addr} {bs bm bmB : List Value} {hdct : Bool} {sn : List Str} {sub : List Value} {ab : Bool} {col : Option Bool} {dd : Option Addr} {k0 k1 k2 k3 k5 : Option Value} {B newId initId : String}
end
section
variable {X : Cx} {ks names : List Str} {π : List Nat} {cn : Str} {k : Nat} {p pos : Pos} {pins : List (Addr × Obj)} {σ : L2.St} {H1 : Hp} {zs : List V} {ws : List Value} {kws : List Keyword} {tk : TA} {ak : AA} {K : Frag} {mg : Str → Option Value}
structure XclK (P : Program) (w : World) (K : Frag) (mg : Str → Option Value) (base : Heap) (cn : Str) (names ks : List Str) (π : List Nat) (k : Nat) : Prop where
  ns : nsIn K mainGlobals cn = some (some (.ref (clsAd K cn)))
  ox : OxG K (clsAd K cn)
  no : ∀ f ∈ names, findIn K (.ref (clsAd K cn)) f = some none
  ex : ∃ (fI : Addr) (fd : FuncData) (ps : List Str), findIn K (.ref (clsAd K cn)) "__init__" = some (some (.ref fI)) ∧ typeIn K (.ref fI) = some (.type "function") ∧ FnOk P w K mg base CX0 k fI fd ps (spInit K names) ∧
    ∀ (s : Shared) (v : Value) (ws : List Value), K.In s.heap → ws.length = ks.length → BindsTo s fd ⟨[v], ks.zip ws⟩ (ps.zip (v :: permL π ws))
  ln : names.length ≤ 1000
def aMkK (cn : Str) (names : List Str) (n : Nat) (π : List Nat) (ak : AA) (Γ : Sl) (M : Mem) (Q : Ret → Sl → Mem → Prop) : Prop := ak Γ M fun ds Γ1 M1 => ds.length = n ∧ (permL π ds).length = names.length ∧ Q (.dat (.exc cn names.reverse (permL π ds).reverse)) Γ1 M1
end
section
variable {X : Cx} {K : Frag} {mg : Str → Option Value} {x : Str} {e : Expr} {ta : TE} {aa : AE} {p pos : Pos}
def aMkP (cn : Str) (aa : AE) (Γ : Sl) (M : Mem) (Q : Ret → Sl → Mem → Prop) : Prop := aa Γ M fun _ Γ1 M1 => Q (.dat (.exc cn [] [])) Γ1 M1
end
def e_aMk := @aMk.eq_def
def e_aMkK := @aMkK.eq_def
def e_aMkP := @aMkP.eq_def
end Gw

namespace Gw
open PySem PySem.Spec L2 PyProof.Rows RZ
variable {ρ : Ent}
def sgD (x : Str) : List D := x.cps.toList.map fun c => .str ⟨#[c]⟩
theorem sgD_len (x : Str) : (sgD x).length = x.cps.size := by simp [sgD]
theorem sgD_get {x : Str} {i : Nat} {d : D} (h : (sgD x)[i]? = some d) : ∃ c, x.cps[i]? = some c ∧ d = .str ⟨#[c]⟩ := by
  unfold sgD at h
  rw [List.getElem?_map] at h
  cases e : x.cps.toList[i]? with
  | none => rw [e] at h; cases h
  | some c => rw [e] at h; cases h; exact ⟨c, by simpa using e, rfl⟩
def SqB (K : PySem.W.Frag) : Bool → Hp → Addr → List V → Prop
  | true, H, b, ys => SqT K H b ys
  | false, H, b, ys => SqL K H b ys
def IsIt : Bool → Heap → Addr → Addr → Nat → Prop
  | true, h, i, b, k => h.IsTupleIter i b k
  | false, h, i, b, k => h.IsListIter i b k
def IsSq : Bool → Heap → Addr → Array Value → Prop
  | true, h, b, its => h.IsTuple b its
  | false, h, b, its => h.IsList b its
def itO : Bool → Addr → Obj
  | true, b => { cls := .type "tuple_iterator", data := .fields #[.ref b, .int 0 0] }
  | false, b => { cls := .type "list_iterator", data := .fields #[.ref b, .int 0 0] }
theorem beginsB (tp : Bool) (b : Addr) (its : Array Value) : Begins (.ref b) (itO tp b) fun h => IsSq tp h b its := by
  cases tp
  · exact begins_list b its
  · exact begins_tuple b its
theorem drawsB {prog : Program} {w : World} {A : Around} (tp : Bool) (hh : A.handled = none) (it b : Addr) (ne : b ≠ it) (its : Array Value) :
    Draws prog w A it [it, b] its.size (fun i v => its[i]? = some v) (fun i h => IsIt tp h it b i ∧ IsSq tp h b its) := by
  cases tp
  · exact Draws.list hh it b ne its
  · exact Draws.tuple hh it b ne its
theorem seqB {X : Cx} {pins : List (Addr × Obj)} {σ : L2.St} {H : Hp} {s : Shared} (I : Inv X pins σ H s) : ∀ {tp : Bool} {b : Addr} {ys : List V}, SqB X.K tp H b ys → ∃ its, Vals ys its ∧ IsSq tp s.heap b its.toArray ∧ b < s.heap.objs.size
  | true, _, _, h => let ⟨its, rv, p, _⟩ := I.tuple h; let ⟨_, ho, _⟩ := id p; ⟨its, rv, p, Heap.lt_size ho⟩
  | false, _, _, h => let ⟨its, rv, p, _⟩ := I.list h; ⟨its, rv, p.isList, p.lt⟩
theorem injB {X : Cx} {pins : List (Addr × Obj)} {σ : L2.St} {H : Hp} {s : Shared} (I : Inv X pins σ H s) : ∀ {tp : Bool} {b : Addr} {ys zs : List V}, SqB X.K tp H b ys → SqB X.K tp H b zs → ys = zs
  | true, _, _, _, h, h' => I.tuple_inj h h'
  | false, _, _, _, h, h' => I.list_inj h h'
theorem isIt_obj : ∀ {tp : Bool} {h : Heap} {i b : Addr} {k : Nat}, IsIt tp h i b k → ∃ o vs, h.get? i = some o ∧ o.data = .fields vs
  | true, _, _, _, _, ⟨o, e, _, d⟩ => ⟨o, _, e, d⟩
  | false, _, _, _, _, ⟨o, e, _, d⟩ => ⟨o, _, e, d⟩
theorem isIt_at : ∀ {tp : Bool} {h h' : Heap} {i b : Addr} {k : Nat}, IsIt tp h i b k → (∀ o, h.get? i = some o → h'.get? i = some o) → IsIt tp h' i b k
  | true, _, _, _, _, _, x, k => Heap.IsTupleIter.at x k
  | false, _, _, _, _, _, x, k => let ⟨o, e, r⟩ := x; ⟨o, k o e, r⟩
def ItzS (K : PySem.W.Frag) (z : Str) (tp : Bool) (b : Addr) : It :=
  ⟨fun i H => ∃ (ys : List V) (c : Nat) (y : V), SqB K tp H b ys ∧ z.cps[i]? = some c ∧ ys[i]? = some y,
    fun i H v H' => ∃ T c y, v = .ref T ∧ H T = none ∧ H' = upd H T (.tup [.str ⟨#[c]⟩, y]) ∧ z.cps[i]? = some c ∧ ∀ ys, SqB K tp H b ys → ys[i]? = some y,
    fun i H => ∃ ys : List V, SqB K tp H b ys ∧ i ≤ z.cps.size ∧ i ≤ ys.length ∧ (z.cps.size ≤ i ∨ ys.length ≤ i)⟩
theorem turn_zipS {P : Program} {w : World} {K : PySem.W.Frag} {elts : List Expr} {kk : Nat} {tpos : Pos} {x : Str} {t : Tok} {tp : Bool} {b z TI TO i1 i2 : Addr} (D : ZipSep2 z TI TO i1 i2 [i1] [i2, b]) :
    Turn P w K (.Tuple elts kk tpos) (ItzS K x tp b) [z, TI, TO, i1, i2] z (fun i h => IsZip h z TI TO .none ∧ IsPair h TI (.ref i1) (.ref i2) ∧ (∃ x y, IsPair h TO x y) ∧ h.IsStrIter i1 (strIterType x) x t i ∧ IsIt tp h i2 b i) where
  mem := by simp
  obj := fun i h st c hc => by
    obtain ⟨hz, hTI, ⟨x, y, hTO⟩, ⟨o1, e1, _, d1⟩, h2⟩ := st
    obtain ⟨o2, vs, e2, d2⟩ := isIt_obj h2
    have e' : c = z ∨ c = TI ∨ c = TO ∨ c = i1 ∨ c = i2 := by simpa using hc
    rcases e' with q | q | q | q | q
    · rw [q]; exact ⟨_, hz, fun v q => nomatch q⟩
    · rw [q]; exact ⟨_, hTI, fun v q => nomatch q⟩
    · rw [q]; exact ⟨_, hTO, fun v q => nomatch q⟩
    · rw [q]; exact ⟨o1, e1, fun v q => by rw [d1] at q; cases q⟩
    · rw [q]; exact ⟨o2, e2, fun v q => by rw [d2] at q; cases q⟩
  keep := fun i h h' st k => by
    obtain ⟨hz, hTI, ⟨x, y, hTO⟩, ⟨o1, e1, r1⟩, h2⟩ := st
    exact ⟨k z (by simp) _ hz, k TI (by simp) _ hTI, ⟨x, y, k TO (by simp) _ hTO⟩, ⟨o1, k i1 (by simp) _ e1, r1⟩, isIt_at h2 fun o q => k i2 (by simp) o q⟩
  item := by
    intro X hP hw hK hc i pins s σ H E I hf st hg
    subst hP hw hK
    obtain ⟨hz, hTI, ⟨x0, y0, hTO⟩, h1, h2⟩ := st
    obtain ⟨ys, c, y, hqy, hcx, hy⟩ := hg
    obtain ⟨its2, rv2, p2, _⟩ := seqB I hqy
    obtain ⟨u2, hu2, ru2⟩ := rv2.get hy
    have hzl : z < s.heap.objs.size := Heap.lt_size hz
    have bi2 : b ≠ i2 := fun e => by
      subst e
      obtain ⟨o, vs, e1, d1⟩ := isIt_obj h2
      cases tp
      all_goals (obtain ⟨o', e2, _, n, d2⟩ := p2; rw [e1] at e2; cases e2; rw [d1] at d2; cases d2)
    have lx : i < x.cps.size := (Array.getElem?_eq_some_iff.mp hcx).1
    have ly : i < its2.toArray.size := by
      have := (List.getElem?_eq_some_iff.mp hu2).1
      simpa using this
    refine wpAny_pyNext_zipD2_item D (Draws.text (by simp [I.ok.hd hc]) i1 x t) (drawsB tp (by simp [I.ok.hd hc]) i2 b bi2 its2.toArray) hz hTI hTO h1 ⟨h2, p2⟩ lx ly fun x1 x2 h' tk e1 e2 z' TO' h1' h2' hT hsz hk => ?_
    obtain ⟨c', u, hc', rfl⟩ := e1
    have ec : c' = c := by rw [hcx] at hc'; exact (Option.some.inj hc').symm
    subst ec
    have ex : x2 = u2 := by
      rw [List.getElem?_toArray] at e2
      rw [hu2] at e2
      exact (Option.some.inj e2).symm
    subst ex
    refine ⟨_, rfl, wpAny_letOwnedTupleGo_zip (s := { s with heap := h', toks := tk }) z' fun h'' z'' sb => ?_⟩
    have hT2 : h''.get? s.heap.objs.size = some { cls := .type "tuple", data := .seq #[.str ⟨#[c']⟩ u, x2] } := (sb.2 _ (Nat.ne_of_gt hzl)).trans hT
    have new : ObjOk X.prog X.w (upd H s.heap.objs.size (.tup [.str ⟨#[c']⟩, y])) h'' s.heap.objs.size (.tup [.str ⟨#[c']⟩, y]) :=
      ⟨by show 2 ≤ sizeLine; decide, [.str ⟨#[c']⟩ u, x2], .cons ⟨_, rfl⟩ (.cons ru2 .nil), ⟨_, hT2, rfl, _, rfl⟩⟩
    have I1 : Inv X pins σ (upd H s.heap.objs.size (.tup [.str ⟨#[c']⟩, y])) { s with heap := h'', toks := tk } :=
      I.turnedNew (ch := [z, TI, TO, i1, i2]) (fun c o hb q => (sb.2 c (fun q' => hb (by simp [q']))).trans (hk c o (fun q' => hb (by simp [q'])) (fun q' => hb (by simp [q'])) (fun q' => hb (by simp [q'])) (fun q' => hb (by simp [q'])) q)) hf (Nat.le_refl _) new
    refine ⟨.ref s.heap.objs.size, _, I1, rfl, ⟨_, c', y, rfl, I.hok.fresh (Nat.le_refl _), rfl, hcx, fun l hl => by rw [injB I hl hqy]; exact hy⟩, ⟨z'', ?_, ⟨Value.str ⟨#[c']⟩ u, x2, ?_⟩, ?_, ?_⟩, fun c hcm => ?_⟩
    · exact (sb.2 _ D.TIz).trans (hk _ _ D.TIz D.TITO D.TIi1 D.TIi2 hTI)
    · exact (sb.2 _ D.TOz).trans TO'
    · obtain ⟨o1, e1, r1⟩ := h1'
      exact ⟨o1, (sb.2 _ (Ne.symm D.zi1)).trans e1, r1⟩
    · exact isIt_at h2'.1 fun o q => (sb.2 _ (Ne.symm D.zi2)).trans q
    · have hlt : c < s.heap.objs.size := by
        have e' : c = z ∨ c = TI ∨ c = TO ∨ c = i1 ∨ c = i2 := by simpa using hcm
        rcases e' with q | q | q | q | q
        · rw [q]; exact hzl
        · rw [q]; exact Heap.lt_size hTI
        · rw [q]; exact Heap.lt_size hTO
        · rw [q]; obtain ⟨_, e1, _⟩ := h1; exact Heap.lt_size e1
        · rw [q]; obtain ⟨_, _, e2, _⟩ := isIt_obj h2; exact Heap.lt_size e2
      rw [upd_ne (Nat.ne_of_lt hlt)]
      exact (hf c hcm).1
  done := by
    intro X hP hw hK hc i pins s σ H E I hf st hg
    subst hP hw hK
    obtain ⟨hz, hTI, ⟨x0, y0, hTO⟩, h1, h2⟩ := st
    obtain ⟨ys, hqy, le1, le2, hend⟩ := hg
    obtain ⟨its2, rv2, p2, _⟩ := seqB I hqy
    have l2 := rv2.length
    have bi2 : b ≠ i2 := fun e => by
      subst e
      obtain ⟨o, vs, e1, d1⟩ := isIt_obj h2
      cases tp
      all_goals (obtain ⟨o', e2, _, n, d2⟩ := p2; rw [e1] at e2; cases e2; rw [d1] at d2; cases d2)
    have sz : its2.toArray.size = ys.length := by simp [l2]
    exact wpAny_pyNext_zipD2_end D (Draws.text (by simp [I.ok.hd hc]) i1 x t) (drawsB tp (by simp [I.ok.hd hc]) i2 b bi2 its2.toArray) hz hTI hTO h1 ⟨h2, p2⟩ le1 (by rw [sz]; exact le2) (by rw [sz]; omega) fun h' tk hk => ⟨rfl, I.turnedL (t' := tk) (ch := [z, TI, TO, i1, i2]) (fun c o hb q =>
      hk c o (fun q' => hb (by simp [q'])) (fun q' => hb (by simp [q'])) (fun q' => hb (by simp [q'])) (fun q' => hb (by simp [q'])) q) hf⟩
  self := fun A i s Q E st h => wpAny_pyIter_zip st.1 h
def iZipS (K : PySem.W.Frag) (ta : TA) : TI := fun σ H R => ta σ H fun vs H1 => ∃ x tp b ys, vs = [.str x, .ref b] ∧ SqB K tp H1 b ys ∧ R (ItzS K x tp b) H1
theorem sepS (I b : Nat) (h : b < I) : ZipSep2 (I + 4) (I + 2) (I + 3) I (I + 1) [I] [I + 1, b] := by
  have n1 : ∀ k : Nat, I + k ≠ b := fun k => by omega
  have n2 : ∀ j k : Nat, j ≠ k → I + j ≠ I + k := fun j k h => by omega
  have m2 : ∀ j k : Nat, j ≠ k → I + j ∉ [I + k, b] := fun j k h q => (List.mem_cons.mp q).elim (n2 j k h) fun q => n1 j (List.mem_singleton.mp q)
  exact ⟨n2 2 4 (by decide), n2 3 4 (by decide), n2 2 3 (by decide), n2 2 0 (by decide), List.mem_cons_self, fun h => n2 4 0 (by decide) (List.mem_singleton.mp h), fun h => n2 3 0 (by decide) (List.mem_singleton.mp h), n2 2 1 (by decide), List.mem_cons_self,
    m2 4 1 (by decide), m2 3 1 (by decide), m2 0 1 (by decide),
    fun h => n2 1 0 (by decide) (List.mem_singleton.mp h)⟩
section
variable {X : Cx} {K : PySem.W.Frag} {a b : Expr}
theorem pi_zipS {e e2 : Expr} {ta : TA} {p pos tpos : Pos} {elts : List Expr} {kk : Nat} (hg : Gl X "zip") (hm : X.mg "zip" = none) (ha : PA X [e, e2] ta)
    (hs : starEach [e, e2] X.env = (false, eval e X.env) :: starEach [e2] X.env := by rfl) (hpl : (backTo pos (starEach [e2] X.env)).any (·.1) = false := by rfl) :
    PI X (.Tuple elts kk tpos) (.Call (.Name "zip" p) [e, e2] [] pos) (iZipS X.K ta) := by
  refine ⟨fun pins s σ H R I h => ?_⟩
  refine Call_ (ld_blt I hg hm PyProof.Rows.boot_zip (PyProof.Rows.callWith_type1 (thn (ha.run pos pins s σ H _ I h) fun us s1 ⟨vs, H1, I1, r1, q1⟩ => ?_) hs hpl))
  obtain ⟨x, tp, b, ys, ex, hqy, q⟩ := q1
  subst ex
  cases r1 with
  | cons r rr =>
    cases rr with
    | cons r' rr =>
      cases rr
      obtain ⟨t, rfl⟩ := r
      cases r'
      obtain ⟨its2, rv2, p2, lb⟩ := seqB I1 hqy
      refine zip_begins2 (begins_text x t) (beginsB tp b its2.toArray) trivial p2 fun h' hz hTI hTO h1 h2 hsz hk => wpAny_pyIter_zip hz ?_
      have I2 : Inv X pins σ H1 { s1 with heap := h' } := I1.kept (t' := s1.toks) hk
      refine ⟨s1.heap.objs.size + 4, [s1.heap.objs.size + 4, s1.heap.objs.size + 2, s1.heap.objs.size + 3, s1.heap.objs.size, s1.heap.objs.size + 1], _, _, H1, rfl, I2, turn_zipS (t := t) (sepS _ b lb), ⟨hz, hTI, ⟨_, _, hTO⟩, ⟨_, h1, rfl, rfl⟩, ?_⟩, fun c hcm => ?_, q⟩
      · cases tp
        · exact ⟨_, h2, rfl, rfl⟩
        · exact ⟨_, h2, rfl, rfl⟩
      · have e' : c = s1.heap.objs.size + 4 ∨ c = s1.heap.objs.size + 2 ∨ c = s1.heap.objs.size + 3 ∨ c = s1.heap.objs.size ∨ c = s1.heap.objs.size + 1 := by simpa using hcm
        have hle : s1.heap.objs.size ≤ c := by
          rcases e' with z | z | z | z | z
          · rw [z]; exact Nat.le_add_right _ _
          · rw [z]; exact Nat.le_add_right _ _
          · rw [z]; exact Nat.le_add_right _ _
          · rw [z]; exact Nat.le_refl _
          · rw [z]; exact Nat.le_add_right _ _
        exact I1.fpOk hle (I1.hok.fresh hle)
theorem walk_zipS {z : Str} {tp : Bool} {b : Addr} {ys : List V} {n : Nat} (hn : n = min z.cps.size ys.length) : Walk (ItzS K z tp b) n (fun H => SqB K tp H b ys) (YPair (fun i => z.cps[i]?.map fun c => V.str ⟨#[c]⟩) (fun i => ys[i]?)) := by
  subst hn
  refine ⟨fun i _ hi q => ?_, fun _ q => ⟨ys, q, by omega, by omega, by omega⟩, fun i H v H' _ q y => ?_⟩
  · have l1 : i < z.cps.size := by omega
    have l2 : i < ys.length := by omega
    exact ⟨ys, z.cps[i], ys[i], q, by simp [l1], by simp [l2]⟩
  · obtain ⟨T, c, y, e1, e2, e3, e4, e5⟩ := y
    exact ⟨T, .str ⟨#[c]⟩, y, e1, e2, e3, by show Option.map _ _ = _; rw [e4]; rfl, e5 ys q⟩
def aIzipS (ar : AA) (Γ : Sl) (M : Mem) (Q : List D → Sl → Mem → Prop) : Prop := ar Γ M fun ds Γ1 M1 => match ds with
  | [.str x, .tup ys] => Q (zipD (sgD x) ys) Γ1 M1
  | [.str x, .lst ys] => Q (zipD (sgD x) ys) Γ1 M1
  | _ => False
theorem yld_zipS {G H H' : Hp} {x : Str} {ys : List D} {ws : List V} {i : Nat} {v : V} {d : D} (r2 : RepL K G ys ws) (hd : (zipD (sgD x) ys)[i]? = some d) (y : YPair (fun i => x.cps[i]?.map fun c => V.str ⟨#[c]⟩) (fun i => ws[i]?) i H v H') : Yld K true G H H' d v := by
  obtain ⟨d1, d2, e1, e2, rfl⟩ := zipD_get hd
  obtain ⟨c, e3, rfl⟩ := sgD_get e1
  obtain ⟨T, u, z, ev, hT, eH, f1, f2⟩ := y
  obtain ⟨z', g2, q2⟩ := r2.get e2
  have f1 : x.cps[i]?.map (fun c => V.str ⟨#[c]⟩) = some u := f1
  have f2 : ws[i]? = some z := f2
  have ez : z' = z := by rw [g2] at f2; exact Option.some.inj f2
  subst ez
  rw [e3] at f1
  cases f1
  exact .inr ⟨rfl, T, [.str ⟨#[c]⟩, z'], [.str ⟨#[c]⟩, d2], ev, hT, eH, rfl, repL_cons.mpr ⟨_, _, rfl, by rw [Rep], RepL.one q2⟩⟩
theorem qi_zipS {tpos p pos : Pos} {elts : List Expr} {kk : Nat} {tr : TA} {ar : AA} (hm : X.mg "zip" = none) (ha : QA X ρ [a, b] tr ar) (hg : Gl X "zip" := by rfl) (hs : starEach [a, b] X.env = (false, eval a X.env) :: starEach [b] X.env := by rfl) (hpl : (backTo pos (starEach [b] X.env)).any (·.1) = false := by rfl) (hK : X.K = K := by rfl) :
    QI X ρ (.Tuple elts kk tpos) (.Call (.Name "zip" p) [a, b] [] pos) (iZipS K tr) (aIzipS ar) := by
  subst hK
  refine ⟨pi_zipS hg hm ha.pe hs hpl, fun B σ H G Γ M Q R k hh q => ha.rd B σ H G Γ M _ _ k hh fun vs H1 G1 Γ1 M1 ds k1 e1 rl h1 => ?_⟩
  split at h1
  · rename_i x ys
    obtain ⟨v, r, rfl, rv, rn⟩ := repL_cons.mp rl
    obtain ⟨u, r', rfl, ru, rn'⟩ := repL_cons.mp rn
    have := repL_nil.mp rn'; subst this
    rw [Rep] at rv; subst rv
    obtain ⟨p2, ws, rfl, s2, l2⟩ := rep_tup ru
    refine ⟨x, true, p2, ws, rfl, ex_t k1.ex s2, q _ H1 G1 Γ1 M1 _ k1 e1 ⟨_, _, walk_zipS (tp := true) (ys := ws) ?_, fun H e => ex_t e s2, fun i H x H' d hd _ y => yld_zipS l2 hd y⟩ h1⟩
    unfold zipD; rw [List.length_zipWith, l2.length, sgD_len]
  · rename_i x ys
    obtain ⟨v, r, rfl, rv, rn⟩ := repL_cons.mp rl
    obtain ⟨u, r', rfl, ru, rn'⟩ := repL_cons.mp rn
    have := repL_nil.mp rn'; subst this
    rw [Rep] at rv; subst rv
    obtain ⟨p2, ws, rfl, s2, l2⟩ := rep_lst.mp ru
    refine ⟨x, false, p2, ws, rfl, SqL.of (k1.ex _ _ s2), q _ H1 G1 Γ1 M1 _ k1 e1 ⟨_, _, walk_zipS (tp := false) (ys := ws) ?_, fun H e => SqL.of (e _ _ s2), fun i H x H' d hd _ y => yld_zipS l2 hd y⟩ h1⟩
    unfold zipD; rw [List.length_zipWith, l2.length, sgD_len]
  · exact h1.elim
def aIStr (aa : AE) (Γ : Sl) (M : Mem) (Q : List D → Sl → Mem → Prop) : Prop := aa Γ M fun r Γ1 M1 => match r with
  | .dat (.str x) => Q (sgD x) Γ1 M1
  | _ => False
theorem qi_str {tg : Expr} {te : TE} {aa : AE} (h : QE X ρ a te aa) : QI X ρ tg a (iStr te) (aIStr aa) :=
  ⟨pi_str h.pe, fun B σ H G Γ M Q R k hh q => h.rd B σ H G Γ M _ _ k hh fun v H1 G1 Γ1 M1 r k1 e1 rr h1 => by
    split at h1
    · rename_i x
      have ev : v = .str x := by
        have := rr
        simp only [RepR, Rep] at this
        exact this
      subst ev
      refine ⟨x, rfl, q _ H1 G1 Γ1 M1 _ k1 e1 ⟨_, _, (sgD_len x).symm ▸ walk_str, fun _ _ => trivial, fun i H v H' d hd _ y => .inl ⟨y.1, ?_⟩⟩ h1⟩
      obtain ⟨c, e2, rfl⟩ := sgD_get hd
      obtain ⟨c', e3, rfl⟩ := y.2
      rw [e2] at e3; cases e3
      rw [Rep]
    · exact h1.elim⟩
end
def e_aIzipS := @aIzipS.eq_def
def e_aIStr := @aIStr.eq_def
end Gw

namespace Gw
open PySem PySem.Spec L2 PyProof.Rows RZ
variable {ρ : Ent}
def EntD (w : World) (e : DictEntry) (q : Str × Str) : Prop := e.hash = PySem.hashStr w q.1 ∧ (∃ t, e.key = .str q.1 t) ∧ ∃ u, e.val = .str q.2 u
structure GloD (K : PySem.W.Frag) (w : World) (mg : Str → Option Value) (x : Str) (kvs : List (Str × Str)) : Prop where
  ex : ∃ p o es ep, mg x = some (.ref p) ∧ K.lookup p = some o ∧ o.ExactDict ∧ o.data = .dict es ep ∧ (p == sysModules) = false ∧ Paired (EntD w) es.toList kvs
  nd : (kvs.map (·.1)).Nodup
def lookD (kvs : List (Str × Str)) (k : Str) : Option Str := (kvs.find? fun q => q.1 = k).map (·.2)
theorem entD_keys {P : Program} {w : World} : ∀ {es : List DictEntry} {kvs : List (Str × Str)}, Paired (EntD w) es kvs → ∀ e ∈ es, ∃ k, (mixKind P w).is k e.key = true ∧ e.hash = (mixKind P w).hash k
  | _, _, .cons h t, e, he => by
    rcases List.mem_cons.mp he with rfl | he
    · obtain ⟨h1, ⟨t1, h2⟩, h3⟩ := h
      exact ⟨.inr _, by rw [h2]; exact mixKind_str P w _ _, h1⟩
    · exact entD_keys t e he
def entV (w : World) : List DictEntry → List (Str × Str) → List (Key × Value)
  | e :: es, q :: qs => (.inr q.1, e.val) :: entV w es qs
  | _, _ => []
theorem entV_pairs {P : Program} {w : World} : ∀ {es : List DictEntry} {kvs : List (Str × Str)}, Paired (EntD w) es kvs → Pairs (mixKind P w) es (entV w es kvs)
  | _, _, .nil => .nil
  | _, _, .cons h t => .cons (by obtain ⟨_, ⟨t1, h2⟩, _⟩ := h; rw [h2]; exact mixKind_str P w _ _) rfl (entV_pairs t)
theorem entV_keys {w : World} : ∀ {es : List DictEntry} {kvs : List (Str × Str)}, Paired (EntD w) es kvs → (entV w es kvs).map (·.1) = kvs.map fun q => .inr q.1
  | _, _, .nil => rfl
  | _, _, .cons h t => by simp only [entV, List.map_cons, entV_keys t]
theorem entV_kv {w : World} : ∀ {es : List DictEntry} {kvs : List (Str × Str)}, Paired (EntD w) es kvs → KV (kvs.map fun q => ((.inr q.1 : Key), V.str q.2)) (entV w es kvs)
  | _, _, .nil => .nil
  | _, _, .cons h t => .cons ⟨rfl, by obtain ⟨_, _, u, h3⟩ := h; exact ⟨u, h3⟩⟩ (entV_kv t)
theorem lookD_val {kvs : List (Str × Str)} {k : Str} : valV (kvs.map fun q => ((.inr q.1 : Key), V.str q.2)) (.inr k) = (lookD kvs k).map V.str := by
  induction kvs with
  | nil => rfl
  | cons q qs ih =>
    by_cases e : q.1 = k
    · rw [List.map_cons, valV_pos (by rw [e])]
      simp [lookD, List.find?_cons, e]
    · rw [List.map_cons, valV_neg (fun z => e (Sum.inr.inj z)), ih]
      simp [lookD, List.find?_cons, e]
theorem GloD.at {P : Program} {w : World} {K : PySem.W.Frag} {mg : Str → Option Value} {x : Str} {kvs : List (Str × Str)} (g : GloD K w mg x kvs) : ∃ p vs, mg x = some (.ref p) ∧ (p == sysModules) = false ∧ KV (kvs.map fun q => ((.inr q.1 : Key), V.str q.2)) vs ∧ ∀ h : Heap, K.In h → h.DictOf (mixKind P w) p vs := by
  obtain ⟨⟨p, o, es, ep, h1, h2, h3, h4, h5, h6⟩, nd⟩ := g
  refine ⟨p, entV w es.toList kvs, h1, h5, entV_kv h6, fun h hK => ⟨o, es, ep, hK _ _ h2, h3, h4, fun e he => entD_keys h6 e (Array.mem_def.mp he), entV_pairs h6, ?_⟩⟩
  rw [entV_keys h6, show (fun q : Str × Str => (.inr q.1 : Key)) = (Sum.inr ∘ fun q => q.1) from rfl, ← List.map_map]
  exact nd.map (f := Sum.inr) (R := (· ≠ ·)) fun a b h q => h (Sum.inr.inj q)
def tGGet (kvs : List (Str × Str)) (ty : TE) : TE := fun σ H Q => ty σ H fun y H1 => ∃ k s, y = .str k ∧ lookD kvs k = some s ∧ Q (.str s) H1
def tGIn (f : Bool → Bool) (kvs : List (Str × Str)) (ty : TE) : TE := fun σ H Q => ty σ H fun y H1 => ∃ k, y = .str k ∧ Q (.bl (f (lookD kvs k).isSome)) H1
section
variable {X : Cx} {K : PySem.W.Frag} {a b : Expr} {x : Str} {kvs : List (Str × Str)} {pos p : Pos} {ty ta tb : TE} {aa ab : AE} {mg : Str → Option Value} {w : World}
theorem pe_gget (g : GloD X.K X.w X.mg x kvs) (hg : Gl X x) (hd : (x == ("__debug__" : Str)) = false) (hi : PE X b ty) (hs : NoSl b) : PE X (.Subscript (.Name x p) b pos) (tGGet kvs ty) := by
  obtain ⟨q, vs, h1, h2, rel, dd⟩ := g.at (P := X.prog)
  refine ⟨fun pins s σ H Q I h => ?_⟩
  refine subD_of PySem.F.slot_dict_getitem.lookup hs (thn ((pe_glob (v := .ref q) hg h1 rfl hd).run pins s σ H (fun v H1 => v = .ref q ∧ H1 = H) I ⟨rfl, rfl⟩) fun u s1 ⟨y0, H1, I1, rx, e1, e2⟩ => ?_)
  subst e1 e2
  obtain rfl : u = Value.ref q := rx
  refine thn (hi.run pins s1 σ H1 _ I1 h) fun iv s2 ⟨y, H2, I2, ry, k, z, ey, l, q2⟩ => ?_
  subst ey
  have dd2 := dd _ I2.kIn
  obtain ⟨w', hw, rw'⟩ := RelO.some_of (v := .str z) (o := valueAt vs (.inr k)) (by rw [← show _ = some (V.str z) from lookD_val.trans (by rw [l]; rfl)]; exact rel.val (.inr k))
  exact ⟨dd2.typeIs, wpAny_getItem_of (kV_is (k := .inr k) ry) dd2.mapOf hw ⟨.str z, H2, I2.tok _, rw', q2⟩⟩
theorem pc_gnotin (g : GloD X.K X.w X.mg x kvs) (hg : Gl X x) (hd : (x == ("__debug__" : Str)) = false) (hi : PE X b ty) : PC X .NotIn b (.Name x p) (tGIn not kvs ty) := by
  obtain ⟨q, vs, h1, h2, rel, dd⟩ := g.at (P := X.prog)
  refine ⟨fun pins s σ H Q I h => ?_⟩
  refine thn (hi.run pins s σ H _ I h) fun iv s1 ⟨y, H1, I1, ry, k, ey, q1⟩ => thn ((pe_glob (v := .ref q) hg h1 rfl hd).run pins s1 σ H1 (fun v H2 => v = .ref q ∧ H2 = H1) I1 ⟨rfl, rfl⟩) fun u s2 ⟨x0, H2, I2, rx, e1, e2⟩ => ?_
  subst e1 e2 ey
  obtain rfl : u = Value.ref q := rx
  have dd2 := dd _ I2.kIn
  refine wpAny_notIn_of (kV_is (k := .inr k) ry) h2 dd2.mapOf ?_
  have e3 : (valueAt vs (.inr k)).isSome = (lookD kvs k).isSome := by rw [← (rel.val (.inr k)).isSome_eq, lookD_val, Option.isSome_map]
  rw [e3]
  exact ⟨.bl _, H2, I2.tok _, rfl, q1⟩
def aGGet (kvs : List (Str × Str)) (ay : AE) (Γ : Sl) (M : Mem) (Q : Ret → Sl → Mem → Prop) : Prop := ay Γ M fun r Γ1 M1 => match r with
  | .dat (.str k) => match lookD kvs k with
    | some s => Q (.dat (.str s)) Γ1 M1
    | none => False
  | _ => False
def aGIn (f : Bool → Bool) (kvs : List (Str × Str)) (ay : AE) (Γ : Sl) (M : Mem) (Q : Ret → Sl → Mem → Prop) : Prop := ay Γ M fun r Γ1 M1 => match r with
  | .dat (.str k) => Q (.dat (.bl (f (lookD kvs k).isSome))) Γ1 M1
  | _ => False
theorem rep_strV {G : Hp} {y : Str} {v : V} (h : Rep K G (.str y) v) : v = .str y := by rw [Rep] at h; exact h
theorem rd_gget (hb : RdE K ρ tb ab) : RdE K ρ (tGGet kvs tb) (aGGet kvs ab) := by
  intro B σ H G Γ M Q R k h q
  refine hb B σ H G Γ M _ _ k h fun v H1 G1 Γ1 M1 r1 k1 e1 rr1 h1 => ?_
  split at h1
  · rename_i y
    have ev := rep_strV (show Rep K G1 (.str y) v from rr1)
    subst ev
    split at h1
    · rename_i s hs
      exact ⟨y, s, rfl, hs, q _ H1 G1 Γ1 M1 (.dat (.str s)) k1 e1 (by simp only [RepR, Rep]) h1⟩
    · exact h1.elim
  · exact h1.elim
theorem rd_gin {f : Bool → Bool} (hb : RdE K ρ tb ab) : RdE K ρ (tGIn f kvs tb) (aGIn f kvs ab) := by
  intro B σ H G Γ M Q R k h q
  refine hb B σ H G Γ M _ _ k h fun v H1 G1 Γ1 M1 r1 k1 e1 rr1 h1 => ?_
  split at h1
  · rename_i y
    have ev := rep_strV (show Rep K G1 (.str y) v from rr1)
    subst ev
    exact ⟨y, rfl, q _ H1 G1 Γ1 M1 (.dat (.bl _)) k1 e1 (by simp only [RepR, Rep]) h1⟩
  · exact h1.elim
theorem q_gget (g : GloD K w mg x kvs) (hb : QE X ρ b tb ab) (hg : Gl X x := by rfl) (hmg : X.mg = mg := by rfl) (hK : X.K = K := by rfl) (hw : X.w = w := by rfl) (hd : (x == ("__debug__" : Str)) = false := by decide) (hs : NoSl b := by exact fun _ _ => rfl) :
    QE X ρ (.Subscript (.Name x p) b pos) (tGGet kvs tb) (aGGet kvs ab) := by subst hK; subst hmg; subst hw; exact ⟨pe_gget g hg hd hb.pe hs, rd_gget hb.rd⟩
theorem qt_gnotin (g : GloD K w mg x kvs) (hb : QE X ρ b tb ab) (hg : Gl X x := by rfl) (hmg : X.mg = mg := by rfl) (hK : X.K = K := by rfl) (hw : X.w = w := by rfl) (hd : (x == ("__debug__" : Str)) = false := by decide) (hm : behindInMarks .NotIn (.Name x p) = false := by rfl) :
    QT X ρ (.Compare b [.NotIn] [.Name x p] pos) (tB (tGIn not kvs tb)) (aTst (aGIn not kvs ab)) := by subst hK; subst hmg; subst hw; exact ⟨pt_cmp (pc_gnotin g hg hd hb.pe) hm, rd_tst (rd_gin hb.rd)⟩
end
theorem kv_merged : ∀ {more : List (Key × V)} {vm : List (Key × Value)} {kvs : List (Key × V)} {vs : List (Key × Value)}, KV more vm → KV kvs vs → KV (mergeK kvs more) (merged vs vm)
  | _, _, _, _, .nil, h => h
  | p :: _, q :: _, _, _, .cons h t, hk => by
    obtain ⟨h1, h2⟩ := h
    show KV (mergeK (putK _ p.1 p.2) _) (merged (stored _ q.1 q.2) _)
    rw [← h1]
    exact kv_merged t (hk.put p.1 h2)
theorem mergeK_len : ∀ (more kvs : List (Key × V)), (mergeK kvs more).length ≤ kvs.length + more.length
  | [], kvs => Nat.le_refl _
  | q :: more, kvs => by
    have h1 := mergeK_len more (putK kvs q.1 q.2)
    have h2 := length_putK kvs q.1 q.2
    show (mergeK (putK kvs q.1 q.2) more).length ≤ _
    simp only [List.length_cons]
    omega
def tDUpd (td ty : TE) : TE := fun σ H Q => td σ H fun x H1 => ∃ a, x = .ref a ∧ IsD H1 a ∧ ty σ H1 fun y H2 => ∃ b kvs more, y = .ref b ∧ a ≠ b ∧ H2 a = some (.dK kvs) ∧ Rd H2 b (.dK more) ∧ kvs.length + more.length ≤ sizeLine ∧ Q .non (upd H2 a (.dK (mergeK kvs more)))
section
variable {X : Cx} {K : PySem.W.Frag} {o e : Expr} {td ty : TE} {ad ay : AE}
theorem pe_dupd {apos cpos : Pos} (ho : PE X o td) (he : PE X e ty) (m : M1 X o "update" apos e cpos) : PE X (.Call (.Attribute o "update" apos) [e] [] cpos) (tDUpd td ty) := by
  refine ⟨fun pins s σ H Q I h => ?_⟩
  refine wpAny_Call_method m.base m.few m.line PySem.F.plainAttrs_dict PySem.F.slot_dict_update PySem.F.type_dict_update (thn (ho.run pins s σ H _ I h) fun u s1 ⟨x, H1, I1, rx, a, ex, d, q1⟩ => ?_)
  subst ex
  obtain rfl : u = Value.ref a := rx
  obtain ⟨t1, t2, _⟩ := isD_at I1 d
  refine ⟨t1, t2, ?_⟩
  rw [m.trees]
  refine Calls.callWith_builtin rfl (Calls.evalArgs_plain (Calls.spliced_cons (thn (he.run pins s1 σ H1 _ I1 q1) fun iv s2 ⟨y, H2, I2, ry, b, kvs, more, ey, ne, ha, hb, hl, q2⟩ => Calls.spliced_nil ?_)))
  subst ey
  obtain rfl : iv = Value.ref b := ry
  obtain ⟨z, hd, vs, rel, dd⟩ := dk_of I2.hok ha
  obtain ⟨z', hd', vm, rel', dd'⟩ := dk_rd I2.hok hb
  refine call_meetsIn PySem.F.slot_dict_update dd.typeIs PySem.F.entry_dict_update (PySem.F.args_dict_update_2 _ _) (meets_dict_update (mixKind X.prog X.w) a b ne hd') ⟨vs, vm, dd, dd', by rw [← rel.length, ← rel'.length]; exact hl, fun h' hA hB hs => ?_⟩
  refine ⟨.non, _, d_write I2 (by rw [ha]; exact True.intro) hs (let ⟨q, _, _, hq, _⟩ := hA; ⟨q, hq⟩) (dk_new ?_ hd (kv_merged rel' rel) hA), rfl, q2⟩
  have := mergeK_len more kvs
  omega
def aDUpd (ad ay : AE) (Γ : Sl) (M : Mem) (Q : Ret → Sl → Mem → Prop) : Prop := ad Γ M fun r Γ1 M1 => (dctOf r Γ1 M1).isSome = true ∧ ay Γ1 M1 fun ry Γ2 M2 => match ry with
  | .tmp (.dct js es) => match cget r Γ2 M2 with
    | some (.dct ks ds) => ks.length + js.length ≤ sizeLine ∧ cput r (.dct (mergeA (ks, ds) (js.zip es)).1 (mergeA (ks, ds) (js.zip es)).2) Γ2 M2 fun Γ3 M3 => Q (.dat .non) Γ3 M3
    | _ => False
  | _ => False
theorem repKs_zip {G : Hp} : ∀ {js : List Key} {es : List D} {ws : List V}, js.length = es.length → RepL K G es ws → RepKs K G (js.zip es) (js.zip ws)
  | [], [], _, _, _ => rfl
  | j :: js, e :: es, ws, hl, h => by
    obtain ⟨x, r, rfl, h1, h2⟩ := repL_cons.mp h
    exact ⟨x, js.zip r, rfl, h1, repKs_zip (by simpa using hl) h2⟩
theorem rd_dupd {ρ : Ent} (ha : RdE K ρ td ad) (hb : RdE K ρ ty ay) : RdE K ρ (tDUpd td ty) (aDUpd ad ay) := by
  intro B σ H G Γ M Q R k h q
  refine ha B σ H G Γ M _ _ k h fun v H1 G1 Γ1 M1 r k1 e1 rr1 h1 => ?_
  obtain ⟨hs, h1⟩ := h1
  obtain ⟨⟨ks0, ds0⟩, hd0⟩ := Option.isSome_iff_exists.mp hs
  obtain ⟨a, xs0, rfl, hr0, _, _⟩ := dctOf_ok k1 rr1 hd0
  refine ⟨a, rfl, .inl ⟨_, hr0⟩, hb B σ H1 G1 Γ1 M1 _ _ k1 h1 fun u H2 G2 Γ2 M2 r2 k2 e2 rr2 h2 => ?_⟩
  have rr1' := rr1.es e2
  split at h2
  · rename_i js es
    obtain ⟨b, rfl, hb0, hbB, ⟨hbg, ub, hbu, ws, rfl, hjl, hw⟩, hbm, hbo⟩ := rr2
    split at h2
    · rename_i ks ds hd
      obtain ⟨l, o', el, hl, xs, rfl, hlen, hx⟩ := cget_ok k2 rr1' hd
      cases el
      have ne : a ≠ b := fun z => by
        subst z
        rcases hr0 with hr0 | ⟨od, hr0⟩
        · rw [hb0] at hr0; cases hr0
        · rw [hb0] at hr0; cases hr0
      obtain ⟨xs', em, hx', hl'⟩ := mergeA_ok (t := (ks, ds)) hlen hx (repKs_zip hjl hw)
      obtain ⟨Γ5, M5, k5, e6, hq⟩ := cput_ok (c' := .dct _ _) (o' := .dK ((mergeA (ks, ds) (js.zip es)).1.zip xs')) k2 rr1' hd ⟨xs', rfl, hl', hx'⟩ h2.2
      have em' : mergeK (ks.zip xs) (js.zip ws) = (mergeA (ks, ds) (js.zip es)).1.zip xs' := em
      rw [← em'] at k5 e6
      exact ⟨b, _, _, rfl, ne, hl, .inl hbu, by simp only [List.length_zip, hx.length, hw.length]; omega, q _ _ G2 Γ5 M5 (.dat .non) k5 ((e1.trans e2).trans e6) (by simp only [RepR, Rep]) hq⟩
    · exact h2.elim
  · exact h2.elim
theorem q_dupd {ρ : Ent} {apos cpos : Pos} (ho : QE X ρ o td ad) (he : QE X ρ e ty ay) (m : L2.M1 X o "update" apos e cpos := by exact ⟨rfl, rfl, rfl, rfl⟩) : QE X ρ (.Call (.Attribute o "update" apos) [e] [] cpos) (tDUpd td ty) (aDUpd ad ay) :=
  ⟨pe_dupd ho.pe he.pe m, rd_dupd ho.rd he.rd⟩
def e_aDUpd := @aDUpd.eq_def
def e_aGGet := @aGGet.eq_def
def e_aGIn := @aGIn.eq_def
theorem glo_dct {w : World} {mg : Str → Option Value} {x : Str} {kvs : List (Str × Str)} {p : Addr} {es : Array DictEntry} {n : Nat} (h : mg x = some (.ref p)) (hl : K.lookup p = some ⟨.type "dict", none, .dict es n, #[]⟩) (hs : (p == sysModules) = false) (he : Paired (EntD w) es.toList kvs) (nd : (kvs.map (·.1)).Nodup) : GloD K w mg x kvs :=
  ⟨⟨p, _, es, n, h, hl, ⟨rfl, rfl, rfl⟩, rfl, hs, he⟩, nd⟩
end
end Gw

namespace Gw
open PySem L2
variable {ρ : Ent}
theorem takes_no {X : Cx} : Takes X (fun _ _ _ _ => False) := fun _ _ ⟨_, _, _, _, _, _, _, _, _, _, _, _, _, _, _, _, w⟩ => w.elim
theorem cn_no {K : PySem.W.Frag} : Conn K ρ (fun _ _ _ _ => False) (fun _ _ _ => False) := fun _ _ _ _ _ _ _ _ _ _ _ w => w.elim
end Gw

namespace Gw
open PySem L2
variable {ρ : Ent}
def aIenumA (ar : AA) (Γ : Sl) (M : Mem) (Q : List D → Sl → Mem → Prop) : Prop := aIenum ar Γ M Q ∨ aIenumT ar Γ M Q
def e_aIenumA := @aIenumA.eq_def
end Gw

namespace Gw
open PySem PySem.Spec L2 PyProof.Rows
variable {ρ : Ent}
def once {κ : Type} [DecidableEq κ] : List κ → List κ → List κ
  | acc, [] => acc
  | acc, x :: xs => once (if x ∈ acc then acc else acc ++ [x]) xs
section
variable {κ : Type} [DecidableEq κ]
theorem once_snoc : ∀ (xs acc : List κ) (y : κ), once acc (xs ++ [y]) = if y ∈ once acc xs then once acc xs else once acc xs ++ [y]
  | [], acc, y => rfl
  | x :: xs, acc, y => once_snoc xs _ y
theorem once_le : ∀ (xs acc : List κ), (once acc xs).length ≤ acc.length + xs.length
  | [], acc => Nat.le_refl _
  | x :: xs, acc => by
    rw [once]
    by_cases h : x ∈ acc
    · rw [if_pos h]
      have := once_le xs acc
      simp only [List.length_cons]
      omega
    · rw [if_neg h]
      have := once_le xs (acc ++ [x])
      simp only [List.length_append, List.length_cons, List.length_nil] at this ⊢
      omega
theorem once_take {xs : List κ} {i : Nat} {y : κ} (h : xs[i]? = some y) : once [] (xs.take (i + 1)) = if y ∈ once [] (xs.take i) then once [] (xs.take i) else once [] (xs.take i) ++ [y] := by
  rw [List.take_add_one, h]
  exact once_snoc _ _ y
end
section
variable {P : Program} {w : World} {A : Around} {R : Result → Shared → Prop} {I : Addr} {fp wr : List Addr} {G : Array GenState → Array GenState → Prop} {n : Nat} {Pv : Nat → Value → Prop} {St : Nat → Shared → Prop} {κ : Type} [DecidableEq κ]
theorem fill_any (knd : KeyKind P w κ) (T : WalksS P w A.in1 I fp wr G n Pv St) (S : Addr) (out : S ∉ fp) (xs : List κ) (many : xs.length = n) (few : n + 1 < scanBound)
    (is : ∀ i v, Pv i v → ∃ k, xs[i]? = some k ∧ knd.is k v = true ∧ v.scannable = true) :
    ∀ (k i : Nat) (s : Shared), n - i = k → i ≤ n → St i s → s.heap.SetOf knd S (fun q => decide (q ∈ once [] (xs.take i))) (once [] (xs.take i)).length →
      (∀ s', Moved (S :: wr) G s s' → s'.heap.SetOf knd S (fun q => decide (q ∈ once [] xs)) (once [] xs).length → R (.ok (.ret .none)) s') →
      codeAny (model P w) A (.builtin "set.update.loop" ⟨[.ref S, .ref I], []⟩) R s := by
  have nw : S ∉ wr := fun z => out (T.sub _ z)
  have more : ∀ b ∈ wr, b ∈ S :: wr := fun b z => List.mem_cons_of_mem _ z
  intro k
  induction k with
  | zero =>
    intro i s hk hi st so fin
    obtain rfl : i = n := by omega
    rw [List.take_of_length_le (Nat.le_of_eq many)] at so
    refine codeAny_builtin F.entry_set_update_loop (by
      rw [Around.under_plainId F.plain_set_update_loop _]
      refine wpAny_bind (T.done s _ _ st fun s2 mv => wpAny_pure (fin s2 (mv.mono more) ?_))
      obtain ⟨o, es, ep, t, go, r⟩ := so
      exact ⟨o, es, ep, t, mv.heap S _ nw go, r⟩)
  | succ k ih =>
    intro i s hk hi st so fin
    have lt : i < n := by omega
    refine codeAny_builtin F.entry_set_update_loop ?_
    rw [Around.under_plainId F.plain_set_update_loop _]
    refine wpAny_bind (T.item i s _ _ lt st fun v s2 pv st2 mv => ?_)
    obtain ⟨y, hy, isy, scy⟩ := is i v pv
    have so2 : s2.heap.SetOf knd S (fun q => decide (q ∈ once [] (xs.take i))) (once [] (xs.take i)).length := by
      obtain ⟨o, es, ep, t, go, r⟩ := so
      exact ⟨o, es, ep, t, mv.heap S _ nw go, r⟩
    have room : (once [] (xs.take i)).length + 1 < scanBound := by
      have l1 := once_le (xs.take i) []
      rw [List.length_take] at l1
      simp only [List.length_nil] at l1
      omega
    show wpAny _ A.in1 (holding [v] (setAdd S v) >>= _) _ _ s2
    refine wpAny_bind (wpAny_holding ?_)
    unfold setAdd
    refine wpAny_holding (wpAny_bind (knd.pyHash (k := y) isy ?_))
    refine wpAny_setAddHashed_of (s := { s2 with toks := s2.toks + 1 }) isy scy so2 room fun h3 sb so3 => ?_
    have so4 : h3.SetOf knd S (fun q => decide (q ∈ once [] (xs.take (i + 1)))) (once [] (xs.take (i + 1))).length := by
      have e1 : (fun q => decide (q ∈ once [] (xs.take i)) || decide (q = y)) = fun q => decide (q ∈ once [] (xs.take (i + 1))) := by
        funext q
        rw [once_take hy]
        by_cases h : y ∈ once [] (xs.take i)
        · rw [if_pos h]
          by_cases e : q = y
          · subst e; simp [h]
          · simp [e]
        · rw [if_neg h]
          simp [Bool.decide_or]
      have e2 : (if decide (y ∈ once [] (xs.take i)) = true then (once [] (xs.take i)).length else (once [] (xs.take i)).length + 1) = (once [] (xs.take (i + 1))).length := by
        rw [once_take hy]
        by_cases h : y ∈ once [] (xs.take i)
        · simp [h]
        · simp [h]
      rw [e1, e2] at so3
      exact so3
    refine wpAny_pure ⟨plainId_quiet F.plain_set_update_loop _, ih (i + 1) _ (by omega) lt (T.frame _ s2 _ _ st2 (Nat.le_succ _) fun b hb o e => ?_) so4 fun s5 mv5 so5 => fin s5 (Moved.trans T.gtrans ((mv.mono more).then_heap (Nat.le_succ _) fun b o hb e => ?_) mv5) so5⟩
    · rw [sb.2 b fun z => out (z ▸ hb)]
      exact e
    · rw [sb.2 b fun z => hb (z ▸ List.mem_cons_self)]
      exact e
end
section
variable {P : Program} {w : World} {A : Around} {E : Value → Shared → Prop} {s : Shared}
theorem init_list {S l : Addr} {items : Array Value} {Q : Fin → Shared → Prop} (hl : s.heap.IsList l items) (hS : s.heap.get? S = some (freshSet w))
    (h : codeAny (model P w) A (.builtin "set.update.loop" ⟨[.ref S, .ref s.heap.objs.size], []⟩) (fun r s' => match r with | .ok (.ret v) => Q (.done (.ret .none)) s' | .ok _ => False | .error e => E e s') { s with heap := s.heap.push { cls := .type "list_iterator", data := .fields #[.ref l, .int 0 0] } }) :
    wpAny (model P w) A (Builtin.«set.__init__» ⟨[.ref S, .ref l], []⟩) Q E s := by
  obtain ⟨⟨cl, dl, tl, xl⟩, hol, rfl, nl, rfl⟩ := id hl
  have s1 := F.sub_list_set
  have s2 := F.sub_list_frozenset
  have s3 : (Value.type "list" == Value.type "dict") = false := by decide
  have s4 : s.TypeIs (.ref l) "list" := ⟨_, hol, rfl⟩
  unfold Builtin.«set.__init__» noKeywords Builtin.Frozenset.updateFrom
  generalize hPI : pyIter = PI
  wp_walk
  subst hPI
  refine wpAny_pyIter_list hl (wpAny_bind (wpAny_runValue (codeAny_mono h fun r s' hr => ?_)))
  cases r with
  | error e => exact hr
  | ok f =>
    cases f with
    | ret v => exact wpAny_pure (wpAny_pure hr)
    | _ => exact hr
theorem call_set_any {κ : Type} [DecidableEq κ] (knd : KeyKind P w κ) (tp : Bool) {l : Addr} {items : Array Value} (xs : List κ) {Q : Value → Shared → Prop} (hh : A.handled = none) (hl : IsSq tp s.heap l items) (hn : xs.length = items.size) (few : items.size + 1 < scanBound)
    (is : ∀ (i : Nat) (v : Value), items[i]? = some v → ∃ k : κ, xs[i]? = some k ∧ knd.is k v = true ∧ v.scannable = true)
    (h : ∀ (h' : Heap) (tk : Nat), h'.SetOf knd s.heap.objs.size (fun q => decide (q ∈ once [] xs)) (once [] xs).length → (∀ b o, s.heap.get? b = some o → h'.get? b = some o) → Q (.ref s.heap.objs.size) { s with heap := h', toks := tk }) :
    wpAny (model P w) A (call (.type "set") [.ref l]) Q E s := by
  have new : (s.heap.push (freshSet w)).get? s.heap.objs.size = some (freshSet w) := Heap.get?_push_size _ rfl
  have sz : (s.heap.push (freshSet w)).objs.size = s.heap.objs.size + 1 := Heap.size_push ..
  have lt : l < s.heap.objs.size := by
    cases tp
    · obtain ⟨o, ho, _⟩ := hl; exact Heap.lt_size ho
    · obtain ⟨o, ho, _⟩ := hl; exact Heap.lt_size ho
  have lI : l ≠ (s.heap.push (freshSet w)).objs.size := by rw [sz]; exact Nat.ne_of_lt (Nat.lt_succ_of_lt lt)
  have out : s.heap.objs.size ∉ [(s.heap.push (freshSet w)).objs.size, l] := by
    rw [sz]
    simp only [List.mem_cons, List.not_mem_nil, or_false, not_or]
    exact ⟨Nat.ne_of_lt (Nat.lt_succ_self _), Nat.ne_of_gt lt⟩
  have ns : Heap.SetOf knd ((s.heap.push (freshSet w)).push (itO tp l)) s.heap.objs.size (fun q => decide (q ∈ once [] (xs.take 0))) (once [] (xs.take 0)).length := by
    have f : Heap.SetOf knd ((s.heap.push (freshSet w)).push (itO tp l)) s.heap.objs.size (fun _ => false) 0 := ⟨_, #[], 0, _, Heap.get?_push_of_some _ new, ⟨rfl, rfl, rfl⟩, rfl, fun e he => by simp at he, fun k => by simp, by show 0 < scanBound; decide, rfl, rfl⟩
    have e : (fun q : κ => decide (q ∈ once [] (xs.take 0))) = fun _ => false := by funext q; simp [once]
    rw [e]
    exact f
  have fin : ∀ s', Moved [s.heap.objs.size, (s.heap.push (freshSet w)).objs.size] (fun a b => b = a) { s with heap := (s.heap.push (freshSet w)).push (itO tp l) } s' → s'.heap.SetOf knd s.heap.objs.size (fun q => decide (q ∈ once [] xs)) (once [] xs).length → Q (.ref s.heap.objs.size) s' := fun s' mv so => by
    obtain ⟨h', g2, d', tk', os'⟩ := s'
    cases (show g2 = s.gens from mv.gens)
    cases (show d' = s.drawn from mv.drawn)
    cases (show os' = s.os from mv.os)
    refine h h' tk' so fun b o e => mv.heap b o (fun z => ?_) (Heap.get?_push_of_some _ (Heap.get?_push_of_some _ e))
    have lb := Heap.lt_size e
    rw [sz] at z
    simp only [List.mem_cons, List.not_mem_nil, or_false] at z
    rcases z with z | z
    · exact absurd lb (by rw [z]; exact Nat.lt_irrefl _)
    · exact absurd lb (by rw [z]; exact Nat.not_lt.mpr (Nat.le_succ _))
  have hh3 : A.in1.in1.in1.handled = none := by simp [hh]
  cases tp
  · refine set_call (init_list (s := { s with heap := s.heap.push (freshSet w) }) (hl.push _) new ?_)
    refine fill_any knd (Walks.list hh3 _ l lI items).toS s.heap.objs.size out xs hn few is (items.size - 0) 0 _ (by omega) (Nat.zero_le _) ⟨⟨_, Heap.get?_push_size _ rfl, rfl, rfl⟩, (hl.push _).push _⟩ ns fun s' mv so => ?_
    exact ⟨rfl, fin s' mv so⟩
  · refine set_call (init_tuple (s := { s with heap := s.heap.push (freshSet w) }) (hl.push _) new ?_)
    refine fill_any knd (Walks.tuple hh3 _ l lI items).toS s.heap.objs.size out xs hn few is (items.size - 0) 0 _ (by omega) (Nat.zero_le _) ⟨⟨_, Heap.get?_push_size _ rfl, rfl, rfl⟩, (hl.push _).push _⟩ ns fun s' mv so => ?_
    exact ⟨rfl, fin s' mv so⟩
end
def SetS (P : Program) (w : World) (a : Addr) (xs : List Str) : HO := .ext fun h => h.SetOf (strKind P w) a (fun q => decide (q ∈ once [] xs)) (once [] xs).length
section
variable {X : Cx} {a : Expr} {ta : TE} {aa : AE} {pos : Pos} {K : PySem.W.Frag}
def rSetOfS (K : PySem.W.Frag) (P : Program) (w : World) : List V → Hp → VK → Prop := fun vs H Q => ∃ (l : Addr) (tp : Bool) (xs : List Str), vs = [V.ref l] ∧ SqB K tp H l (xs.map V.str) ∧ xs.length ≤ 4000 ∧
  ∀ a, H a = none → Q (.ref a) (upd H a (SetS P w a xs))
theorem strs_get : ∀ {xs : List Str} {us : List Value} {i : Nat} {v : Value}, Vals (xs.map V.str) us → us[i]? = some v → ∃ x t, xs[i]? = some x ∧ v = .str x t
  | [], _, i, v, .nil, h => by simp at h
  | x :: xs, _, 0, v, .cons r _, h => by cases h; obtain ⟨t, rfl⟩ := r; exact ⟨x, t, rfl, rfl⟩
  | x :: xs, _, i + 1, v, .cons _ r, h => by
    obtain ⟨y, t, h1, h2⟩ := strs_get (xs := xs) (i := i) r (by simpa using h)
    exact ⟨y, t, by simpa using h1, h2⟩
theorem cr_setOfS (hc : X.calm = true) : CallR X (.type "set") (rSetOfS X.K X.prog X.w) := by
  rintro pins s σ H vs us Q I r ⟨l, tp, xs, rfl, hl, few, q⟩
  rw [Vals.ref1 r]
  obtain ⟨its, rv, ht, _⟩ := seqB I hl
  have len : xs.length = its.length := by rw [← rv.length, List.length_map]
  refine call_set_any (strKind X.prog X.w) tp xs (items := its.toArray) (I.ok.hd hc) ht (by simpa using len) (by have : scanBound = 4096 := rfl; simp; omega) (fun i v hv => ?_) fun h' tk so kk => ?_
  · obtain ⟨x, t, h1, rfl⟩ := strs_get rv (by simpa using hv)
    exact ⟨x, h1, strKind_is _ _ _ _, rfl⟩
  · have ⟨o, _, _, _, ho, _⟩ := so
    have ok : ObjOk X.prog X.w (upd H s.heap.objs.size (SetS X.prog X.w s.heap.objs.size xs)) h' s.heap.objs.size (SetS X.prog X.w s.heap.objs.size xs) := ⟨so, ⟨o, ho⟩, fun h1 h2 ⟨o', es, ep, t, ho', r'⟩ k => ⟨o', es, ep, t, k o' ho', r'⟩⟩
    exact ⟨.ref _, _, I.laid (t' := tk) kk (Nat.le_refl _) ok, rfl, q _ (I.hok.fresh (Nat.le_refl _))⟩
def rLenS (P : Program) (w : World) : List V → Hp → VK → Prop := fun vs H Q => ∃ (a : Addr) (xs : List Str), vs = [V.ref a] ∧ H a = some (SetS P w a xs) ∧ xs.length ≤ 4000 ∧ Q (.int (once [] xs).length) H
theorem cr_lenS : CallR X (.builtin "len") (rLenS X.prog X.w) := by
  rintro pins s σ H vs us Q I r ⟨a, xs, rfl, ha, few, q⟩
  obtain ⟨o, es, ep, t, ho, hex, hd, _, _, _, hf, hn⟩ : s.heap.SetOf (strKind X.prog X.w) a (fun q => decide (q ∈ once [] xs)) (once [] xs).length := (I.hok a _ ha).1
  have l1 := once_le xs []
  rw [Vals.ref1 r]
  exact call_len_set ho hex hd hf (by rw [hn]; simp only [List.length_nil] at l1; omega) ⟨.int (once [] xs).length, H, I.tok _, ⟨_, by rw [hn]⟩, q⟩
def strsD : List D → Option (List Str)
  | [] => some []
  | .str x :: ds => (strsD ds).map (x :: ·)
  | _ :: _ => none
theorem strsD_ok : ∀ {ds : List D} {xs : List Str}, strsD ds = some xs → ds = xs.map .str
  | [], xs, h => by cases h; rfl
  | .str x :: ds, xs, h => by
    obtain ⟨ys, e, rfl⟩ := Option.map_eq_some_iff.mp (show (strsD ds).map (x :: ·) = some xs from h)
    rw [strsD_ok e]; rfl
theorem strsD_map (xs : List Str) : strsD (xs.map .str) = some xs := by
  induction xs with
  | nil => rfl
  | cons x xs ih => show (strsD (xs.map .str)).map (x :: ·) = _; rw [ih]; rfl
theorem repL_str {G : Hp} : ∀ {xs : List Str} {vs : List V}, RepL K G (xs.map .str) vs → vs = xs.map V.str
  | [], vs, h => repL_nil.mp h
  | x :: xs, vs, h => by
    obtain ⟨v, r, rfl, h1, h2⟩ := repL_cons.mp h
    rw [Rep] at h1
    rw [h1, repL_str h2]; rfl
def aLenSetS (r : Ret) (Γ : Sl) (M : Mem) (Q : Ret → Sl → Mem → Prop) : Prop := match sqOf r Γ M with
  | some (.lst ds) => match strsD ds with
    | some xs => xs.length ≤ 4000 ∧ Q (.dat (.int (once [] xs).length)) Γ M
    | none => False
  | some (.tup ds) => match strsD ds with
    | some xs => xs.length ≤ 4000 ∧ Q (.dat (.int (once [] xs).length)) Γ M
    | none => False
  | _ => False
theorem q_lenSetS {P : Program} {w : World} {p p2 pos2 : Pos} (hm : X.mg "len" = none) (hm2 : X.mg "set" = none) (ha : QE X ρ a ta aa) (hc : X.calm = true := by rfl) (hg : Gl X "len" := by rfl) (hg2 : Gl X "set" := by rfl)
    (na : starEach [a] X.env = (false, eval a X.env) :: starEach [] X.env := by rfl) (na2 : starEach [.Call (.Name "set" p2) [a] [] pos2] X.env = (false, eval (.Call (.Name "set" p2) [a] [] pos2) X.env) :: starEach [] X.env := by rfl) (hK : X.K = K := by rfl) (hP : X.prog = P := by rfl) (hW : X.w = w := by rfl) :
    QE X ρ (.Call (.Name "len" p) [.Call (.Name "set" p2) [a] [] pos2] [] pos) (tCB (rLenS P w) (tCons (tCB (rSetOfS K P w) (tCons ta tNil)) tNil)) (aCall1 aLenSetS aa) := by
  subst hK; subst hW; subst hP
  refine ⟨pe_callB cr_lenS hg hm (by decide +kernel) (pa_cons (pe_callTy (cr_setOfS hc) hg2 hm2 (by decide +kernel) (pa_cons ha.pe pa_nil na) (by decide) (by decide) na) pa_nil na2) (by decide) (by decide) na2, ?_⟩
  intro B σ H G Γ M Q R k h q
  refine ha.rd B σ H G Γ M _ _ k h fun v H1 G1 Γ1 M1 r k1 e1 rr h1 => ?_
  unfold aLenSetS at h1
  split at h1
  · rename_i ds hs
    split at h1
    · rename_i zs hz
      obtain ⟨few, h1⟩ := h1
      obtain ⟨l, xs, ev, hl, rl⟩ := sqOf_ok k1 rr hs
      rw [strsD_ok hz] at rl
      rw [repL_str rl] at hl
      refine ⟨l, false, zs, by rw [ev], SqL.of hl, few, fun p0 hp0 => ?_⟩
      obtain ⟨k2, e2, _⟩ := k1.tmp (o := SetS X.prog X.w p0 zs) hp0
      exact ⟨p0, zs, rfl, upd_same, few, q _ _ _ _ _ (.dat (.int ((once [] zs).length : Int))) k2 (e1.trans e2) (by simp only [RepR, Rep]) h1⟩
    · exact h1.elim
  · rename_i ds hs
    split at h1
    · rename_i zs hz
      obtain ⟨few, h1⟩ := h1
      obtain ⟨l, xs, ev, hl, rl⟩ := sqOf_ok k1 rr hs
      rw [strsD_ok hz] at rl
      rw [repL_str rl] at hl
      refine ⟨l, true, zs, by rw [ev], hl, few, fun p0 hp0 => ?_⟩
      obtain ⟨k2, e2, _⟩ := k1.tmp (o := SetS X.prog X.w p0 zs) hp0
      exact ⟨p0, zs, rfl, upd_same, few, q _ _ _ _ _ (.dat (.int ((once [] zs).length : Int))) k2 (e1.trans e2) (by simp only [RepR, Rep]) h1⟩
    · exact h1.elim
  · exact h1.elim
end
def e_aLenSetS := @aLenSetS.eq_def
end Gw

namespace Gw
open PySem PySem.Spec L2 PyProof.Rows
variable {ρ : Ent}
section
variable {X : Cx} {a b o : Expr} {ta tb to : TE} {aa ab ao : AE} {pos : Pos} {K : PySem.W.Frag}
def leS (x y : Str) : Bool := !decide (y.cps.toList < x.cps.toList)
def aLeS (x : Ret) (y : Ret) (Γ : Sl) (M : Mem) (Q : Ret → Sl → Mem → Prop) : Prop := match x, y with
  | .dat (.str i), .dat (.str j) => Q (.dat (.bl (leS i j))) Γ M
  | _, _ => False
def aInSg (f : Bool → Bool) (x : Ret) (y : Ret) (Γ : Sl) (M : Mem) (Q : Ret → Sl → Mem → Prop) : Prop := match x, y with
  | .dat (.str x), .dat (.str z) => ∃ c : Nat, x = ⟨#[c]⟩ ∧ Q (.dat (.bl (f (decide (c ∈ z.cps.toList))))) Γ M
  | _, _ => False
theorem c_inSg : CmpR X ρ .In (fun x y H Q => ∃ (c : Nat) (z : Str), x = .str ⟨#[c]⟩ ∧ y = .str z ∧ Q (.bl (decide (c ∈ z.cps.toList))) H) (aInSg id) := ⟨op_in_sign, fun B σ H H1 H2 G Γ M rx ry x y Q R k r1 r2 h q => by
  unfold aInSg at h
  split at h
  · rename_i i j
    obtain ⟨c, rfl, h⟩ := h
    exact ⟨c, j, (by have := r1; simp only [RepR, Rep] at this; exact this), (by have := r2; simp only [RepR, Rep] at this; exact this), q _ H G Γ M (.dat (.bl _)) k .refl (by simp only [RepR, Rep]; rfl) h⟩
  · exact h.elim⟩
def aSumI (r : Ret) (Γ : Sl) (M : Mem) (Q : Ret → Sl → Mem → Prop) : Prop := match sqOf r Γ M with
  | some (.lst ds) => match intsD ds with
    | some ns => Q (.dat (.int ns.sum)) Γ M
    | none => False
  | _ => False
theorem q_sum {p : Pos} (hm : X.mg "sum" = none) (ha : QE X ρ a ta aa) (hc : X.calm = true := by rfl) (hg : Gl X "sum" := by rfl) (na : starEach [a] X.env = (false, eval a X.env) :: starEach [] X.env := by rfl) (hK : X.K = K := by rfl) :
    QE X ρ (.Call (.Name "sum" p) [a] [] pos) (tCB (rSum K) (tCons ta tNil)) (aCall1 aSumI aa) := by
  subst hK
  exact q_callB1 (cr_sum hc) (by
    intro B σ H H1 G Γ M rx x Q R k r1 h q
    unfold aSumI at h
    split at h
    · rename_i ds hs
      split at h
      · rename_i ns hn
        obtain ⟨l, xs, ev, hl, rl⟩ := sqOf_ok k r1 hs
        rw [intsD_ok hn] at rl
        rw [repL_map_int.mp rl] at hl
        exact ⟨l, ns, by rw [ev], SqL.of hl, q _ H G Γ M (.dat (.int _)) k .refl (by simp only [RepR, Rep]) h⟩
      · exact h.elim
    · exact h.elim) hm ha hg (by decide +kernel) (by decide) (by decide) na
def aSplit (ao ae : AE) (Γ : Sl) (M : Mem) (Q : Ret → Sl → Mem → Prop) : Prop := ao Γ M fun r Γ1 M1 => match r with
  | .dat (.str x) => ae Γ1 M1 fun r2 Γ2 M2 => match r2 with
    | .dat (.str y) => (y.length == 0) = false ∧ x.length + 2 ≤ 16777216 ∧ Q (.tmp (.lst ((Txt.split x y).map .str))) Γ2 M2
    | _ => False
  | _ => False
theorem repL_strs {G : Hp} : ∀ xs : List Str, RepL K G (xs.map .str) (xs.map V.str)
  | [] => repL_nil.mpr rfl
  | x :: xs => repL_cons.mpr ⟨_, _, rfl, by rw [Rep], repL_strs xs⟩
theorem q_split {e : Expr} {te : TE} {ae : AE} {apos : Pos} (ho : QE X ρ o to ao) (he : QE X ρ e te ae) (hs : starEach [e] X.env = [(false, eval e X.env)] := by rfl) (hbase : attributeBase o "split" X.env (eval o X.env) = eval o X.env := by rfl) (hline : (apos.endLine == pos.line) = true := by rfl) :
    QE X ρ (.Call (.Attribute o "split" apos) [e] [] pos) (tM1 (fun x xs H Q => ∃ a b, x = .str a ∧ xs = [.str b] ∧ (b.length == 0) = false ∧ a.length + 2 ≤ sizeLine ∧ rNewStrs (Txt.split a b) H Q) to te) (aSplit ao ae) := by
  refine ⟨pe_split ho.pe he.pe hs hbase hline, ?_⟩
  intro B σ H G Γ M Q R k h q
  refine ho.rd B σ H G Γ M _ _ k h fun v H1 G1 Γ1 M1 r k1 e1 rr h1 => ?_
  split at h1
  · rename_i x
    have ev := rep_strV (show Rep X.K G1 (.str x) v from rr)
    subst ev
    refine ⟨⟨x, rfl⟩, he.rd B σ H1 G1 Γ1 M1 _ _ k1 h1 fun u H2 G2 Γ2 M2 r2 k2 e2 rr2 h2 => ?_⟩
    split at h2
    · rename_i y
      have eu := rep_strV (show Rep X.K G2 (.str y) u from rr2)
      subst eu
      refine ⟨x, y, rfl, rfl, h2.1, by rw [size_val]; exact h2.2.1, fun p hp => ?_⟩
      obtain ⟨k3, e3, m3, n3, b3, g3⟩ := k2.tmp (o := .lst ((Txt.split x y).map V.str)) hp
      refine q _ _ _ _ _ (.tmp (.lst ((Txt.split x y).map .str))) k3 ((e1.trans e2).trans e3) ?_ h2.2.2
      exact ⟨p, rfl, (e1.trans e2).nn p hp, b3, ⟨g3, _, upd_same, ⟨_, rfl, repL_strs _⟩⟩, m3, n3⟩
    · exact h2.elim
  · exact h1.elim
def aUpper (r : Ret) (Γ : Sl) (M : Mem) (Q : Ret → Sl → Mem → Prop) : Prop := match r with
  | .dat (.str x) => x.length ≤ 5592405 ∧ Q (.dat (.str (Txt.upper x))) Γ M
  | _ => False
end
theorem glob_str {K : PySem.W.Frag} {mg : Str → Option Value} {x s : Str} {t : Tok} (h : mg x = some (.str s t)) : Glob K mg x (.str s) := ⟨.str s, _, h, ⟨t, rfl⟩, fun _ => by rw [Rep]⟩
structure CalD (P : Program) (w : World) (K : PySem.W.Frag) (mg : Str → Option Value) (base : Heap) (x : Str) (ps : List Str) (k : Nat) (S : ASp) (dds : List D) (dvs : List V) : Prop where
  ex : ∃ f fd ds, FnG P w K mg base CX0 k f fd ps (spA K ps.length S) ∧ mg x = some (.ref f) ∧ PySem.W.keepIn K (.ref f) = true ∧ Binds K fd ps ds ∧ Vals dvs ds ∧ (∀ G, RepL K G dds dvs) ∧ Ar ps.length S
def aCallD (S : ASp) (dds : List D) (ar : AA) : AE := aCall S fun Γ M Q => ar Γ M fun ds Γ1 M1 => Q (ds ++ dds) Γ1 M1
section
variable {X : Cx} {P : Program} {w : World} {K : PySem.W.Frag} {mg : Str → Option Value} {base : Heap} {k n : Nat} {ps : List Str} {S : ASp} {x : Str} {p pos : Pos} {a e : Expr} {es : List Expr} {tr : TA} {ar : AA} {dds : List D}
theorem pe_callGD {CX : CXT} {f : Addr} {fd : FuncData} {sp : Sp} {E : XK} {t : TA} {ds : List Value} {dvs : List V} (F : FnG X.prog X.w X.K X.mg X.base CX k f fd ps sp) (room : Room k X.A) (gd : X.A.guards = some []) (hg : Gl X x) (hm : X.mg x = some (.ref f)) (hk : PySem.W.keepIn X.K (.ref f) = true) (hb : Binds X.K fd ps ds) (hd : Vals dvs ds) (hx : Passes CX X E)
    (ha : PA X (e :: es) t) (hdb : (x == ("__debug__" : Str)) = false) (he : starEach (e :: es) X.env = (false, eval e X.env) :: starEach es X.env) (hpl : (backTo pos (starEach es X.env)).any (·.1) = false) :
    PE X (.Call (.Name x p) (e :: es) [] pos) (tCall sp dvs E t) := by
  refine ⟨fun pins s σ H Q I h => wpAny_Call_Name_kw (ld_glob I hg hm ?_ hdb)⟩
  refine PySem.W.callWith_K (h₀ := X.base) I.ok.mod.kin hk (thn (ha.run pos pins s σ H _ I h) ?_) he hpl
  rintro us s1 ⟨vs, H1, I1, r, q⟩
  have r2 : Vals (vs ++ dvs) (us ++ ds) := r.append hd
  have hl : (us ++ ds).length = ps.length := by rw [← r2.length]; exact F.arity _ _ _ _ q
  exact ⟨I1.kIn, callG (ks := []) (ws := []) F room gd hx I1 (hb s1 us I1.kIn hl) r2 q⟩
theorem q_callD {dvs : List V} (C : CalD P w K mg base x ps k S dds dvs) (hr : Room k X.A) (gd : X.A.guards = some []) (ha : QA X ρ (a :: es) tr ar) (hX : At X P w K mg base := by exact ⟨rfl, rfl, rfl, rfl, rfl⟩) (hg : Gl X x := by rfl) (hdb : (x == ("__debug__" : Str)) = false := by decide)
    (he : starEach (a :: es) X.env = (false, eval a X.env) :: starEach es X.env := by rfl) (hpl : (backTo pos (starEach es X.env)).any (·.1) = false := by rfl) :
    QE X ρ (.Call (.Name x p) (a :: es) [] pos) (tCall (spA K ps.length S) dvs E0 tr) (aCallD S dds ar) := by
  obtain ⟨f, fd, ds, F, hm, hk, hb, hd, hrep, hn⟩ := C.ex
  obtain ⟨h1, h2, h3, h4, h5⟩ := hX
  subst h1 h2 h3 h4 h5
  refine ⟨pe_callGD F hr gd hg hm hk hb hd pass0 ha.pe hdb he hpl, ?_⟩
  intro B σ H G Γ M Q R k h q
  refine ha.rd B σ H G Γ M _ _ k h fun vs H1 G1 Γ1 M1 es' k1 e1 rl h1 => ?_
  have rl2 : RepL X.K G1 (es' ++ dds) (vs ++ dvs) := rl.append (hrep G1)
  refine ⟨G1, M1, es' ++ dds, by rw [rl2.length]; exact hn _ _ _ h1, k1.ex, k1.nd, k1.ms, rl2, _, h1, fun r M' v H' G' hq p rr => ?_⟩
  obtain ⟨k2, e2, r2⟩ := k1.call p rr
  exact q _ H' G' Γ1 M' r k2 (e1.trans e2) (r2.old e1.nn) hq
end
def e_aLeS := @aLeS.eq_def
def e_aInSg := @aInSg.eq_def
def e_aSumI := @aSumI.eq_def
def e_aSplit := @aSplit.eq_def
def e_aUpper := @aUpper.eq_def
def e_aCallD := @aCallD.eq_def
end Gw

namespace Gw
open PySem PySem.Spec L2 PyProof.Rows RT
variable {ρ : Ent}
section
variable {X : Cx} {a b : Expr} {ta tb : TE} {aa ab : AE} {pos : Pos} {K : PySem.W.Frag}
def aRepN (x : Ret) (y : Ret) (Γ : Sl) (M : Mem) (Q : Ret → Sl → Mem → Prop) : Prop := match x, y with
  | .dat (.tup ds), .dat (.int k) => (ds ≠ [] ∧ 0 ≤ k ∧ k ≤ 10000 ∧ ds.length ≤ 100) ∧ Q (.dat (.tup (List.replicate k.toNat ds).flatten)) Γ M
  | _, _ => False
def aListRg2 (aa ab : AE) (Γ : Sl) (M : Mem) (Q : Ret → Sl → Mem → Prop) : Prop := aa Γ M fun r Γ1 M1 => ab Γ1 M1 fun r2 Γ2 M2 => match r, r2 with
  | .dat (.int i), .dat (.int j) => (-(2 ^ 61) ≤ i ∧ i ≤ 2 ^ 61 ∧ -(2 ^ 61) ≤ j ∧ j ≤ 2 ^ 61 ∧ j - i ≤ 16777216) ∧ Q (.tmp (.lst (rngD i (j - i).toNat))) Γ2 M2
  | _, _ => False
def repS (x : Str) (n : Nat) : Str := ⟨(List.replicate n x.cps).foldl (· ++ ·) #[]⟩
def aMulS (x : Ret) (y : Ret) (Γ : Sl) (M : Mem) (Q : Ret → Sl → Mem → Prop) : Prop := match x, y with
  | .dat (.str s), .dat (.int k) => (2 ≤ k ∧ k ≤ 100 ∧ 1 ≤ s.length ∧ s.length ≤ 100) ∧ Q (.dat (.str (repS s k.toNat))) Γ M
  | _, _ => False
end
def e_aRepN := @aRepN.eq_def
def e_aListRg2 := @aListRg2.eq_def
def e_aMulS := @aMulS.eq_def
end Gw

namespace Gw
open PySem PySem.Spec L2 PyProof.Rows
variable {ρ : Ent}
section
variable {X : Cx} {a : Expr} {ta : TE} {aa : AE} {pos : Pos} {K : PySem.W.Frag}
def aIsi3 (A B C : Knd) (r : Ret) (Γ : Sl) (M : Mem) (Q : Ret → Sl → Mem → Prop) : Prop := match kdOf r Γ M with
  | some d => Q (.dat (.bl (isD A d || isD B d || isD C d))) Γ M
  | none => False
end
def e_aIsi3 := @aIsi3.eq_def
end Gw

namespace Gw
open PySem PySem.Spec L2 PyProof.Rows
variable {ρ : Ent}
section
variable {X : Cx} {a : Expr} {ta : TE} {aa : AE} {pos : Pos} {K : PySem.W.Frag}
def aLenTx (r : Ret) (Γ : Sl) (M : Mem) (Q : Ret → Sl → Mem → Prop) : Prop := match r with
  | .dat (.str x) => x.length ≤ 16777216 ∧ Q (.dat (.int x.length)) Γ M
  | _ => False
theorem q_lenTx {p : Pos} (hm : X.mg "len" = none) (ha : QE X ρ a ta aa) (hg : Gl X "len" := by rfl) (na : starEach [a] X.env = (false, eval a X.env) :: starEach [] X.env := by rfl) :
    QE X ρ (.Call (.Name "len" p) [a] [] pos) (tCB (fun xs H Q => ∃ z, xs = [.str z] ∧ z.length ≤ sizeLine ∧ Q (.int z.length) H) (tCons ta tNil)) (aCall1 aLenTx aa) := q_callB1 call_len_str (by
  intro B σ H H1 G Γ M rx x Q R k r1 h q
  unfold aLenTx at h
  split at h
  · rename_i i
    have e : x = .str i := by have := r1; simp only [RepR, Rep] at this; exact this
    exact ⟨i, by rw [e], by rw [size_val]; exact h.1, q _ H G Γ M (.dat (.int _)) k .refl (by simp only [RepR, Rep]) h.2⟩
  · exact h.elim) hm ha hg (by decide +kernel) (by decide) (by decide) na
end
def e_aLenTx := @aLenTx.eq_def
end Gw

namespace Gw
open PySem L2 PyProof.Rows
variable {ρ : Ent}
structure ClsP (K : PySem.W.Frag) (cn : Str) (F : List Str) : Prop where
  ex : ∃ C, PySem.W.nsIn K mainGlobals cn = some (some (.ref C)) ∧ Cls K C ∧ ∀ f ∈ F, NoAttr K C f
def fldD (f : Str) (ns : List Str) (ds : List D) : Option D := (ns.zip ds).lookup f
def putN (f : Str) : List Str → List Str
  | [] => [f]
  | n :: ns => if n = f then n :: ns else n :: putN f ns
def putO (f : Str) (d : D) : List Str → List D → List D
  | [], _ => [d]
  | _ :: _, [] => []
  | n :: ns, e :: ds => if n = f then d :: ds else e :: putO f d ns ds
theorem put_rep {K : PySem.W.Frag} {G : Hp} {f : Str} {d : D} {y : V} (hd : Rep K G d y) : ∀ {ws : List (Str × V)} {ns : List Str} {ds : List D}, ws.map (·.1) = ns → RepL K G ds (ws.map (·.2)) →
    (putF f y ws).map (·.1) = putN f ns ∧ RepL K G (putO f d ns ds) ((putF f y ws).map (·.2))
  | [], _, ds, rfl, h => ⟨rfl, RepL.one hd⟩
  | (n, v) :: ws, _, [], rfl, h => by have := h.length; simp at this
  | (n, v) :: ws, _, e :: ds, rfl, h => by
    obtain ⟨x, r, ex, h1, h2⟩ := repL_cons.mp h
    simp only [List.map_cons, List.cons.injEq] at ex
    obtain ⟨rfl, rfl⟩ := ex
    obtain ⟨i1, i2⟩ := put_rep hd (ws := ws) rfl h2
    simp only [List.map_cons, putF, putN, putO]
    by_cases q : n = f
    · rw [if_pos q, if_pos q, if_pos q]
      exact ⟨rfl, repL_cons.mpr ⟨_, _, rfl, hd, h2⟩⟩
    · rw [if_neg q, if_neg q, if_neg q]
      exact ⟨by rw [List.map_cons, i1], repL_cons.mpr ⟨_, _, rfl, h1, i2⟩⟩
section
variable {X : Cx} {a o : Expr} {ta to : TE} {aa ao : AE} {pos : Pos} {K : PySem.W.Frag} {cn : Str} {F : List Str}
def aFld (cn f : Str) (r : Ret) (Γ : Sl) (M : Mem) (Q : Ret → Sl → Mem → Prop) : Prop := match r with
  | .dat (.ref a) => match M.lookup a with
    | some (.ins cn' ns ds) => cn' = cn ∧ match fldD f ns ds with
      | some d => Q (.dat d) Γ M
      | none => False
    | _ => False
  | _ => False
theorem q_fld {f : Str} (T : ClsP K cn F) (ha : QE X ρ a ta aa) (hf : f ∈ F := by decide) (hb : attributeBase a f X.env (eval a X.env) = eval a X.env := by rfl) (hK : X.K = K := by rfl) :
    QE X ρ (.Attribute a f pos) (tFld K ta f) (aUn (aFld cn f) aa) := by
  subst hK
  refine ⟨pe_fld ha.pe hb, fun B σ H G Γ M Q R' k h q => ha.rd B σ H G Γ M _ _ k h fun v H1 G1 Γ1 M1 r k1 e1 rr h1 => ?_⟩
  unfold aFld at h1
  split at h1
  · rename_i p
    split at h1
    · rename_i cn' ns ds hl
      obtain ⟨rfl, h1⟩ := h1
      split at h1
      · rename_i d hd
        have ev : v = .ref p := by have := (show Rep X.K G1 (.ref p) v from rr); rwa [Rep] at this
        subst ev
        obtain ⟨g0, u, hu, C, dx, ws, hn, rfl, hns, hr⟩ := k1.ms p _ (lookup_mem hl)
        obtain ⟨C', hn', cl, na⟩ := T.ex
        rw [hn] at hn'
        cases hn'
        obtain ⟨w, hw, rw'⟩ := lookup_rep hns hr hd
        exact ⟨p, C, dx, ws, w, rfl, hu, cl, na f hf, hw, q w H1 G1 Γ1 M1 (.dat d) k1 e1 rw' h1⟩
      · exact h1.elim
    · exact h1.elim
  · exact h1.elim
def aSetF (cn f : Str) (ae ao : AE) (A : AEnds) (Γ : Sl) (M : Mem) : Prop := ae Γ M fun r Γ0 M0 => frz r Γ0 fun d Γ1 => ao Γ1 M0 fun ro Γ2 M2 => match ro with
  | .dat (.ref a) => match M2.lookup a with
    | some (.ins cn' ns ds) => cn' = cn ∧ ns.length < 1000 ∧ A.nx Γ2 (mput M2 a (.ins cn' (putN f ns) (putO f d ns ds)))
    | _ => False
  | _ => False
theorem qs_fld {f : Str} {pos' : Pos} (T : ClsP K cn F) (h : QE X ρ a ta aa) (ho : QE X ρ o to ao) (hf : f ∈ F := by decide) (hs : swapsWith a (some (.Attribute o f pos')) pos.line X.env = pure false := by rfl) (hK : X.K = K := by rfl) :
    QS X ρ (.Assign [.Attribute o f pos'] a pos) (sFld K to ta f) (aSetF cn f aa ao) := by
  subst hK
  refine ⟨ps_fld ho.pe h.pe hs, fun B σ H G Γ M A E k hh s => h.rd B σ H G Γ M _ _ k hh fun v H1 G1 Γ1 M1 r k1 e1 rr h1 => ?_⟩
  obtain ⟨G2, Γ2, d, k2, e2, rp, h2⟩ := frz_ok (H0 := H) k1 e1 rr h1
  refine ho.rd B σ H1 G2 Γ2 M1 _ _ k2 h2 fun ov H3 G3 Γ3 M3 ro k3 e3 rro h3 => ?_
  split at h3
  · rename_i p
    split at h3
    · rename_i cn' ns ds hl
      obtain ⟨rfl, hz, h3⟩ := h3
      have ev : ov = .ref p := by have := (show Rep X.K G3 (.ref p) ov from rro); rwa [Rep] at this
      subst ev
      obtain ⟨g0, u, hu, C, dx, ws, hn, rfl, hns, hr⟩ := k3.ms p _ (lookup_mem hl)
      obtain ⟨C', hn', cl, na⟩ := T.ex
      have ec := hn'
      rw [hn] at ec
      cases ec
      have pr := put_rep (f := f) (rp.mono e3.g) hns hr
      have hg : cget (.dat (.ref p)) Γ3 M3 = some (.ins cn' ns ds) := hl
      obtain ⟨Γ5, M5, k5, e6, hq⟩ := cput_ok (c' := .ins cn' (putN f ns) (putO f d ns ds)) (o' := .ins C dx (putF f v ws)) (kk := A.nx) k3 rro hg ⟨C, dx, _, hn, rfl, pr.1, pr.2⟩ h3
      exact ⟨p, C, dx, ws, rfl, hu, cl, na f hf, by rw [← List.length_map (f := (·.1)), hns]; exact hz, s.nx σ _ G3 Γ5 M5 k5 hq⟩
    · exact h3.elim
  · exact h3.elim
section
variable {CX : CXT} {k : Nat} {C f : Addr} {fd : FuncData} {ps : List Str} {sp : Sp} {E : XK} {m : Str} {apos : Pos} {e : Expr} {es : List Expr} {t : TA}
theorem pe_methG {pl : Sem Bool} (he : PE X o ta) (c : Cls X.K C) (hm : Meth X.K C m f) (F : FnG X.prog X.w X.K X.mg X.base CX k f fd ps sp) (room : Room k X.A) (gd : X.A.guards = some []) (hb : Binds X.K fd ps []) (hx : Passes CX X E) (ha : PA X (e :: es) t)
    (hst : starEach (e :: es) X.env = (false, eval e X.env) :: starEach es X.env) (hpl : (backTo pos (starEach es X.env)).any (·.1) = false)
    (ht : eval (.Call (.Attribute o m apos) (e :: es) [] pos) X.env = (do
      let ov ← eval o X.env
      standAt apos.atName
      let (f, first) ← holding [ov] (getMethod ov m pl)
      callWith pos f first (backTo pos (starEach (e :: es) X.env)) (backToKw pos (keywordEach [] X.env)))) :
    PE X (.Call (.Attribute o m apos) (e :: es) [] pos) (tMeth C m sp [] E ta t) := by
  refine ⟨fun pins s σ H Q I h => ?_⟩
  refine PySem.W.methodCall_KW (pl := pl) (thn (he.run pins s σ H _ I h) fun u s1 ⟨x, H1, I1, rx, a, dx, fs, ex, ea, l, q⟩ => ?_) ht
  subst ex
  obtain rfl : u = Value.ref a := rx
  refine getmeth_ok I1 ea c hm l ?_
  refine PySem.W.callWith_K (first := [.ref a]) (h₀ := X.base) I.ok.mod.kin hm.kp (thn (ha.run pos pins s1 σ H1 _ I1 q) fun us s2 ⟨vs, H2, I2, r, q2⟩ => ⟨I2.kIn, ?_⟩) hst hpl
  have q2 : sp (.ref a :: (vs ++ [])) H2 Q E := q2
  rw [List.append_nil] at q2
  have r2 : Vals (.ref a :: vs) (.ref a :: us) := .cons rfl r
  have hl : (Value.ref a :: us).length = ps.length := by rw [← r2.length]; exact F.arity _ _ _ _ q2
  have b := hb s2 (.ref a :: us) I2.kIn (by rw [List.append_nil]; exact hl)
  rw [List.append_nil] at b
  exact callG (us := .ref a :: us) (ks := []) (ws := []) F room gd hx I2 b r2 q2
theorem pe_methG0 {pl : Sem Bool} (he : PE X o ta) (c : Cls X.K C) (hm : Meth X.K C m f) (F : FnG X.prog X.w X.K X.mg X.base CX k f fd ps sp) (room : Room k X.A) (gd : X.A.guards = some []) (hb : Binds X.K fd ps []) (hx : Passes CX X E)
    (ht : eval (.Call (.Attribute o m apos) [] [] pos) X.env = (do
      let ov ← eval o X.env
      standAt apos.atName
      let (f, first) ← holding [ov] (getMethod ov m pl)
      callWith pos f first (backTo pos (starEach [] X.env)) (backToKw pos (keywordEach [] X.env)))) :
    PE X (.Call (.Attribute o m apos) [] [] pos) (tMeth C m sp [] E ta tNil) := by
  refine ⟨fun pins s σ H Q I h => ?_⟩
  refine PySem.W.methodCall_KW (pl := pl) (thn (he.run pins s σ H _ I h) fun u s1 ⟨x, H1, I1, rx, a, dx, fs, ex, ea, l, q⟩ => ?_) ht
  subst ex
  obtain rfl : u = Value.ref a := rx
  refine getmeth_ok I1 ea c hm l ?_
  have q2 : sp [.ref a] H1 Q E := q
  have r2 : Vals [.ref a] [.ref a] := .cons rfl .nil
  have hl : [Value.ref a].length = ps.length := by rw [← r2.length]; exact F.arity _ _ _ _ q2
  have b := hb s1 [.ref a] I1.kIn (by rw [List.append_nil]; exact hl)
  rw [List.append_nil] at b
  exact PySem.W.callWith_K0 (first := [.ref a]) I1.kIn hm.kp (callG (us := [.ref a]) (ks := []) (ws := []) F room gd hx I1 b r2 q2)
end
structure CalM (P : Program) (w : World) (K : PySem.W.Frag) (mg : Str → Option Value) (base : Heap) (cn m : Str) (ps : List Str) (k : Nat) (S : ASp) : Prop where
  cl : PySem.W.nsIn K mainGlobals cn = some (some (.ref (clsAd K cn)))
  ok : Cls K (clsAd K cn)
  ex : ∃ f fd, Meth K (clsAd K cn) m f ∧ FnG P w K mg base CX0 k f fd ps (spA K ps.length S) ∧ Binds K fd ps [] ∧ Ar ps.length S
def aMethO (cn m : Str) (S : ASp) (ao : AE) (aa : AA) (Γ : Sl) (M : Mem) (Q : Ret → Sl → Mem → Prop) : Prop := ao Γ M fun r Γ1 M1 => match r with
  | .dat (.ref a) => match M1.lookup a with
    | some (.ins cn' ns _) => cn' = cn ∧ m ∉ ns ∧ aa Γ1 M1 fun es Γ2 M2 => ap S (.ref a :: es) M2 (fun r M3 => Q r Γ2 M3) ⟨⟩
    | _ => False
  | _ => False
theorem no_fld {m : Str} : ∀ {ws : List (Str × V)}, m ∉ ws.map (·.1) → ws.lookup m = none
  | [], _ => rfl
  | (n, v) :: ws, h => by
    rw [List.map_cons, List.mem_cons, not_or] at h
    rw [List.lookup_cons, show (m == n) = false from by simpa using h.1]
    exact no_fld h.2
theorem rd_methO {n : Nat} {m : Str} {S : ASp} {E : XK} {C : Addr} {tr : TA} {ar : AA} (hC : PySem.W.nsIn K mainGlobals cn = some (some (.ref C))) (hn : Ar n S) (ho : RdE K ρ to ao) (ha : RdA K ρ tr ar) : RdE K ρ (tMeth C m (spA K n S) [] E to tr) (aMethO cn m S ao ar) := by
  intro B σ H G Γ M Q R k h q
  refine ho B σ H G Γ M _ _ k h fun v H0 G0 Γ0 M0 r k0 e0 rr h0 => ?_
  split at h0
  · rename_i p
    split at h0
    · rename_i cn' ns ds hl
      obtain ⟨rfl, hm, h0⟩ := h0
      have ev : v = .ref p := by have := (show Rep K G0 (.ref p) v from rr); rwa [Rep] at this
      subst ev
      obtain ⟨g0, u, hu, C', dx, ws, hn', rfl, hns, hr⟩ := k0.ms p _ (lookup_mem hl)
      rw [hC] at hn'
      cases hn'
      refine ⟨p, dx, ws, rfl, hu, no_fld (by rw [hns]; exact hm), ha B σ H0 G0 Γ0 M0 _ _ k0 h0 fun vs H1 G1 Γ1 M1 es k1 e1 rl h1 => ?_⟩
      have rl2 : RepL K G1 (.ref p :: es) (.ref p :: vs) := repL_cons.mpr ⟨_, _, rfl, by rw [Rep], rl⟩
      refine ⟨G1, M1, .ref p :: es, by rw [List.append_nil, rl2.length]; exact hn _ _ _ h1, k1.ex, k1.nd, k1.ms, by rw [List.append_nil]; exact rl2, _, h1, fun r M' v H' G' hq pp rr => ?_⟩
      obtain ⟨k2, e2, r2⟩ := k1.call pp rr
      exact q _ H' G' Γ1 M' r k2 ((e0.trans e1).trans e2) (r2.old fun a z => e0.nn a (e1.nn a z)) hq
    · exact h0.elim
  · exact h0.elim
section
variable {P : Program} {w : World} {mg : Str → Option Value} {base : Heap} {k : Nat} {ps : List Str} {S : ASp} {m : Str} {apos : Pos} {e : Expr} {es : List Expr} {tr : TA} {ar : AA}
theorem q_methC {pl : Sem Bool} (T : CalM P w K mg base cn m ps k S) (room : Room k X.A) (gd : X.A.guards = some []) (ho : QE X ρ o to ao) (ha : QA X ρ (e :: es) tr ar) (hX : At X P w K mg base := by exact ⟨rfl, rfl, rfl, rfl, rfl⟩)
    (hst : starEach (e :: es) X.env = (false, eval e X.env) :: starEach es X.env := by rfl) (hpl : (backTo pos (starEach es X.env)).any (·.1) = false := by rfl)
    (ht : eval (.Call (.Attribute o m apos) (e :: es) [] pos) X.env = (do
      let ov ← eval o X.env
      standAt apos.atName
      let (f, first) ← holding [ov] (getMethod ov m pl)
      callWith pos f first (backTo pos (starEach (e :: es) X.env)) (backToKw pos (keywordEach [] X.env))) := by rfl) :
    QE X ρ (.Call (.Attribute o m apos) (e :: es) [] pos) (tMeth (clsAd K cn) m (spA K ps.length S) [] E0 to tr) (aMethO cn m S ao ar) := by
  obtain ⟨f, fd, hm, F, hb, hn⟩ := T.ex
  have hC := T.cl
  have cl := T.ok
  obtain ⟨h1, h2, h3, h4, h5⟩ := hX
  subst h1 h2 h3 h4 h5
  exact ⟨pe_methG ho.pe cl hm F room gd hb pass0 ha.pe hst hpl ht, rd_methO hC hn ho.rd ha.rd⟩
theorem q_methC0 {pl : Sem Bool} (T : CalM P w K mg base cn m ps k S) (room : Room k X.A) (gd : X.A.guards = some []) (ho : QE X ρ o to ao) (hX : At X P w K mg base := by exact ⟨rfl, rfl, rfl, rfl, rfl⟩)
    (ht : eval (.Call (.Attribute o m apos) [] [] pos) X.env = (do
      let ov ← eval o X.env
      standAt apos.atName
      let (f, first) ← holding [ov] (getMethod ov m pl)
      callWith pos f first (backTo pos (starEach [] X.env)) (backToKw pos (keywordEach [] X.env))) := by rfl) :
    QE X ρ (.Call (.Attribute o m apos) [] [] pos) (tMeth (clsAd K cn) m (spA K ps.length S) [] E0 to tNil) (aMethO cn m S ao aNil) := by
  obtain ⟨f, fd, hm, F, hb, hn⟩ := T.ex
  have hC := T.cl
  have cl := T.ok
  obtain ⟨h1, h2, h3, h4, h5⟩ := hX
  subst h1 h2 h3 h4 h5
  exact ⟨pe_methG0 ho.pe cl hm F room gd hb pass0 ht, rd_methO hC hn ho.rd rd_nil⟩
end
structure CalI (P : Program) (w : World) (K : PySem.W.Frag) (mg : Str → Option Value) (base : Heap) (cn : Str) (ps : List Str) (k : Nat) (S : ASp) : Prop where
  cl : PySem.W.nsIn K mainGlobals cn = some (some (.ref (clsAd K cn)))
  gm : mg cn = some (.ref (clsAd K cn))
  ex : ∃ f fd, Mk K (clsAd K cn) f ∧ FnG P w K mg base CX0 k f fd ps (spA K ps.length S) ∧ Binds K fd ps [] ∧ Ar ps.length S
def aMake (cn : Str) (S : ASp) (aa : AA) (Γ : Sl) (M : Mem) (Q : Ret → Sl → Mem → Prop) : Prop := aa Γ M fun es Γ1 M1 => ∀ p, p ∉ dom M1 → ap S (.ref p :: es) ((p, .ins cn [] []) :: M1) (fun r M2 => match r with
  | .dat .non => Q (.dat (.ref p)) Γ1 M2
  | _ => False) ⟨⟩
theorem rd_make {n : Nat} {S : ASp} {E : XK} {tr : TA} {ar : AA} (hC : PySem.W.nsIn K mainGlobals cn = some (some (.ref (clsAd K cn)))) (hn : Ar n S) (ha : RdA K ρ tr ar) : RdE K ρ (tMake (clsAd K cn) (spA K n S) [] E tr) (aMake cn S ar) := by
  intro B σ H G Γ M Q R k h q
  refine ha B σ H G Γ M _ _ k h fun vs H1 G1 Γ1 M1 es k1 e1 rl h1 => fun x dx nx ndx ne => ?_
  obtain ⟨k2, e2, m2, n2, b2, g2⟩ := k1.tmp (o := .own x) ndx
  have nx2 : upd H1 dx (.own x) x = none := by rw [upd_ne ne.symm]; exact nx
  obtain ⟨k3, e3, m3, n3, b3, g3⟩ := k2.tmp (o := .ins (clsAd K cn) dx []) nx2
  have cl : Cel K (upd (upd H1 dx (.own x)) x (.ins (clsAd K cn) dx [])) G1 x (.ins cn [] []) := ⟨g3, _, upd_same, _, dx, [], hC, rfl, rfl, repL_nil.mpr rfl⟩
  have k4 := k3.share b3 cl m3 n3
  have e := (e1.trans e2).trans e3
  have e4 : Es σ H G Γ M (upd (upd H1 dx (.own x)) x (.ins (clsAd K cn) dx [])) G1 Γ1 ((x, .ins cn [] []) :: M1) := ⟨e.g, fun y o hy g m n => by
    obtain ⟨c1, c2, c3, c4⟩ := e.tmp y o hy g m n
    refine ⟨c1, c2, fun z => ?_, c4⟩
    rcases List.mem_cons.mp z with z | z
    · have : H x = none := e1.nn x nx
      rw [show y = x from z, this] at hy
      cases hy
    · exact c3 z, e.nn⟩
  have rl2 : RepL K G1 (.ref x :: es) (.ref x :: vs) := repL_cons.mpr ⟨_, _, rfl, by rw [Rep], rl⟩
  have hs := h1 x m3
  refine ⟨G1, (x, .ins cn [] []) :: M1, .ref x :: es, by rw [List.append_nil, rl2.length]; exact hn _ _ _ hs, k4.ex, k4.nd, k4.ms, by rw [List.append_nil]; exact rl2, _, hs, fun r M' v H' G' hq pp rr => ?_⟩
  obtain ⟨k5, e5, r5⟩ := k4.call pp rr
  split at hq
  · have ev : v = .non := by have := (show Rep K G' .non v from rr); rwa [Rep] at this
    exact ⟨ev, q _ H' G' Γ1 M' (.dat (.ref x)) k5 (e4.trans e5) (by simp only [RepR, Rep]) hq⟩
  · exact hq.elim
section
variable {CX : CXT} {k : Nat} {C f : Addr} {fd : FuncData} {ps : List Str} {sp : Sp} {E : XK} {x : Str} {p : Pos} {e : Expr} {es : List Expr} {t : TA}
theorem make_guards {A : Around} {C : Addr} {us : List Value} (gd : A.guards = some []) : (A.under (.builtin "type.__call__" ⟨.ref C :: us, []⟩)).guards = some [] := by
  have ng : (Code.builtin "type.__call__" ⟨.ref C :: us, []⟩).isGuard = false := by show guardIds.contains "type.__call__" = false; decide
  simp only [Around.under, Code.guards, ng, gd, Bool.false_eq_true, if_false, pushGuards]
theorem run_makeG {pins : List (Addr × Obj)} {σ : L2.St} {H : Hp} {s : Shared} {Q : VK} {us : List Value} {vs : List V} (M : Mk X.K C f) (F : FnG X.prog X.w X.K X.mg X.base CX k f fd ps sp) (hr : Room (k + 1) X.A) (gd : X.A.guards = some []) (hb : Binds X.K fd ps [])
    (hx : Passes CX X E) (I : Inv X pins σ H s) (r : Vals vs us)
    (h : ∀ x dx, H x = none → H dx = none → dx ≠ x → sp (.ref x :: (vs ++ [])) (upd (upd H dx (.own x)) x (.ins C dx [])) (fun v H2 => v = .non ∧ Q (.ref x) H2) E) :
    wpAny (model X.prog X.w) X.A (call (.ref C) us) (EP X pins σ Q) X.xe s := by
  have hq := h (s.heap.objs.size + 1) s.heap.objs.size (I.hok.fresh (Nat.le_succ _)) (I.hok.fresh (Nat.le_refl _)) (Nat.ne_of_lt (Nat.lt_succ_self _))
  rw [List.append_nil] at hq
  have I2 := Inv.made (C := C) I
  have r2 : Vals (V.ref (s.heap.objs.size + 1) :: vs) (Value.ref (s.heap.objs.size + 1) :: us) := .cons rfl r
  have hl : (Value.ref (s.heap.objs.size + 1) :: us).length = ps.length := by rw [← r2.length]; exact F.arity _ _ _ _ hq
  have b := hb _ (Value.ref (s.heap.objs.size + 1) :: us) I2.kIn (by rw [List.append_nil]; exact hl)
  rw [List.append_nil] at b
  refine wpAny_call (make_map (f := f) I.kIn M.makes M.init (beq_iff_eq.mp M.fn) (codeAny_mono (F.go _ X.stack _ _ ⟨Value.ref (s.heap.objs.size + 1) :: us, []⟩ (Value.ref (s.heap.objs.size + 1) :: us) _ _ E (hr.make C us []) (make_guards gd)
    (I2.env0.make C us []) b r2 hq) fun r s' hq' => ?_))
  cases r with
  | error e => exact hx pins σ _ _ e s' I2 hq'
  | ok fl =>
    cases fl with
    | ret u =>
      obtain ⟨v, H', I3, rv, ev, q3⟩ := I2.after hq'
      subst ev
      exact ⟨rv, ⟨V.ref (s.heap.objs.size + 1), H', I3, rfl, q3⟩⟩
    | next => exact False.elim hq'
    | brk => exact False.elim hq'
    | cont => exact False.elim hq'
end
section
variable {P : Program} {w : World} {mg : Str → Option Value} {base : Heap} {k : Nat} {ps : List Str} {S : ASp} {x : Str} {p : Pos} {e : Expr} {es : List Expr} {tr : TA} {ar : AA}
theorem q_makeC (T : CalI P w K mg base cn ps k S) (hr : Room (k + 1) X.A) (gd : X.A.guards = some []) (ha : QA X ρ (e :: es) tr ar) (hX : At X P w K mg base := by exact ⟨rfl, rfl, rfl, rfl, rfl⟩) (hg : Gl X cn := by rfl) (hdb : (cn == ("__debug__" : Str)) = false := by decide)
    (he : starEach (e :: es) X.env = (false, eval e X.env) :: starEach es X.env := by rfl) (hpl : (backTo pos (starEach es X.env)).any (·.1) = false := by rfl) :
    QE X ρ (.Call (.Name cn p) (e :: es) [] pos) (tMake (clsAd K cn) (spA K ps.length S) [] E0 tr) (aMake cn S ar) := by
  obtain ⟨f, fd, M, F, hb, hn⟩ := T.ex
  have hC := T.cl
  have hm := T.gm
  obtain ⟨h1, h2, h3, h4, h5⟩ := hX
  subst h1 h2 h3 h4 h5
  refine ⟨⟨fun pins s σ H Q I h => ?_⟩, rd_make hC hn ha.rd⟩
  refine wpAny_Call_Name_kw (ld_glob I hg hm ?_ hdb)
  refine PySem.W.callWith_K (h₀ := X.base) I.ok.mod.kin M.kp (thn (ha.pe.run pos pins s σ H _ I h) fun us s1 ⟨vs, H1, I1, r, q⟩ => ⟨I1.kIn, ?_⟩) he hpl
  exact run_makeG M F hr gd hb pass0 I1 r q
theorem q_makeC0 (T : CalI P w K mg base cn ps k S) (hr : Room (k + 1) X.A) (gd : X.A.guards = some []) (hX : At X P w K mg base := by exact ⟨rfl, rfl, rfl, rfl, rfl⟩) (hg : Gl X cn := by rfl) (hdb : (cn == ("__debug__" : Str)) = false := by decide) :
    QE X ρ (.Call (.Name cn p) [] [] pos) (tMake (clsAd K cn) (spA K ps.length S) [] E0 tNil) (aMake cn S aNil) := by
  obtain ⟨f, fd, M, F, hb, hn⟩ := T.ex
  have hC := T.cl
  have hm := T.gm
  obtain ⟨h1, h2, h3, h4, h5⟩ := hX
  subst h1 h2 h3 h4 h5
  refine ⟨⟨fun pins s σ H Q I h => ?_⟩, rd_make hC hn rd_nil⟩
  refine wpAny_Call_Name_kw (ld_glob I hg hm ?_ hdb)
  exact PySem.W.callWith_K0 I.kIn M.kp (run_makeG (us := []) M F hr gd hb pass0 I .nil h)
end
end
def e_aFld := @aFld.eq_def
def e_aSetF := @aSetF.eq_def
def e_aMethO := @aMethO.eq_def
def e_aMake := @aMake.eq_def
end Gw

namespace Gw
open PySem L2 PyProof.Rows
variable {ρ : Ent}
section
variable {X : Cx} {tg a b c : Expr} {ta tb tc : TE} {aa ab ac : AE} {pos : Pos} {K : PySem.W.Frag} {B : Ent} {σ : L2.St} {H G H1 G1 H2 G2 : Hp} {Γ Γ1 Γ2 : Sl} {M M1 M2 : Mem}
def aFz (aa : AE) (Γ : Sl) (M : Mem) (Q : Ret → Sl → Mem → Prop) : Prop := aa Γ M fun r Γ1 M1 => frz r Γ1 fun d Γ2 => Q (.dat d) Γ2 M1
def aIKeys (aa : AE) (Γ : Sl) (M : Mem) (Q : List D → Sl → Mem → Prop) : Prop := aa Γ M fun r Γ1 M1 => match r with
  | .dat (.dct ks ds) => Q (ks.map kD) Γ1 M1
  | _ => False
def aSDef (ad ay ax : AE) (Γ : Sl) (M : Mem) (Q : Ret → Sl → Mem → Prop) : Prop := ad Γ M fun r Γ1 M1 => (dctOf r Γ1 M1).isSome = true ∧ ay Γ1 M1 fun ry Γ2 M2 => ax Γ2 M2 fun rz Γ3 M3 => match ry with
  | .dat y => match rz with
    | .tmp c => match r with
      | .dat (.ref a) => match keyD y with
        | some k => match M3.lookup a with
          | some (.dct ks ds) => ks.length < sizeLine ∧ match getA ks ds k with
            | some d => Q (.dat d) Γ3 M3
            | none => ∀ p, p ∉ dom M3 → Q (.dat (.ref p)) Γ3 ((p, c) :: mput M3 a (.dct (putA (ks, ds) k (.ref p)).1 (putA (ks, ds) k (.ref p)).2))
          | _ => False
        | none => False
      | _ => False
    | _ => False
  | _ => False
end
section
variable {X : Cx} {kx vx tg iter : Expr} {ifs : List Expr} {pos : Pos} {tk tv : TE} {ak av : AE} {K : PySem.W.Frag} {vs : List Nat}
def aKcL (g : AG) (tt : AT) (ak av : AE) (vs : List Nat) (k : List L2.Key × List D → Sl → Mem → Prop) : List D → List L2.Key × List D → Sl → Mem → Prop
  | [], t, Γ, M => k t Γ M
  | d :: ds, t, Γ, M => g d Γ fun Γ1 => tt Γ1 M fun b Γ2 M2 => if b = true then ak Γ2 M2 fun rk Γ3 M3 => match rk with
      | .dat y => match keyD y with
        | some key => av Γ3 M3 fun rv Γ4 M4 => frz rv Γ4 fun e Γ5 => t.1.length < sizeLine ∧ aKcL g tt ak av vs k ds (putA t key e) (wipeS Γ5 vs) M4
        | none => False
      | _ => False
    else aKcL g tt ak av vs k ds t (wipeS Γ2 vs) M2
structure WitK (k : List L2.Key × List D → Sl → Mem → Prop) : Type where
def kcW (g : AG) (tt : AT) (ak av : AE) (vs : List Nat) (k : List L2.Key × List D → Sl → Mem → Prop) (_ : WitK k) (ds : List D) (t : List L2.Key × List D) (Γ : Sl) (M : Mem) : Prop := aKcL g tt ak av vs k ds t Γ M
def aDcK (ai : AI) (g : AG) (tt : AT) (ak av : AE) (vs : List Nat) (Γ : Sl) (M : Mem) (Q : Ret → Sl → Mem → Prop) : Prop := ai Γ M fun ds Γ1 M1 => kcW g tt ak av vs (fun t Γ2 M2 => Q (.tmp (.dct t.1 t.2)) Γ2 M2) ⟨⟩ ds ([], []) (wipeS Γ1 vs) M1
end
def e_aFz := @aFz.eq_def
def e_aIKeys := @aIKeys.eq_def
def e_aSDef := @aSDef.eq_def
def e_aDcK := @aDcK.eq_def
end Gw

namespace Gw
open PySem L2 PyProof.Rows
variable {ρ : Ent}
def wkX (Z : Xc → Mem → Prop) (x : Xc) (M : Mem) : Prop := ∃ M', List.Sublist M' M ∧ Z x M'
theorem wk_of {Q : Ret → Mem → Prop} {r : Ret} {M : Mem} (N : Mem) (h : Q r M) : wk Q r (N ++ M) := ⟨M, List.sublist_append_right _ _, h⟩
section
variable {P : Program} {w : World} {K : PySem.W.Frag} {mg : Str → Option Value} {base : Heap}
theorem fn_okXW {k : Nat} {x qual : Str} {st : Stmt} {f : Addr} {fd : FuncData} {N ps : List Str} {S : ASx} (F : Fun K x qual st f fd) (sc : FnScope N ps (defScope st)) (hn : ArX ps.length S) {as : XW → AS}
    (hb : ∀ (ρ : Ent) (cd : Value) (A : Around) (outer : List Env) (s : Shared) (H : Hp) (E : XK) (xw : XW), Room k (A.deeper (envOfC qual (defScope st) s.heap.objs.size f cd)) → A.guards = some [] → Conn K ρ (fun cls d _ H => E cls d H) xw →
      ∃ ts, QSs (cxOf (L2.CX P w) P w K mg base N qual (defScope st) f cd A outer s H E) ρ (defBody st) ts (as xw))
    (hr : ∀ ds M Q Z, S ds M Q Z → as (fun x _ M => wkX Z x M) (endsOf (wk Q)) (slots N.length ds) M) : FnG P w K mg base (L2.CX P w) (k + 1) f fd ps (spX K ps.length S) := by
  have F0 := fn_okX (S := fun ds M Q' Z' => ∃ Q Z, S ds M Q Z ∧ Q' = wk Q ∧ Z' = wkX Z) F sc (fun ds M Q' Z' ⟨Q, Z, h, _⟩ => hn ds M Q Z h) hb (fun ds M Q' Z' ⟨Q, Z, h, e1, e2⟩ => by rw [e1, e2]; exact hr ds M Q Z h)
  refine F0.weaken ?_
  rintro vs H Q E ⟨G, M, ds, hl, ex, nd, ms, rl, Qa, Xa, hS, fin, finX⟩
  refine ⟨G, M, ds, hl, ex, nd, ms, rl, wk Qa, wkX Xa, ⟨Qa, Xa, hS, rfl, rfl⟩, ?_, ?_⟩
  · rintro r M' v H' G' ⟨M2, hs, hq⟩ po ro
    exact fin r M2 v H' G' hq (po.sub hs) (ro.sub hs)
  · rintro x M' cls d H' G' ⟨M2, hs, hq⟩ po rx
    exact finX x M2 cls d H' G' hq (po.sub hs) rx
end
def aPar3O (aa ab ac : AE) (i j l : Nat) (A : AEnds) (Γ : Sl) (M : Mem) : Prop := aa Γ M fun r Γ1 M1 => frz r Γ1 fun d Γ2 => ab Γ2 M1 fun r2 Γ3 M3 => match r2 with
  | .tmp c => ac Γ3 M3 fun r3 Γ4 M4 => frz r3 Γ4 fun e Γ5 => A.nx (((Γ5.set i (.dat d)).set j (.own c)).set l (.dat e)) M4
  | _ => False
def e_aPar3O := @aPar3O.eq_def
end Gw

namespace Gw
open PySem PySem.Spec PyProof.Rows L2
section
variable {X : Cx}
end
section
variable {X : Cx} {ρ : Ent} {a b : Expr} {ta tb : TE} {aa ab : AE} {ta' tb' : TA} {aa' ab' : AA} {pos kpos : Pos} {K : PySem.W.Frag}
def aMaxDf (x : AE) (y : AE) (Γ : Sl) (M : Mem) (Q : Ret → Sl → Mem → Prop) : Prop := aCons x aNil Γ M fun xs Γ1 M1 => aCons y aNil Γ1 M1 fun zs Γ2 M2 => match xs, zs with
  | [.lst ds], [.int d] => match intsOf ds with
    | some ns => (ns = [] → Q (.dat (.int d)) Γ2 M2) ∧ ∀ m, m ∈ ns → (∀ y, y ∈ ns → y ≤ m) → Q (.dat (.int m)) Γ2 M2
    | none => False
  | _, _ => False
def e_aMaxDf := @aMaxDf.eq_def
end
end Gw

namespace Gw
open PySem PySem.Spec PyProof.Rows L2
open PySem.W (EachIs AllAlike Sortable dataLe)
variable {ρ : Ent}
section
variable {X : Cx} {L : List RE}
end
section
variable {X : Cx} {a : Expr} {ta : TE} {aa : AE} {pos : Pos} {K : PySem.W.Frag}
def aSortTB (r : Ret) (Γ : Sl) (M : Mem) (Q : Ret → Sl → Mem → Prop) : Prop := match dcTOf r Γ M with
  | some t => (∀ r ∈ t.1, r ≠ []) ∧ ∀ os : List (List Int), os.Pairwise (fun r q => HT.lexLt r q = true) → os.Perm t.1 → Q (.tmp (.lst (os.map rowD))) Γ M
  | none => False
def e_aSortTB := @aSortTB.eq_def
end
end Gw

namespace Gw
open PySem PySem.Spec L2 PyProof.Rows
variable {ρ : Ent}
def idxD (ds : List D) (e : D) : Option Nat := ds.findIdx? fun z => eqD z e
def aIdx (tup : Bool) (aa ab : AE) (Γ : Sl) (M : Mem) (Q : Ret → Sl → Mem → Prop) : Prop := aa Γ M fun r Γ1 M1 => frz r Γ1 fun d Γ2 => (match d, tup with
  | .tup _, true => True
  | .lst _, false => True
  | _, _ => False) ∧ ab Γ2 M1 fun r2 Γ3 M3 => frz r2 Γ3 fun e Γ4 => match d with
    | .tup ds => cmpOk (.lst ds) = true ∧ cmpOk e = true ∧ ∃ j, idxD ds e = some j ∧ Q (.dat (.int (j : Nat))) Γ4 M3
    | .lst ds => cmpOk (.lst ds) = true ∧ cmpOk e = true ∧ ∃ j, idxD ds e = some j ∧ Q (.dat (.int (j : Nat))) Γ4 M3
    | _ => False
end Gw
namespace Gw
open PySem PySem.Spec L2 PyProof.Rows
variable {ρ : Ent}
section
variable {X : Cx} {o e : Expr} {to te : TE} {ao ae : AE} {apos cpos : Pos} {K : PySem.W.Frag}
end
end Gw
namespace Gw
def e_aIdx := @aIdx.eq_def
end Gw

namespace Gw
open PySem PySem.Spec L2 PyProof.Rows
variable {ρ : Ent}
def cntD (ds : List D) (e : D) : Nat := ds.countP fun z => eqD z e
def aCount (aa ab : AE) (Γ : Sl) (M : Mem) (Q : Ret → Sl → Mem → Prop) : Prop := aa Γ M fun r Γ1 M1 => frz r Γ1 fun d Γ2 => (match d with
  | .lst _ => True
  | _ => False) ∧ ab Γ2 M1 fun r2 Γ3 M3 => frz r2 Γ3 fun e Γ4 => match d with
    | .lst ds => cmpOk (.lst ds) = true ∧ cmpOk e = true ∧ Q (.dat (.int (cntD ds e : Nat))) Γ4 M3
    | _ => False
section
variable {X : Cx} {o e : Expr} {to te : TE} {ao ae : AE} {apos cpos : Pos} {K : PySem.W.Frag}
end
def e_aCount := @aCount.eq_def
end Gw

namespace Gw
open PySem PySem.Spec L2 PyProof.Rows
variable {ρ : Ent}
def aIntS (r : Ret) (Γ : Sl) (M : Mem) (Q : Ret → Sl → Mem → Prop) : Prop := match r with
  | .dat (.str x) => ∃ n, PySem.intText? x = some n ∧ x.length ≤ 640 ∧ Q (.dat (.int n)) Γ M
  | _ => False
section
variable {X : Cx} {K : PySem.W.Frag} {a : Expr} {ta : TE} {aa : AE} {pos : Pos}
theorem q_intS {p : Pos} (hm : X.mg "int" = none) (ha : QE X ρ a ta aa) (hg : Gl X "int" := by rfl) (na : starEach [a] X.env = (false, eval a X.env) :: starEach [] X.env := by rfl) :
    QE X ρ (.Call (.Name "int" p) [a] [] pos) (tCB (fun xs H Q => ∃ a n, xs = [.str a] ∧ PySem.intText? a = some n ∧ a.length ≤ 640 ∧ Q (.int n) H) (tCons ta tNil)) (aCall1 aIntS aa) := q_callT1 call_int_str (fun B σ H H1 G Γ M rx x Q R k r1 h q => by
  unfold aIntS at h
  split at h
  · rename_i z
    obtain ⟨n, e, l, h⟩ := h
    have ez : x = .str z := by have := r1; simp only [RepR, Rep] at this; exact this
    subst ez
    exact ⟨z, n, rfl, e, l, q _ H G Γ M (.dat (.int n)) k .refl (by simp only [RepR, Rep]) h⟩
  · exact h.elim) hm ha hg (na := na)
end
def e_aIntS := @aIntS.eq_def
end Gw

namespace Gw
open PySem L2 PyProof.Rows
variable {ρ : Ent}
def aPar5O (aa : AE) (ar : AA) (i j1 j2 j3 j4 : Nat) (A : AEnds) (Γ : Sl) (M : Mem) : Prop := aa Γ M fun r Γ1 M1 => match r with
  | .tmp c => ar Γ1 M1 fun ds Γ2 M2 => match ds with
    | [d1, d2, d3, d4] => A.nx (((((Γ2.set i (.own c)).set j1 (.dat d1)).set j2 (.dat d2)).set j3 (.dat d3)).set j4 (.dat d4)) M2
    | _ => False
  | _ => False
def e_aPar5O := @aPar5O.eq_def
end Gw

namespace Gw
open PySem PySem.Spec PyProof.Rows L2
variable {ρ : Ent}
def aMaxT (r : Ret) (Γ : Sl) (M : Mem) (Q : Ret → Sl → Mem → Prop) : Prop := match r with
  | .dat (.tup ds) => match intsOf ds with
    | some ns => 0 < ns.length ∧ ∀ m, m ∈ ns → (∀ y, y ∈ ns → y ≤ m) → Q (.dat (.int m)) Γ M
    | none => False
  | _ => False
section
variable {X : Cx} {K : PySem.W.Frag} {a : Expr} {ta : TE} {aa : AE} {pos : Pos}
end
def e_aMaxT := @aMaxT.eq_def
end Gw

namespace Gw
open PySem L2 PyProof.Rows
variable {ρ : Ent}
def aPar3OO (aa ab ac : AE) (i j l : Nat) (A : AEnds) (Γ : Sl) (M : Mem) : Prop := aa Γ M fun r Γ1 M1 => frz r Γ1 fun d Γ2 => ab Γ2 M1 fun r2 Γ3 M3 => match r2 with
  | .tmp c => ac Γ3 M3 fun r3 Γ4 M4 => match r3 with
    | .tmp c' => A.nx (((Γ4.set i (.dat d)).set j (.own c)).set l (.own c')) M4
    | _ => False
  | _ => False
theorem qs_par3OO {X : Cx} {a b c : Expr} {ta tb tc : TE} {aa ab ac : AE} {x y z : Str} {px py pz pt spos : Pos} {kt k2 pt2} (i j l : Nat) (hN : X.N.Nodup) (ha : QE X ρ a ta aa) (hb : QE X ρ b tb ab) (hd : QE X ρ c tc ac)
    (na : starEach [a, b, c] X.env = (false, eval a X.env) :: starEach [b, c] X.env := by rfl) (nb : starEach [b, c] X.env = (false, eval b X.env) :: starEach [c] X.env := by rfl) (nd : starEach [c] X.env = (false, eval c X.env) :: starEach [] X.env := by rfl)
    (hi : X.N[i]? = some x := by rfl) (hj : X.N[j]? = some y := by rfl) (hl : X.N[l]? = some z := by rfl) (hij : i ≠ j := by decide) (hil : i ≠ l := by decide) (hjl : j ≠ l := by decide)
    (hx : X.env.scope.names.lookup x = some .local := by rfl) (hy : X.env.scope.names.lookup y = some .local := by rfl) (hz : X.env.scope.names.lookup z = some .local := by rfl) (hw : swappedStores [.Tuple [.Name x px, .Name y py, .Name z pz] kt pt] (.Tuple [a, b, c] k2 pt2) X.env = pure (some [x, y, z]) := by rfl)
    (hs : swapsWithSole [.Tuple [.Name x px, .Name y py, .Name z pz] kt pt] (.Tuple [a, b, c] k2 pt2) spos.line X.env = pure false := by rfl) (hc : X.calm = true := by rfl) :
    QS X ρ (.Assign [.Tuple [.Name x px, .Name y py, .Name z pz] kt pt] (.Tuple [a, b, c] k2 pt2) spos) (tPar3 i j l (tCons ta (tCons tb (tCons tc tNil)))) (aPar3OO aa ab ac i j l) := by
  refine ⟨ps_par3 hc hN hi hj hl hij hil hjl hx hy hz (pa_cons ha.pe (pa_cons hb.pe (pa_cons hd.pe pa_nil nd) nb) na) hw hs, fun B σ H G Γ M A E k h s => ?_⟩
  refine ha.rd B σ H G Γ M _ _ k h fun v H1 G1 Γ1 M1 r k1 e1 rr h1 => ?_
  obtain ⟨G2, Γ2, d, k2, e2, rp, h2⟩ := frz_ok (H0 := H) k1 e1 rr h1
  refine hb.rd B σ H1 G2 Γ2 M1 _ _ k2 h2 fun u H3 G3 Γ3 M3 r3 k3 e3 rr3 h3 => ?_
  split at h3
  · rename_i cc
    refine hd.rd B σ H3 G3 Γ3 M3 _ _ k3 h3 fun t H4 G4 Γ4 M4 r4 k4 e4 rr4 h4 => ?_
    split at h4
    · rename_i cc'
      have had : ∃ p, u = .ref p ∧ ∃ o, H3 p = some o := by
        obtain ⟨p, ev, _, _, ⟨_, o, ho, _⟩, _⟩ := rr3
        exact ⟨p, ev, o, ho⟩
      obtain ⟨q, rfl, h0, b2, c2, m2, n2⟩ := rr3.es e4
      obtain ⟨q', rfl, h0', b3, c3, m3, n3⟩ := rr4
      have ne : q' ≠ q := fun e => by
        obtain ⟨p', e', o, ho⟩ := had
        cases e'
        subst e
        rw [ho] at h0'; cases h0'
      refine ⟨v, .ref q, .ref q', rfl, s.nx _ H4 G4 _ M4 (((k4.setD (i := i) (rp.mono (e3.trans e4).g)).setO (i := j) b2 c2 m2 fun z => n2 (owned_set (fun c e => by cases e) z)).setO (i := l) b3 c3 m3 fun z => (owned_setO z).elim ne fun z => n3 (owned_set (fun c e => by cases e) z)) h4⟩
    · exact h4.elim
  · exact h3.elim
def e_aPar3OO := @aPar3OO.eq_def
end Gw

namespace Gw
open PySem L2
variable {ρ : Ent}
def aOrD (aa ab : AE) (Γ : Sl) (M : Mem) (Q : Ret → Sl → Mem → Prop) : Prop := aa Γ M fun r Γ1 M1 => match r with
  | .dat .non => ab Γ1 M1 Q
  | r => match sqOf r Γ1 M1 with
    | some s => if s.ds.isEmpty = true then ab Γ1 M1 Q else Q r Γ1 M1
    | none => False
section
variable {X : Cx} {K : PySem.W.Frag} {ta tb : TE} {aa ab : AE}
end
def e_aOrD := @aOrD.eq_def
end Gw

namespace Gw
open PySem L2 PyProof.Rows
variable {ρ : Ent}
section
variable {X : Cx} {e : Expr} {rg : L2.St → Hp → (Int → Int → Hp → Prop) → Prop}
end
def aTupRg (aa : AE) (Γ : Sl) (M : Mem) (Q : Ret → Sl → Mem → Prop) : Prop := aa Γ M fun r Γ1 M1 => match r with
  | .dat (.int n) => (-(2 ^ 62) ≤ n ∧ n ≤ 16777216) ∧ Q (.dat (.tup (rngD 0 n.toNat))) Γ1 M1
  | _ => False
def e_aTupRg := @aTupRg.eq_def
end Gw

namespace Gw
open PySem L2 PyProof.Rows
variable {ρ : Ent}
def aPar4O (a1 a2 a3 al : AE) (i1 i2 i3 j : Nat) (A : AEnds) (Γ : Sl) (M : Mem) : Prop := a1 Γ M fun r Γ1 M1 => frz r Γ1 fun d1 Γ1 => a2 Γ1 M1 fun r Γ2 M2 => frz r Γ2 fun d2 Γ2 => a3 Γ2 M2 fun r Γ3 M3 => frz r Γ3 fun d3 Γ3 => al Γ3 M3 fun r Γ4 M4 => match r with
  | .tmp c => A.nx ((((Γ4.set i1 (.dat d1)).set i2 (.dat d2)).set i3 (.dat d3)).set j (.own c)) M4
  | _ => False
def e_aPar4O := @aPar4O.eq_def
end Gw

namespace Gw
open PySem L2 PyProof.Rows
variable {ρ : Ent}
section
variable {X : Cx} {a : Expr} {ta : TE} {aa : AE} {pos : Pos} {K : PySem.W.Frag}
def aLenSetIT (r : Ret) (Γ : Sl) (M : Mem) (Q : Ret → Sl → Mem → Prop) : Prop := match sqOf r Γ M with
  | some (.tup ds) => match intsD ds with
    | some ns => ns.length ≤ 60 ∧ ∀ os : List Int, os.Nodup → (∀ k, k ∈ os ↔ k ∈ ns) → Q (.dat (.int os.length)) Γ M
    | none => False
  | _ => False
end
def e_aLenSetIT := @aLenSetIT.eq_def
end Gw

namespace Gw
open PySem PySem.Spec PyProof.Rows L2
variable {ρ : Ent}
structure WalkM (K : PySem.W.Frag) (J : It) (p : Addr) (es ds : List D) : Prop where
  w : ∃ o : Nat → Nat, Walk J ds.length (fun H => ∃ xs, SqL K H p xs ∧ xs.length = es.length) (fun i H x H' => H' = H ∧ ∀ xs, SqL K H p xs → xs[o i]? = some x) ∧ ∀ i, i < ds.length → es[o i]? = ds[i]?
abbrev AJ := Sl → Mem → (Addr → List D → List D → Sl → Mem → Prop) → Prop
def RdJ (K : PySem.W.Frag) (ρ : Ent) (wi : TI) (ai : AJ) : Prop := ∀ B σ H G Γ M (Q : Addr → List D → List D → Sl → Mem → Prop) (R : It → Hp → Prop), Ok K ρ B σ H G Γ M → ai Γ M Q →
  (∀ J H' G' Γ' M' p es ds, Ok K ρ B σ H' G' Γ' M' → Es σ H G Γ M H' G' Γ' M' → WalkM K J p es ds → M'.lookup p = some (.lst es) → Q p es ds Γ' M' → R J H') → wi σ H R
structure QJ (X : Cx) (ρ : Ent) (tg iter : Expr) (wi : TI) (ai : AJ) : Prop where
  pe : PI X tg iter wi
  rd : RdJ X.K ρ wi ai
def aJSeq (aa : AE) (Γ : Sl) (M : Mem) (Q : Addr → List D → List D → Sl → Mem → Prop) : Prop := aa Γ M fun r Γ1 M1 => match r with
  | .dat (.ref p) => match M1.lookup p with
    | some (.lst es) => Q p es es Γ1 M1
    | _ => False
  | _ => False
def aJRev (aa : AE) (Γ : Sl) (M : Mem) (Q : Addr → List D → List D → Sl → Mem → Prop) : Prop := aa Γ M fun r Γ1 M1 => match r with
  | .dat (.ref p) => match M1.lookup p with
    | some (.lst es) => Q p es es.reverse Γ1 M1
    | _ => False
  | _ => False
section
variable {X : Cx} {tg a b c : Expr} {ta tb tc te : TE} {aa ab ac ae : AE} {pos : Pos} {K : PySem.W.Frag} {B : Ent} {σ : L2.St} {H G H' H1 G1 H2 G2 : Hp} {Γ Γ1 Γ2 : Sl} {M M1 M2 : Mem}
theorem walkM_seq {p : Addr} {es : List D} : WalkM K (Itl K p) p es es := by
  refine ⟨id, ⟨fun i H hi q => ?_, fun H q => ?_, fun i H x H' hi q y => ⟨y.1, y.2⟩⟩, fun i _ => rfl⟩
  · obtain ⟨xs, h, hl⟩ := q
    exact ⟨xs, xs[i]'(by omega), h, by simp [show i < xs.length by omega]⟩
  · obtain ⟨xs, h, hl⟩ := q
    exact ⟨xs, h, by omega⟩
theorem cell_lst {p : Addr} {es : List D} (k : Ok K ρ B σ H G Γ M) (h : M.lookup p = some (.lst es)) : ∃ xs, SqL K H p xs ∧ RepL K G es xs := by
  obtain ⟨_, o, ho, vs, rfl, hr⟩ := k.ms p _ (lookup_mem h)
  exact ⟨vs, SqL.of ho, hr⟩
theorem qj_seq (h : QE X ρ a ta aa) (hK : X.K = K := by rfl) : QJ X ρ tg a (iList K ta) (aJSeq aa) := by subst hK; exact ⟨pi_list h.pe, fun B σ H G Γ M Q R k hh q => h.rd B σ H G Γ M _ _ k hh fun v H1 G1 Γ1 M1 r k1 e1 rr h1 => by
  split at h1
  · rename_i p
    split at h1
    · rename_i es hl
      have ev : v = .ref p := by have := (show Rep X.K G1 (.ref p) v from rr); rwa [Rep] at this
      obtain ⟨xs, hx, _⟩ := cell_lst k1 hl
      exact ⟨p, ev, ⟨xs, hx⟩, q _ H1 G1 Γ1 M1 p es es k1 e1 walkM_seq hl h1⟩
    · exact h1.elim
  · exact h1.elim⟩
def aForML (p : Addr) (es : List D) (g : AG) (body : AS) : List D → AS
  | [] => fun A Γ M => M.lookup p = some (.lst es) ∧ A.nx Γ M
  | d :: ds => fun A Γ M => M.lookup p = some (.lst es) ∧ g d Γ fun Γ1 => body { A with nx := aForML p es g body ds A, ct := aForML p es g body ds A, bk := A.nx } Γ1 M
def forMW (p : Addr) (es : List D) (g : AG) (body : AS) (ds : List D) (A : AEnds) (_ : WitA A) (Γ : Sl) (M : Mem) : Prop := aForML p es g body ds A Γ M
def aForM (ai : AJ) (g : AG) (body : AS) (A : AEnds) (Γ : Sl) (M : Mem) : Prop := ai Γ M fun p es ds Γ1 M1 => forMW p es g body ds A ⟨⟩ Γ1 M1
end
def dropA : List L2.Key → List D → L2.Key → List L2.Key × List D
  | k :: ks, d :: ds, x => if k = x then dropA ks ds x else (k :: (dropA ks ds x).1, d :: (dropA ks ds x).2)
  | _, _, _ => ([], [])
def intK : List L2.Key → Option (List Int)
  | [] => some []
  | .inl i :: ks => (intK ks).map (i :: ·)
  | _ => none
def aLenD (r : Ret) (Γ : Sl) (M : Mem) (Q : Ret → Sl → Mem → Prop) : Prop := match dctOf r Γ M with
  | some t => Q (.dat (.int t.1.length)) Γ M
  | none => False
def aMinD (r : Ret) (Γ : Sl) (M : Mem) (Q : Ret → Sl → Mem → Prop) : Prop := match cget r Γ M with
  | some (.dct ks _) => match intK ks with
    | some is => is ≠ [] ∧ ∀ m, m ∈ is → (∀ j ∈ is, m ≤ j) → Q (.dat (.int m)) Γ M
    | none => False
  | _ => False
def aDPop (ad ay : AE) (Γ : Sl) (M : Mem) (Q : Ret → Sl → Mem → Prop) : Prop := ad Γ M fun r Γ1 M1 => (dctOf r Γ1 M1).isSome = true ∧ ay Γ1 M1 fun ry Γ2 M2 => match ry with
  | .dat y => match keyD y with
    | some k => match cget r Γ2 M2 with
      | some (.dct ks ds) => match getA ks ds k with
        | some d => cput r (.dct (dropA ks ds k).1 (dropA ks ds k).2) Γ2 M2 fun Γ3 M3 => Q (.dat d) Γ3 M3
        | none => False
      | _ => False
    | none => False
  | _ => False
section
variable {X : Cx} {a b c : Expr} {ta tb tc : TE} {aa ab ac : AE} {pos : Pos} {K : PySem.W.Frag} {B : Ent} {σ : L2.St} {H G H1 G1 H2 G2 : Hp} {Γ Γ1 Γ2 : Sl} {M M1 M2 : Mem}
end
def e_aLenD := @aLenD.eq_def
def e_aMinD := @aMinD.eq_def
def e_aDPop := @aDPop.eq_def
def e_aJSeq := @aJSeq.eq_def
def e_aJRev := @aJRev.eq_def
def e_aForM := @aForM.eq_def
end Gw

namespace Gw
open PySem PySem.Spec PyProof.Rows L2 RT
variable {ρ : Ent}
section
variable {prog : Program} {w : World} {A : Around} {E : Value → Shared → Prop} {s : Shared}
end
end Gw

namespace Gw
open PySem PySem.Spec PySem.W PyProof.Rows L2 RT
variable {ρ : Ent}
def aListRev (aa : AE) (Γ : Sl) (M : Mem) (Q : Ret → Sl → Mem → Prop) : Prop := aa Γ M fun r Γ1 M1 => match sqOf r Γ1 M1 with
  | some (.lst ds) => Q (.tmp (.lst ds.reverse)) Γ1 M1
  | _ => False
section
variable {X : Cx} {a b c : Expr} {ta tb tc : TE} {aa ab ac : AE} {pos : Pos} {K : PySem.W.Frag} {B : Ent} {σ : L2.St} {H G H1 G1 H2 G2 : Hp} {Γ Γ1 Γ2 : Sl} {M M1 M2 : Mem}
def aMinL (r : Ret) (Γ : Sl) (M : Mem) (Q : Ret → Sl → Mem → Prop) : Prop := match sqOf r Γ M with
  | some (.lst (d0 :: ds)) => (∀ d ∈ d0 :: ds, plain d = true ∧ dep d ≤ 64) ∧ PySem.W.AlikeAll ((d0 :: ds).map toPy) ∧ ∀ d ∈ d0 :: ds, toPy d = PySem.W.minD (toPy d0) (ds.map toPy) → Q (.dat d) Γ M
  | _ => False
end
def e_aListRev := @aListRev.eq_def
def e_aMinL := @aMinL.eq_def
end Gw

namespace Gw
open PySem PySem.Spec PySem.W PyProof.Rows L2
variable {ρ : Ent}
def aMinV (aa : AE) (Γ : Sl) (M : Mem) (Q : Ret → Sl → Mem → Prop) : Prop := aa Γ M fun r Γ1 M1 => match dcTOf r Γ1 M1 with
  | some t => match intsOf t.2 with
    | some is => is ≠ [] ∧ ∀ m, m ∈ is → (∀ j ∈ is, m ≤ j) → Q (.dat (.int m)) Γ1 M1
    | none => False
  | none => False
section
variable {X : Cx} {a b c o i p j : Expr} {ta tb tc to ti tp tj : TE} {aa ab ac ao ai ap aj : AE} {pos : Pos} {K : PySem.W.Frag} {B : Ent} {σ : L2.St} {H G H1 G1 H2 G2 : Hp} {Γ Γ1 Γ2 : Sl} {M M1 M2 : Mem}
end
def e_aMinV := @aMinV.eq_def
end Gw

namespace Gw
open PySem PySem.Spec PySem.W PyProof.Rows L2
variable {ρ : Ent}
def aPutR (d : D) (ao ai : AE) (k : Sl → Mem → Prop) (Γ : Sl) (M : Mem) : Prop := ao Γ M fun ro Γ2 M2 => ai Γ2 M2 fun ri Γ3 M3 => match ri with
  | .dat y => match keyT y with
    | some kk => match cget ro Γ3 M3 with
      | some (.dcT ks ds) => ks.length < sizeLine ∧ cput ro (.dcT (putT ks ds kk d).1 (putT ks ds kk d).2) Γ3 M3 k
      | _ => False
    | none => False
  | _ => False
def aSetR2 (aa : AA) (ao ai ap aj : AE) (A : AEnds) (Γ : Sl) (M : Mem) : Prop := aa Γ M fun ds Γ1 M1 => match ds with
  | [d, e] => aPutR d ao ai (aPutR e ap aj A.nx) Γ1 M1
  | _ => False
section
variable {X : Cx} {a b c o i p j : Expr} {ta tb tc to ti tp tj : TE} {aa ab ac ao ai ap aj : AE} {pos : Pos} {K : PySem.W.Frag} {B : Ent} {σ : L2.St} {H G H1 G1 H2 G2 : Hp} {Γ Γ1 Γ2 : Sl} {M M1 M2 : Mem}
def aUnpF (cn f : Str) (i : Nat) (aa ao : AE) (A : AEnds) (Γ : Sl) (M : Mem) : Prop := aa Γ M fun r Γ0 M0 => frz r Γ0 fun d Γ1 => match d with
  | .tup [x, y] => ao (Γ1.set i (.dat x)) M0 fun ro Γ2 M2 => match ro with
    | .dat (.ref a) => match M2.lookup a with
      | some (.ins cn' ns ds) => cn' = cn ∧ ns.length < 1000 ∧ A.nx Γ2 (mput M2 a (.ins cn' (putN f ns) (putO f y ns ds)))
      | _ => False
    | _ => False
  | _ => False
end
def e_aPutR := @aPutR.eq_def
def e_aSetR2 := @aSetR2.eq_def
def e_aUnpF := @aUnpF.eq_def
end Gw

namespace Gw
open PySem PySem.Spec PyProof.Rows L2
variable {ρ : Ent}
section
variable {X : Cx} {kx vx tg iter : Expr} {ifs : List Expr} {scope : Scope} {own : List (Str × Nat)} {pos : Pos} {wi : TI} {g : TG} {tt : TT} {tk tv : TE} {pins : List (Addr × Obj)} {σ : L2.St} {H : Hp} {s : Shared}
end
end Gw

namespace Gw
open PySem PySem.Spec L2
variable {ρ : Ent}
section
variable {X : Cx} {a b c e : Expr} {ta tb tc te : TE} {aa ab ac ae : AE} {pos : Pos} {K : PySem.W.Frag} {B : Ent} {σ : St} {H G H1 G1 H2 G2 H0 : Hp} {Γ Γ1 Γ2 : Sl} {M M1 M2 : Mem}
theorem unp_starL {prog : Program} {w : World} {A : Around} {E : Value → Shared → Prop} {s : Shared} {l : Addr} {items : Array Value} {n i : Nat} {Q : List Value → Shared → Prop} (hl : s.heap.IsList l items) (hh : A.handled = none) (hi : i < n) (hn : n ≤ items.size + 1) (hz : items.size ≤ 16384)
    (h : ∀ h' tk, (∀ b o, s.heap.get? b = some o → h'.get? b = some o) → wpAny (model prog w) A (newList ((items.toList.drop i).take (items.size + 1 - n)) >>= fun d => pure (items.toList.take i ++ [d] ++ (items.toList.drop i).drop (items.size + 1 - n))) Q E { s with heap := h', toks := tk }) : wpAny (model prog w) A (unpackItems (.ref l) n (some i)) Q E s := by
  have hlt : l ≠ s.heap.objs.size := by obtain ⟨o, ho, _⟩ := hl; exact Nat.ne_of_lt (Heap.lt_size ho)
  unfold unpackItems
  refine wpAny_bind ?_
  unfold notIterableAtAll
  refine wpAny_bind (wpAny_specialOf hl.typeIs slot_list_iter.lookup ?_)
  refine wpAny_pure ?_
  simp only [Bool.false_eq_true, if_false]
  refine wpAny_bind (wpAny_holding (wpAny_pyIter_list hl ?_))
  refine wpAny_bind (wpAny_holding (PySem.W.kun_draw hlt i 0 _ _ ⟨_, Heap.get?_push_size _ rfl, rfl, rfl⟩ (hl.push _) (by omega) fun h₁ hit₁ hs₁ => ?_))
  have hl₁ : h₁.IsList l items := (hl.push _).extBut hs₁.extBut hlt
  rw [Nat.zero_add] at hit₁
  have hit₁' := hit₁
  obtain ⟨oi, hoi, _⟩ := hit₁'
  have hl₁' := hl₁
  obtain ⟨ol, hol, _⟩ := hl₁'
  rw [List.drop_zero]
  have hfl : (items.toList.take i).length = i := by rw [List.length_take, Array.length_toList]; omega
  rw [if_neg (show ¬ ((items.toList.take i).length < i) by rw [hfl]; omega)]
  refine wpAny_bind (wpAny_holding (PySem.W.kun_collect (s := { s with heap := h₁ }) (T := "list_iterator") (.inr (.inr (.inl rfl))) (Walks.list (A := A.in1) hh s.heap.objs.size l hlt items) (fun j u st => st.1.typeIs) (k := i) (by omega) ⟨hit₁, hl₁⟩ (Heap.lt_size hoi) (Heap.lt_size hol) (fun h₂ tk hk => ?_) (by rw [sizeLine_eq]; omega)))
  have hrl : (items.toList.drop i).length = items.size - i := by rw [List.length_drop, Array.length_toList]
  have hmid : (items.toList.drop i).length - (n - 1 - i) = items.size + 1 - n := by rw [hrl]; omega
  show wpAny _ _ (if (items.toList.drop i).length < n - 1 - i then _ else _) _ _ _
  rw [if_neg (by rw [hrl]; omega)]
  show wpAny _ _ (newList ((items.toList.drop i).take ((items.toList.drop i).length - (n - 1 - i))) >>= fun d => pure (items.toList.take i ++ [d] ++ (items.toList.drop i).drop ((items.toList.drop i).length - (n - 1 - i)))) _ _ _
  rw [hmid]
  exact h h₂ tk fun b o e => hk b o (Nat.ne_of_lt (Heap.lt_size e)) (hs₁.extBut b o (Nat.ne_of_lt (Heap.lt_size e)) (Heap.get?_push_of_some _ e))
def gStarL (K : PySem.W.Frag) (n i : Nat) (t : TGs) : TG := fun v σ H Q => ∃ a xs, v = .ref a ∧ SqL K H a xs ∧ n ≤ xs.length + 1 ∧ xs.length ≤ 16384 ∧
  ∀ p, H p = none → t (xs.take i ++ [.ref p] ++ (xs.drop i).drop (xs.length + 1 - n)) σ (upd H p (.lst ((xs.drop i).take (xs.length + 1 - n)))) Q
theorem pg_starL {es : List Expr} {k n i : Nat} {t : TGs} (hc : X.calm = true) (h : PGs X es t) (hi : i < n) (hn : (assignEach es X.env).length = n) (hst : (assignEach es X.env).findIdx? (·.1) = some i) : PG X (.Tuple es k pos) (gStarL X.K n i t) := by
  refine ⟨fun pins s σ H v u Q I r hw => ?_⟩
  obtain ⟨a, xs, e1, hq, hl, hz', hw⟩ := hw
  subst e1
  cases r
  obtain ⟨its, rv, ht, hz⟩ := I.list hq
  have hlen : its.toArray.size = xs.length := by simp [rv.length]
  rw [PyProof.Rows.assign_Tuple]
  refine wpAny_bind (wpAny_standAt ?_)
  unfold unpack
  rw [hn, hst]
  refine wpAny_bind (wpAny_holding (unp_starL ht.isList (I.ok.hd hc) hi (by omega) (by omega) fun h' tk hk => ?_))
  have I1 : Inv X pins σ H { s with heap := h', toks := tk } := I.kept (t' := tk) hk
  unfold newList
  refine wpAny_bind (wpAny_newObj_type (wpAny_pure ?_) (by show (List.take _ _).toArray.size ≤ sizeLine; rw [List.size_toArray, List.length_take, List.length_drop, sizeLine_eq]; simp only [List.length_drop] at *; omega))
  have hf : H h'.objs.size = none := I1.hok.fresh (Nat.le_refl _)
  have I2 := I1.laid (a := h'.objs.size) (o := .lst ((xs.drop i).take (xs.length + 1 - n))) (t' := tk) (h' := h'.push { cls := .type "list", data := .seq ((its.toArray.toList.drop i).take (its.toArray.size + 1 - n)).toArray }) (fun b u e => Heap.get?_push_of_some _ e) (Nat.le_refl _)
    ⟨by rw [List.length_take, List.length_drop, sizeLine_eq]; omega, _, 0, by rw [hlen]; simpa using vals_take _ (vals_drop i rv), Heap.get?_push_size _ rfl⟩
  refine h.run pins _ σ _ _ _ Q I2 ?_ (hw _ hf)
  rw [hlen]
  exact vals_app (vals_app (by simpa using vals_take i rv) (.cons rfl .nil)) (by simpa using vals_drop _ (vals_drop i rv))
def aUnpSL (n i : Nat) (aa : AE) (u : AGs) (A : AEnds) (Γ : Sl) (M : Mem) : Prop := aa Γ M fun r Γ1 M1 => frz r Γ1 fun d Γ2 => match d with
  | .lst ds => n ≤ ds.length + 1 ∧ ds.length ≤ 16384 ∧ u (ds.take i ++ [.lst ((ds.drop i).take (ds.length + 1 - n))] ++ (ds.drop i).drop (ds.length + 1 - n)) Γ2 fun Γ3 => A.nx Γ3 M1
  | _ => False
theorem qs_unpSL (n i : Nat) {es : List Expr} {kk : Nat} {tpos : Pos} {t : TGs} {u : AGs} {is : List Nat} (h : QE X ρ a ta aa) (hg : QGs X ρ es t u is) (hc : X.calm = true := by rfl) (hi : i < n := by decide) (hn : (assignEach es X.env).length = n := by rfl) (hst : (assignEach es X.env).findIdx? (·.1) = some i := by rfl)
    (hs : swapsWithSole [.Tuple es kk tpos] a pos.line X.env = pure false := by rfl) (hw : swappedStores [.Tuple es kk tpos] a X.env = pure none := by rfl) (h1 : (assignEach [.Tuple es kk tpos] X.env).map (·.2) = [assign (.Tuple es kk tpos) X.env] := by rfl) (hK : X.K = K := by rfl) :
    QS X ρ (.Assign [.Tuple es kk tpos] a pos) (tAsg ta (gStarL K n i t)) (aUnpSL n i aa u) := by
  subst hK
  refine ⟨ps_asg h.pe (pg_starL hc hg.pe hi hn hst) hs hw h1, fun B σ H G Γ M A E k hh s => h.rd B σ H G Γ M _ _ k hh fun v H1 G1 Γ1 M1 r k1 e1 rr h1 => ?_⟩
  obtain ⟨G2, Γ2, d, k2, e2, rp, h2⟩ := frz_ok (H0 := H) k1 e1 rr h1
  split at h2
  · rename_i ds
    obtain ⟨n1, n2, h2⟩ := h2
    obtain ⟨p, xs, rfl, hx, rl⟩ := rep_lst.mp rp
    have hl := rl.length
    rw [← hl] at h2 n1 n2
    refine ⟨p, xs, rfl, SqL.of (k2.ex _ _ hx), by omega, by omega, fun q hq => ?_⟩
    obtain ⟨k3, e3⟩ := k2.new (o := .lst ((xs.drop i).take (xs.length + 1 - n))) hq
    have rl3 := rl.mono e3.g
    refine hg.rd B σ _ _ Γ2 M1 _ _ _ _ k3 ?_ h2 fun σ' Γ' k4 _ _ z => s.nx σ' _ _ Γ' M1 k4 z
    exact RepL.append (RepL.append (rl3.take i) (RepL.one (rep_lst.mpr ⟨q, _, rfl, upd_same, (rl3.drop i).take _⟩))) ((rl3.drop i).drop _)
  · exact h2.elim
end
def e_aUnpSL := @aUnpSL.eq_def
end Gw

namespace Gw
open PySem PySem.Spec PyProof.Rows L2
variable {ρ : Ent}
section
variable {X : Cx} {tg a : Expr} {ta : TE} {aa : AE} {K : PySem.W.Frag} {B : Ent} {σ : L2.St} {H G H1 G1 : Hp} {Γ Γ1 : Sl} {M M1 : Mem}
def aITKeys (aa : AE) (Γ : Sl) (M : Mem) (Q : List D → Sl → Mem → Prop) : Prop := aa Γ M fun r Γ1 M1 => match r with
  | .dat (.dcT ks ds) => Q (ks.map rowD) Γ1 M1
  | _ => False
def aListTK (r : Ret) (Γ : Sl) (M : Mem) (Q : Ret → Sl → Mem → Prop) : Prop := match dcTOf r Γ M with
  | some t => Q (.tmp (.lst (t.1.map rowD))) Γ M
  | none => False
def aListIt (aa : AE) (Γ : Sl) (M : Mem) (Q : Ret → Sl → Mem → Prop) : Prop := aa Γ M fun r Γ1 M1 => match dcTOf r Γ1 M1 with
  | some t => Q (.tmp (.lst (itemsT t.1 t.2))) Γ1 M1
  | none => False
def aParO1 (aa ab : AE) (i j : Nat) (A : AEnds) (Γ : Sl) (M : Mem) : Prop := aa Γ M fun r Γ1 M1 => match r with
  | .tmp c => ab Γ1 M1 fun r2 Γ2 M2 => frz r2 Γ2 fun d Γ3 => A.nx ((Γ3.set i (.own c)).set j (.dat d)) M2
  | _ => False
end
def e_aParO1 := @aParO1.eq_def
def e_aListIt := @aListIt.eq_def
def e_aITKeys := @aITKeys.eq_def
def e_aListTK := @aListTK.eq_def
end Gw

namespace Gw
open PySem L2 PyProof.Rows
variable {ρ : Ent}
structure CalXD (P : Program) (w : World) (K : PySem.W.Frag) (mg : Str → Option Value) (base : Heap) (x : Str) (ps : List Str) (k : Nat) (S : ASx) (dds : List D) (dvs : List V) : Prop where
  ex : ∃ f fd ds, FnG P w K mg base (L2.CX P w) k f fd ps (spX K ps.length S) ∧ mg x = some (.ref f) ∧ PySem.W.keepIn K (.ref f) = true ∧ Binds K fd ps ds ∧ Vals dvs ds ∧ (∀ G, RepL K G dds dvs)
  ar : ArX ps.length S
def aCallXD (w : XW) (S : ASx) (dds : List D) (ar : AA) : AE := aCallX w S fun Γ M Q => ar Γ M fun ds Γ1 M1 => Q (ds ++ dds) Γ1 M1
section
variable {X : Cx} {P : Program} {w : World} {K : PySem.W.Frag} {mg : Str → Option Value} {base : Heap} {k n : Nat} {ps : List Str} {S : ASx} {x : Str} {p pos : Pos} {a e : Expr} {es : List Expr} {tr : TA} {ar : AA} {dds : List D} {W : WX} {xw : XW}
end
def e_aCallXD := @aCallXD.eq_def
end Gw

namespace Gw
open PySem L2 PyProof.Rows
variable {ρ : Ent}
abbrev NK (P : Program) (w : World) : HeapKind P w NestedKey := nestedKind P w
def NkK (K : PySem.W.Frag) (H : Hp) (k : NestedKey) (b : Addr) : Prop := freeN k = true ∧ k.depth ≤ 8 ∧ NkR K H k (.ref b)
theorem NkK.mono {K : PySem.W.Frag} {G G' : Hp} {k : NestedKey} {b : Addr} (e : Ex G G') (h : NkK K G k b) : NkK K G' k b := ⟨h.1, h.2.1, NkR.mono e _ _ h.2.2⟩
section
variable {X : Cx} {pins : List (Addr × Obj)} {σ : L2.St} {H : Hp} {s : Shared}
mutual
theorem NkR.is (I : Inv X pins σ H s) : ∀ (k : NestedKey) (v : V) (u : Value), NkR X.K H k v → RelV v u → NestedIs s.heap k u
  | .none, v, u, h, r => by rw [NkR] at h; subst h; cases r; exact .none
  | .num i, v, u, h, r => by rw [NkR] at h; subst h; obtain ⟨t, rfl⟩ := r; exact .int i t
  | .text x, v, u, h, r => by rw [NkR] at h; subst h; obtain ⟨t, rfl⟩ := r; exact .text x t
  | .tup ks, v, u, h, r => by
    rw [NkR] at h
    obtain ⟨a, xs, rfl, h1, h2⟩ := h
    cases r
    obtain ⟨its, rv, ⟨o, ho, hc, n, hd⟩, _⟩ := I.tuple h1.1
    exact .tup ho hc hd (by simpa using NkRL.is I ks xs its h2 rv)
theorem NkRL.is (I : Inv X pins σ H s) : ∀ (ks : List NestedKey) (vs : List V) (us : List Value), NkRL X.K H ks vs → Vals vs us → NestedAll s.heap ks us
  | [], vs, us, h, r => by rw [NkRL] at h; subst h; cases r; exact .nil
  | k :: ks, vs, us, h, r => by
    rw [NkRL] at h
    obtain ⟨x, xs, rfl, h1, h2⟩ := h
    cases r with
    | cons r1 r2 => exact .cons (NkR.is I k x _ h1 r1) (NkRL.is I ks xs _ h2 r2)
end
theorem NkK.is {k : NestedKey} {b : Addr} (h : NkK X.K H k b) (I : Inv X pins σ H s) : (NK X.prog X.w).is s.heap k b := ⟨NkR.is I k _ _ h.2.2 rfl, h.2.1⟩
end
theorem DcM.at {h h' : Heap} {a : Addr} {L : List NE} (t : DcM h a L) (k : ∀ o, h.get? a = some o → h'.get? a = some o) : DcM h' a L := by
  obtain ⟨xs, pr, o, es, ep, ho, r⟩ := t.ex
  exact ⟨⟨xs, pr, o, es, ep, k o ho, r⟩, t.few, t.sys⟩
section
variable {X : Cx} {o i e f value : Expr} {pos pos' apos cpos : Pos} {td ty tv tx : TE} {pins : List (Addr × Obj)} {σ : L2.St} {H : Hp} {s : Shared} {a : Addr} {L : List NE} {K : PySem.W.Frag}
end
section
variable {X : Cx} {kx vx tg iter : Expr} {ifs : List Expr} {scope : Scope} {own : List (Str × Nat)} {pos : Pos} {wi : TI} {g : TG} {tt : TT} {tk tv : TE} {pins : List (Addr × Obj)} {σ : L2.St} {H : Hp} {s : Shared}
end
end Gw

namespace Gw
open PySem L2 PyProof.Rows
variable {ρ : Ent}
mutual
def nkO : D → Option NestedKey
  | .non => some .none
  | .int i => some (.num i)
  | .tup ds => match nkOs ds with
    | some ks => some (.tup ks)
    | none => none
  | _ => none
def nkOs : List D → Option (List NestedKey)
  | [] => some []
  | d :: ds => match nkO d, nkOs ds with
    | some k, some ks => some (k :: ks)
    | _, _ => none
end
def keyQ (d : D) : Option NestedKey := match d with
  | .tup ds => match nkOs ds with
    | some ks => if (NestedKey.tup ks).depth ≤ 8 then some (.tup ks) else none
    | none => none
  | _ => none
def getQ : List NestedKey → List D → NestedKey → Option D
  | k :: ks, d :: ds, x => if k = x then some d else getQ ks ds x
  | _, _, _ => none
def putQ : List NestedKey → List D → NestedKey → D → List NestedKey × List D
  | k :: ks, e :: ds, x, d => if k = x then (k :: ks, d :: ds) else (k :: (putQ ks ds x d).1, e :: (putQ ks ds x d).2)
  | _, _, x, d => ([x], [d])
section
variable {X : Cx} {a b c e : Expr} {ta tb tc te : TE} {aa ab ac ae : AE} {pos : Pos} {K : PySem.W.Frag} {B : Ent} {σ : L2.St} {H G H1 G1 H2 G2 H0 : Hp} {Γ Γ1 Γ2 : Sl} {M M1 M2 : Mem}
def dcNOf (r : Ret) (Γ : Sl) (M : Mem) : Option (List NestedKey × List D) := match r with
  | .dat (.dcN ks ds) => some (ks, ds)
  | .dat (.ref a) => match M.lookup a with
    | some (.dcN ks ds) => some (ks, ds)
    | _ => none
  | .tmp (.dcN ks ds) => some (ks, ds)
  | .var i => match Γ[i]? with
    | some (.own (.dcN ks ds)) => some (ks, ds)
    | some (.dat (.dcN ks ds)) => some (ks, ds)
    | _ => none
  | _ => none
structure SeeN (K : PySem.W.Frag) (H G : Hp) (l : Addr) (L : List NE) (t : List NestedKey × List D) : Prop where
  rd : Rd H l (DcN l L)
  ks : L.map (·.1) = t.1
  key : KeyN K G L
  val : RepL K G t.2 (L.map (·.2.2))
def aNNew (Γ : Sl) (M : Mem) (Q : Ret → Sl → Mem → Prop) : Prop := Q (.tmp (.dcN [] [])) Γ M
def aNGet (ad ay : AE) (Γ : Sl) (M : Mem) (Q : Ret → Sl → Mem → Prop) : Prop := ad Γ M fun r Γ1 M1 => ay Γ1 M1 fun ry Γ2 M2 => match ry with
  | .dat y => match keyQ y with
    | some k => match dcNOf r Γ2 M2 with
      | some t => match getQ t.1 t.2 k with
        | some d => Q (.dat d) Γ2 M2
        | none => False
      | none => False
    | none => False
  | _ => False
def aNPut (ae ao ai : AE) (A : AEnds) (Γ : Sl) (M : Mem) : Prop := ae Γ M fun r Γ0 M0 => frz r Γ0 fun d Γ1 => ao Γ1 M0 fun ro Γ2 M2 => ai Γ2 M2 fun ri Γ3 M3 => match ri with
  | .dat y => match keyQ y with
    | some k => match cget ro Γ3 M3 with
      | some (.dcN ks ds) => ks.length < sizeLine ∧ cput ro (.dcN (putQ ks ds k d).1 (putQ ks ds k d).2) Γ3 M3 fun Γ4 M4 => A.nx Γ4 M4
      | _ => False
    | none => False
  | _ => False
end
section
variable {X : Cx} {kx vx tg iter : Expr} {ifs : List Expr} {pos : Pos} {tk tv : TE} {ak av : AE} {K : PySem.W.Frag} {B : Ent} {σ σ' σ0 : L2.St} {H G H0 G0 H2 G2 : Hp} {Γ Γ' Γ0 Γ2 : Sl} {M M0 M2 : Mem} {p : Addr} {vs : List Nat} {c : Cell}
def aDnL (g : AG) (tt : AT) (ak av : AE) (vs : List Nat) (k : List NestedKey × List D → Sl → Mem → Prop) : List D → List NestedKey × List D → Sl → Mem → Prop
  | [], t, Γ, M => k t Γ M
  | d :: ds, t, Γ, M => g d Γ fun Γ1 => tt Γ1 M fun b Γ2 M2 => if b = true then ak Γ2 M2 fun rk Γ3 M3 => match rk with
      | .dat y => match keyQ y with
        | some key => av Γ3 M3 fun rv Γ4 M4 => frz rv Γ4 fun e Γ5 => t.1.length < sizeLine ∧ aDnL g tt ak av vs k ds (putQ t.1 t.2 key e) (wipeS Γ5 vs) M4
        | none => False
      | _ => False
    else aDnL g tt ak av vs k ds t (wipeS Γ2 vs) M2
structure WitN (k : List NestedKey × List D → Sl → Mem → Prop) : Type where
def dnW (g : AG) (tt : AT) (ak av : AE) (vs : List Nat) (k : List NestedKey × List D → Sl → Mem → Prop) (_ : WitN k) (ds : List D) (t : List NestedKey × List D) (Γ : Sl) (M : Mem) : Prop := aDnL g tt ak av vs k ds t Γ M
def aDcN (ai : AI) (g : AG) (tt : AT) (ak av : AE) (vs : List Nat) (Γ : Sl) (M : Mem) (Q : Ret → Sl → Mem → Prop) : Prop := ai Γ M fun ds Γ1 M1 => dnW g tt ak av vs (fun t Γ2 M2 => Q (.tmp (.dcN t.1 t.2)) Γ2 M2) ⟨⟩ ds ([], []) (wipeS Γ1 vs) M1
end
def e_aNNew := @aNNew.eq_def
def e_aNGet := @aNGet.eq_def
def e_aNPut := @aNPut.eq_def
def e_dcNOf := @dcNOf.eq_def
def e_aDcN := @aDcN.eq_def
end Gw

namespace Gw
open PySem PySem.Spec L2 PyProof.Rows RZ
variable {ρ : Ent}
section
variable {X : Cx} {K : PySem.W.Frag} {a b : Expr}
def aIzipM (ar : AA) (Γ : Sl) (M : Mem) (Q : List D → Sl → Mem → Prop) : Prop := ar Γ M fun ds Γ1 M1 => match ds with
  | [.tup xs, .lst ys] => Q (zipD xs ys) Γ1 M1
  | [.lst xs, .tup ys] => Q (zipD xs ys) Γ1 M1
  | _ => False
end
def e_aIzipM := @aIzipM.eq_def
end Gw

namespace Gw
open PySem PySem.Spec L2 PyProof.Rows
variable {ρ : Ent}
section
variable {X : Cx} {o e : Expr} {to te : TE} {ao ae : AE} {pos : Pos} {K : PySem.W.Frag} {G : Hp}
theorem repL_strs_inv : ∀ {ys : List Str} {vs : List V}, RepL K G (ys.map .str) vs → vs = ys.map V.str
  | [], vs, r => repL_nil.mp r
  | x :: ys, vs, r => by
    obtain ⟨v, vs', rfl, r1, r2⟩ := repL_cons.mp r
    rw [Rep] at r1
    rw [repL_strs_inv r2, r1]
    rfl
def aJoin (ao ae : AE) (Γ : Sl) (M : Mem) (Q : Ret → Sl → Mem → Prop) : Prop := ao Γ M fun r Γ1 M1 => match r with
  | .dat (.str x) => ae Γ1 M1 fun r2 Γ2 M2 => match sqOf r2 Γ2 M2 with
    | some (.lst ds) => match strsD ds with
      | some ys => (ys.map (·.length)).sum + ys.length * x.length ≤ 16777216 ∧ Q (.dat (.str (Txt.join x ys))) Γ2 M2
      | none => False
    | some (.tup ds) => match strsD ds with
      | some ys => (ys.map (·.length)).sum + ys.length * x.length ≤ 16777216 ∧ Q (.dat (.str (Txt.join x ys))) Γ2 M2
      | none => False
    | _ => False
  | _ => False
theorem q_join {apos : Pos} (ho : QE X ρ o to ao) (he : QE X ρ e te ae) (hs : starEach [e] X.env = [(false, eval e X.env)] := by rfl) (hbase : attributeBase o "join" X.env (eval o X.env) = eval o X.env := by rfl) (hline : (apos.endLine == pos.line) = true := by rfl) (hK : X.K = K := by rfl) :
    QE X ρ (.Call (.Attribute o "join" apos) [e] [] pos) (tM1 (fun x xs H Q => ∃ a p, ∃ ys : List Str, x = .str a ∧ xs = [.ref p] ∧ (SqL K H p (ys.map V.str) ∨ SqT K H p (ys.map V.str)) ∧
      (ys.map (·.length)).sum + ys.length * a.length ≤ 16777216 ∧ Q (.str (Txt.join a ys)) H) to te) (aJoin ao ae) := by
  subst hK
  refine ⟨pe_join ho.pe he.pe hs hbase hline, ?_⟩
  intro B σ H G Γ M Q R k h q
  refine ho.rd B σ H G Γ M _ _ k h fun v H1 G1 Γ1 M1 r k1 e1 rr h1 => ?_
  split at h1
  · rename_i x
    have ev := rep_strV (show Rep X.K G1 (.str x) v from rr)
    subst ev
    refine ⟨⟨x, rfl⟩, he.rd B σ H1 G1 Γ1 M1 _ _ k1 h1 fun u H2 G2 Γ2 M2 r2 k2 e2 rr2 h2 => ?_⟩
    split at h2
    · rename_i ds hs2
      split at h2
      · rename_i ys hy
        obtain ⟨l, xs, ev, hl, rl⟩ := sqOf_ok k2 rr2 hs2
        rw [strsD_ok hy] at rl
        rw [repL_strs_inv rl] at hl
        exact ⟨x, l, ys, rfl, by rw [ev], .inl (SqL.of hl), h2.1, q _ H2 G2 Γ2 M2 (.dat (.str _)) k2 (e1.trans e2) (by simp only [RepR, Rep]) h2.2⟩
      · exact h2.elim
    · rename_i ds hs2
      split at h2
      · rename_i ys hy
        obtain ⟨l, xs, ev, hl, rl⟩ := sqOf_ok k2 rr2 hs2
        rw [strsD_ok hy] at rl
        rw [repL_strs_inv rl] at hl
        exact ⟨x, l, ys, rfl, by rw [ev], .inr hl, h2.1, q _ H2 G2 Γ2 M2 (.dat (.str _)) k2 (e1.trans e2) (by simp only [RepR, Rep]) h2.2⟩
      · exact h2.elim
    · exact h2.elim
  · exact h1.elim
end
def e_aJoin := @aJoin.eq_def
end Gw

namespace Gw
open PySem L2 PyProof.Rows
variable {ρ : Ent}
section
variable {X : Cx} {tg iter : Expr} {te : TE} {ae : AE} {pos : Pos} {K : PySem.W.Frag} {B : Ent} {σ : L2.St} {H G : Hp} {Γ : Sl} {M : Mem}
def aLcML (p : Addr) (es : List D) (g : AG) (tt : AT) (ae : AE) (vs : List Nat) (k : List D → Sl → Mem → Prop) : List D → List D → Sl → Mem → Prop
  | [], acc, Γ, M => M.lookup p = some (.lst es) ∧ k acc Γ M
  | d :: ds, acc, Γ, M => M.lookup p = some (.lst es) ∧ g d Γ fun Γ1 => tt Γ1 M fun b Γ2 M2 => if b = true then ae Γ2 M2 fun r Γ3 M3 => frz r Γ3 fun y Γ4 => acc.length < sizeLine ∧ aLcML p es g tt ae vs k ds (acc ++ [y]) (wipeS Γ4 vs) M3
    else aLcML p es g tt ae vs k ds acc (wipeS Γ2 vs) M2
def lcMW (p : Addr) (es : List D) (g : AG) (tt : AT) (ae : AE) (vs : List Nat) (k : List D → Sl → Mem → Prop) (_ : WitL k) (ds acc : List D) (Γ : Sl) (M : Mem) : Prop := aLcML p es g tt ae vs k ds acc Γ M
def aLcM (ai : AJ) (g : AG) (tt : AT) (ae : AE) (vs : List Nat) (Γ : Sl) (M : Mem) (Q : Ret → Sl → Mem → Prop) : Prop := ai Γ M fun p es ds Γ1 M1 => lcMW p es g tt ae vs (fun acc Γ2 M2 => Q (.tmp (.lst acc)) Γ2 M2) ⟨⟩ ds [] (wipeS Γ1 vs) M1
theorem aLcML_at {p : Addr} {es ds acc : List D} {g : AG} {tt : AT} {vs : List Nat} {k : List D → Sl → Mem → Prop} (h : aLcML p es g tt ae vs k ds acc Γ M) : M.lookup p = some (.lst es) := by
  cases ds with
  | nil => exact h.1
  | cons d ds => exact h.1
theorem rd_lcM {wi : TI} {ai : AJ} {g : TG} {ag : AG} {is vs : List Nat} {tt : TT} {at' : AT} {bt : Bool} (hi : RdJ K ρ wi ai) (hg : RdG K ρ bt g ag is) (hsub : ∀ j ∈ is, j ∈ vs) (ht : RdT K ρ tt at') (he : RdE K ρ te ae) : RdE K ρ (tLc wi g tt te vs) (aLcM ai ag at' ae vs) := by
  intro B σ H G Γ M Q R k h q
  refine hi B σ H G Γ M _ _ k h fun J H1 G1 Γ1 M1 pl es ds k1 e1 w hl1 h1 p hp => ?_
  obtain ⟨o, wk, ho⟩ := w.w
  obtain ⟨k1t, e1t, hm1, hn1, hb1, hg1⟩ := k1.tmp (o := .lst []) hp
  have start : Grows K ρ B p σ H1 G1 Γ1 M1 [] (.lst []) σ (upd H1 p (.lst [])) G1 Γ1 M1 := ⟨k1t, e1t.g, e1t.tmp, e1t.nn, fun j s _ _ => by simp, ⟨hg1, _, upd_same, [], rfl, repL_nil.mpr rfl⟩, hm1, hn1, hb1, hp⟩
  refine lc_it wk (fun i H2 => ∃ G2 Γ2 M2 acc, Grows K ρ B p σ H1 G1 Γ1 M1 vs (.lst acc) σ H2 G2 Γ2 M2 ∧ aLcML pl es ag at' ae vs (fun acc Γ2 M2 => Q (.tmp (.lst acc)) Γ2 M2) (ds.drop i) acc Γ2 M2) ?_ ?_ ?_ ?_
  · exact ⟨G1, wipeS Γ1 vs, M1, [], start.leave rfl, h1⟩
  · rintro i H2 _ ⟨G2, Γ2, M2, acc, gr, h2⟩
    obtain ⟨xs, hx, hr⟩ := cell_lst gr.ok (aLcML_at h2)
    exact ⟨xs, hx, hr.length⟩
  · rintro i x H2 H2' hin ⟨G2, Γ2, M2, acc, gr, h2⟩ y
    obtain ⟨xs, hx, hr⟩ := cell_lst gr.ok (aLcML_at h2)
    rw [List.drop_eq_getElem_cons hin] at h2
    obtain ⟨rfl, yx⟩ := y
    have yx := yx xs hx
    have hd := ho i hin
    rw [List.getElem?_eq_getElem hin] at hd
    obtain ⟨v, hv, rv⟩ := hr.get hd
    rw [hv] at yx
    cases yx
    have gr3 := gr.enter
    refine hg B (wipe σ vs) H2' G2 Γ2 M2 _ _ _ _ gr3.ok (.inl rv) h2.2 fun σ2 Γ3 k4 w4 o4 h4 => ⟨by rw [w4 vs hsub, wipe_wipe], ?_⟩
    have hw2 : wipe σ2 vs = wipe σ vs := by rw [w4 vs hsub, wipe_wipe]
    have gr4 : Grows K ρ B p σ H1 G1 Γ1 M1 [] (.lst acc) σ2 H2' G2 Γ3 M2 := gr3.to k4 o4 fun j s _ _ => by simp
    refine ht B σ2 H2' G2 Γ3 M2 _ _ k4 h4 fun b H5 G5 Γ5 M5 k5 e5 h5 => ?_
    have gr5 := gr4.es k5 e5
    cases b with
    | false =>
      exact ⟨G5, wipeS Γ5 vs, M5, acc, gr5.leave hw2, by simpa using h5⟩
    | true =>
      refine he B σ2 H5 G5 Γ5 M5 _ _ k5 (by simpa using h5) fun u H6 G6 Γ6 M6 r k6 e6 rr h6 => ?_
      obtain ⟨G7, Γ7, y, k7, e7, rp7, hlen, h7⟩ := frz_ok (H0 := H5) k6 e6 rr h6
      have gr7 := (gr5.es k7 e7).leave hw2
      obtain ⟨gp, o2, ho2, xs2, rfl, hrep⟩ := gr7.here
      exact ⟨xs2, ho2, by rw [hrep.length]; exact hlen, G7, wipeS Γ7 vs, M6, acc ++ [y], gr7.put ⟨_, rfl, hrep.append (RepL.one rp7)⟩, h7⟩
  · rintro H2 ⟨G2, Γ2, M2, acc, gr, h2⟩
    rw [List.drop_length] at h2
    exact q _ H2 G2 Γ2 M2 (.tmp (.lst acc)) gr.ok (e1.trans ⟨gr.g, gr.tmp, gr.nn⟩) ⟨p, rfl, e1.nn p hp, hb1, gr.here, gr.mp, gr.op⟩ h2.2
theorem q_lcM {elt : Expr} {ifs : List Expr} {scope : Scope} {own : List (Str × Nat)} {wi : TI} {ai : AJ} {g : TG} {ag : AG} {is : List Nat} {tt : TT} {at' : AT} (own' : List (Str × Nat)) (hown : own = own') (hN : X.N.Nodup) (hi : QJ X ρ tg iter wi ai) (ok : BlkOk X.N X.env.scope scope own)
    (hg : ∀ (s : Shared) (H : Hp) (C : Addr) (cl : List (Str × Addr)) (fp : List Addr), QG (X.blk s H scope (compEnvC scope cl C X.env) fp) ρ tg g ag is) (ht : ∀ (s : Shared) (H : Hp) (C : Addr) (cl : List (Str × Addr)) (fp : List Addr), QTs (X.blk s H scope (compEnvC scope cl C X.env) fp) ρ ifs tt at')
    (he : ∀ (s : Shared) (H : Hp) (C : Addr) (cl : List (Str × Addr)) (fp : List Addr), QE (X.blk s H scope (compEnvC scope cl C X.env) fp) ρ elt te ae) (hsub : ∀ j ∈ is, j ∈ own.map (·.2)) (s0 : Shared) (hc : X.calm = true := by rfl) (hs : ∀ x, foldedSetIterable iter X.env x = pure x := by intro _; rfl) :
    QE X ρ (.ListComp elt [⟨tg, iter, ifs, 0⟩] scope pos) (tLc wi g tt te (own.map (·.2))) (aLcM ai ag at' ae (own.map (·.2))) :=
  ⟨pe_lc hc hN hi.pe ok (fun s H C cl fp => (hg s H C cl fp).pe) (fun s H C cl fp => (ht s H C cl fp).pe) (fun s H C cl fp => (he s H C cl fp).pe) hs,
   rd_lcM hi.rd (hg s0 X.H_0 0 [] []).rd hsub (ht s0 X.H_0 0 [] []).rd (he s0 X.H_0 0 [] []).rd⟩
theorem q_compM {elt : Expr} {ifs : List Expr} {scope : Scope} {own : List (Str × Nat)} {wi : TI} {ai : AJ} {g : TG} {ag : AG} {is : List Nat} {tt : TT} {at' : AT} (hN : X.N.Nodup) (hi : QJ X ρ tg iter wi ai) (ok : BlkOk X.N X.env.scope scope own)
    (hg : ∀ (s : Shared) (H : Hp) (C : Addr) (cl : List (Str × Addr)) (fp : List Addr), QG (X.blk s H scope (compEnvC scope cl C X.env) fp) ρ tg g ag is) (ht : ∀ (s : Shared) (H : Hp) (C : Addr) (cl : List (Str × Addr)) (fp : List Addr), QTs (X.blk s H scope (compEnvC scope cl C X.env) fp) ρ ifs tt at')
    (he : ∀ (s : Shared) (H : Hp) (C : Addr) (cl : List (Str × Addr)) (fp : List Addr), QE (X.blk s H scope (compEnvC scope cl C X.env) fp) ρ elt te ae) (s0 : Shared) (hsub : ∀ j ∈ is, j ∈ own.map (·.2) := by decide) (hc : X.calm = true := by rfl) (hs : ∀ x, foldedSetIterable iter X.env x = pure x := by intro _; rfl) :
    QE X ρ (.ListComp elt [⟨tg, iter, ifs, 0⟩] scope pos) (tLc wi g tt te (own.map (·.2))) (aLcM ai ag at' ae (own.map (·.2))) := q_lcM own rfl hN hi ok hg ht he hsub s0 hc hs
end
def e_aLcM := @aLcM.eq_def
end Gw

namespace Gw
open PySem L2 PyProof.Rows
variable {ρ : Ent}
section
variable {X : Cx} {o a : Expr} {to ta : TE} {ao aa : AE} {pos : Pos} {K : PySem.W.Frag} {cn : Str} {F : List Str}
def aAugF (cn f : Str) (ao ae : AE) (A : AEnds) (Γ : Sl) (M : Mem) : Prop := ao Γ M fun ro Γ1 M1 => match ro with
  | .dat (.ref p) => match M1.lookup p with
    | some (.ins cn' ns ds) => cn' = cn ∧ match fldD f ns ds with
      | some (.int i) => ae Γ1 M1 fun r Γ2 M2 => match r with
        | .dat (.int j) => match M2.lookup p with
          | some (.ins cn'' ns' ds') => cn'' = cn ∧ ns'.length < 1000 ∧ A.nx Γ2 (mput M2 p (.ins cn'' (putN f ns') (putO f (.int (i + j)) ns' ds')))
          | _ => False
        | _ => False
      | _ => False
    | _ => False
  | _ => False
theorem qs_augF {f : Str} {tpos : Pos} (T : ClsP K cn F) (ho : QE X ρ o to ao) (h : QE X ρ a ta aa) (hf : f ∈ F := by decide) (hK : X.K = K := by rfl) :
    QS X ρ (.AugAssign (.Attribute o f tpos) .Add a pos) (sFldAug K to ta rAdd f) (aAugF cn f ao aa) := by
  subst hK
  refine ⟨ps_fldaug ho.pe h.pe in_add, fun B σ H G Γ M A E k hh s => ho.rd B σ H G Γ M _ _ k hh fun ov H1 G1 Γ1 M1 ro k1 e1 rro h1 => ?_⟩
  split at h1
  · rename_i p
    split at h1
    · rename_i cn' ns ds hl
      obtain ⟨rfl, h1⟩ := h1
      split at h1
      · rename_i i hd
        have ev : ov = .ref p := by have := (show Rep X.K G1 (.ref p) ov from rro); rwa [Rep] at this
        subst ev
        obtain ⟨g0, u, hu, C, dx, ws, hn, rfl, hns, hr⟩ := k1.ms p _ (lookup_mem hl)
        obtain ⟨C', hn', cl, na⟩ := T.ex
        have ec := hn'
        rw [hn] at ec
        cases ec
        obtain ⟨w, hw, rw'⟩ := lookup_rep hns hr hd
        have ew : w = .int i := by rwa [Rep] at rw'
        subst ew
        refine ⟨p, C, dx, ws, .int i, rfl, hu, cl, na f hf, hw, h.rd B σ H1 G1 Γ1 M1 _ _ k1 h1 fun v H2 G2 Γ2 M2 r k2 e2 rr h2 => ?_⟩
        split at h2
        · rename_i j
          split at h2
          · rename_i cn2 ns2 ds2 hl2
            obtain ⟨ec2, hz, h2⟩ := h2
            have ev2 : v = .int j := by have := rr; simp only [RepR, Rep] at this; exact this
            subst ev2
            subst ec2
            obtain ⟨g1, u1, hu1, C1, dx1, ws1, hn1, rfl, hns1, hr1⟩ := k2.ms p _ (lookup_mem hl2)
            rw [hn] at hn1
            cases hn1
            have rro2 := rro.es e2
            have pr := put_rep (f := f) (d := .int (i + j)) (y := .int (i + j)) (by rw [Rep]) hns1 hr1
            have hg : cget (.dat (.ref p)) Γ2 M2 = some (.ins cn2 ns2 ds2) := hl2
            obtain ⟨Γ5, M5, k5, e6, hq⟩ := cput_ok (c' := .ins cn2 (putN f ns2) (putO f (.int (i + j)) ns2 ds2)) (o' := .ins C dx1 (putF f (.int (i + j)) ws1)) (kk := A.nx) k2 rro2 hg ⟨C, dx1, _, hn, rfl, pr.1, pr.2⟩ h2
            exact ⟨i, j, rfl, rfl, dx1, ws1, hu1, by rw [← List.length_map (f := (·.1)), hns1]; exact hz, s.nx σ _ G2 Γ5 M5 k5 hq⟩
          · exact h2.elim
        · exact h2.elim
      · exact h1.elim
    · exact h1.elim
  · exact h1.elim
end
def e_aAugF := @aAugF.eq_def
end Gw

namespace Gw
open PySem PySem.Spec L2 PyProof.Rows
variable {ρ : Ent}
structure QET (X : Cx) (ρ : Ent) (e : Expr) (te : TE) (ae : AE) : Prop where
  pe : PET X e te
  rd : RdE X.K ρ te ae
structure QST (X : Cx) (ρ : Ent) (st : Stmt) (ts : TS) (as : AS) : Prop where
  pe : PST X st ts
  rd : RdS X.K ρ ts as
structure QSsT (X : Cx) (ρ : Ent) (st : List Stmt) (ts : TS) (as : AS) : Prop where
  pe : PSsT X st ts
  rd : RdS X.K ρ ts as
section
variable {X : Cx} {st : Stmt} {rest : List Stmt} {t u : TS} {a b : AS} {o e : Expr} {to te : TE} {ao ae : AE} {pos pos' : Pos} {x : Str}
theorem qssT_of (h : QSs X ρ rest t a) : QSsT X ρ rest t a := ⟨PSsT.of h.pe, h.rd⟩
theorem qssT_cons (h : QS X ρ st t a) (h2 : QSsT X ρ rest u b) : QSsT X ρ (st :: rest) (tSeq t u) (aSeq a b) := ⟨psst_cons (PST.of h.pe) h2.pe, fun B σ H G Γ M A E k hh s => h.rd B σ H G Γ M _ _ k hh (s.seq h2.rd)⟩
theorem qssT_cons2 (h : QST X ρ st t a) (h2 : QSsT X ρ rest u b) : QSsT X ρ (st :: rest) (tSeq t u) (aSeq a b) := ⟨psst_cons h.pe h2.pe, fun B σ H G Γ M A E k hh s => h.rd B σ H G Γ M _ _ k hh (s.seq h2.rd)⟩
theorem nox_T {body : List Stmt} (h : PSsT X.nox body t) : PSsT X body t := fun pins s σ H D h0 I hw =>
  wpAny_mono (h pins s σ H D h0 (I.wish _) hw) (fun _ _ q => q.unwish) fun _ _ z => False.elim z
def aReplC (ao : AE) (y z : Str) (Γ : Sl) (M : Mem) (Q : Ret → Sl → Mem → Prop) : Prop := ao Γ M fun r Γ1 M1 => match r with
  | .dat (.str x) => x.length + (x.length + 1) * z.length ≤ 16777216 ∧ Q (.dat (.str (Txt.replace x y z))) Γ1 M1
  | _ => False
theorem q_replC {y z : Str} {j k : Nat} {c0 c1 apos : Pos} (ho : QE X ρ o to ao) (hyz : (y == z) = false := by decide)
    (hst : starEach [.Constant (.str y) j c0, .Constant (.str z) k c1] X.env = [(false, eval (.Constant (.str y) j c0) X.env), (false, eval (.Constant (.str z) k c1) X.env)] := by rfl)
    (hbase : attributeBase o "replace" X.env (eval o X.env) = eval o X.env := by rfl) (hline : (apos.endLine == pos.line) = true := by rfl) :
    QET X ρ (.Call (.Attribute o "replace" apos) [.Constant (.str y) j c0, .Constant (.str z) k c1] [] pos) (CwR.tReplC to y z) (aReplC ao y z) := by
  refine ⟨CwR.pet_replC ho.pe hyz hst hbase hline, ?_⟩
  intro B σ H G Γ M Q R k h q
  refine ho.rd B σ H G Γ M _ _ k h fun v H1 G1 Γ1 M1 r k1 e1 rr h1 => ?_
  split at h1
  · rename_i x
    have ev := rep_strV (show Rep X.K G1 (.str x) v from rr)
    subst ev
    exact ⟨x, rfl, h1.1, q _ H1 G1 Γ1 M1 (.dat (.str _)) k1 e1 (by simp only [RepR, Rep]) h1.2⟩
  · exact h1.elim
theorem qsT_setF (i : Nat) (hN : X.N.Nodup) (h : QET X ρ e te ae) (hi : X.N[i]? = some x := by rfl) (hx : Loc X.env.scope x := by first | exact Or.inl rfl | exact Or.inr rfl) (hs : swapsWith e (some (.Name x pos')) pos.line X.env = pure false := by rfl) (hf : X.fn x = true ∨ X.env.scope.names.lookup x = some .local := by first | exact .inl rfl | exact .inr rfl | assumption) :
    QST X ρ (.Assign [.Name x pos'] e pos) (tAsg te (gName i)) (aAsgF ae i) := by
  refine ⟨fun pins s σ H D h0 I hh => ?_, rd_asgF h.rd⟩
  refine wpAny_Assign_Name (thn (h.pe pins s σ H _ h0 I hh) fun v s1 ⟨y, H1, I1, r1, q1⟩ => ?_) hs
  exact store_ok I1 hN hi hx r1 (fun s2 I2 => ⟨_, H1, I2, q1⟩) hf
end
section
variable {P : Program} {w : World} {K : PySem.W.Frag} {mg : Str → Option Value} {base : Heap}
theorem fnG_ofT {CX : CXT} {k : Nat} {x qual : Str} {st : Stmt} {f : Addr} {fd : FuncData} {N ps : List Str} {sp : Sp} (F : Fun K x qual st f fd) (S : FnScope N ps (defScope st)) (hnc : ∀ y ∈ (defScope st).names, y.2 ≠ .cell) (hps : 1 ≤ ps.length) (ar : ∀ vs H Q E, sp vs H Q E → vs.length = ps.length)
    (body : ∀ (cd : Value) (A : Around) (outer : List Env) (s : Shared) (H : Hp) (vs : List V) (Q : VK) (E : XK), Room k (A.deeper (envOfC qual (defScope st) s.heap.objs.size f cd)) → A.guards = some [] → sp vs H Q E →
      ∃ t, PSsT (cxOf CX P w K mg base N qual (defScope st) f cd A outer s H E) (defBody st) t ∧ t { nx := fun _ H' => Q .non H', rt := Q } (start N vs) H) : FnG P w K mg base CX (k + 1) f fd ps sp := by
  obtain ⟨oc, od, kV, doc, pm, an, cd, ct, osl, rfl, lk, hcode⟩ := F.ex
  refine ⟨ar, fun A outer s H args us vs Q E room gd env bind rel hsp => ?_⟩
  have hul : us.length = ps.length := by rw [← rel.length, ar _ _ _ _ hsp]
  have inK : K.In s.heap := env.mod.kin.keeps fun b o e => (env.bs b o e).1
  have noLim : s.heap.NoLimit := env.mod.nolimit.keeps fun b o e => (env.bs b o e).1
  have hloc : ∀ y ∈ ps.zip us, (defScope st).names.lookup y.1 = some .local := by
    rintro ⟨nm, vl⟩ hy
    exact (S.par nm (List.of_mem_zip hy).1).elim id fun q => absurd rfl (hnc _ (PySem.mem_of_lookup q))
  apply codeAny_call_function room.depth (inK _ _ lk) rfl S.co S.gen rfl (PySem.W.codeRec_of inK hcode)
  apply bind
  refine wpAny_newFunctionEnv hnc hloc (fun h1 hns hsb => ?_) S.kind
  have hz : (ps.zip us).length = ps.length := by rw [List.length_zip, hul, Nat.min_self]
  have keep : ∀ b o, s.heap.get? b = some o → h1.get? b = some o := fun b o e => hsb.extBut b o (Nat.ne_of_lt (Heap.lt_size e)) (Heap.get?_push_of_some _ e)
  have hcl : cellsFrom (s.heap.objs.size + 1) (defScope st).names [] = [] := cells_none _ _ _ hnc
  have hkl : ∀ y ∈ ps.zip us, (envOfC qual (defScope st) s.heap.objs.size f cd).kindOf y.1 = some .local := fun y hy => by
    first
    | exact hloc y hy
    | (simp only [Env.kindOf]; exact hloc y hy)
    | (unfold Env.kindOf; rw [if_pos S.kind]; exact hloc y hy)
  have hm : (bindL (envOfC qual (defScope st) s.heap.objs.size f cd).kindOf (ps.zip us) fun _ => none) = fun x => (ps.zip us).reverse.lookup x := by
    funext y
    rw [bindL_loc _ _ hkl y]
    cases (ps.zip us).reverse.lookup y <;> rfl
  have inCall : InCallC s s.heap.objs.size (bindL (envOfC qual (defScope st) s.heap.objs.size f cd).kindOf (ps.zip us) fun _ => none) (cellsFrom (s.heap.objs.size + 1) (defScope st).names [])
      (bindC (envOfC qual (defScope st) s.heap.objs.size f cd).kindOf (ps.zip us) fun _ => none) ({ s with heap := h1, toks := s.toks + (ps.zip us).length } : Shared) := by
    rw [hm, hcl]
    exact ⟨⟨⟨_, _, rfl⟩, hns, keep, Nat.le_refl _⟩, fun n c hc => absurd hc (by simp), .nil, fun n c hc => absurd hc (by simp)⟩
  have henv : newEnv (defScope st) s.heap.objs.size mainGlobals [] (qual ++ ".<locals>.") (some f) cd none builtinsNs = envOfC qual (defScope st) s.heap.objs.size f cd := by
    unfold envOfC
    rw [hcl] <;> rfl
  have hto : 1 ≤ ({ s with heap := h1, toks := s.toks + (ps.zip us).length } : Shared).toks := by
    show 1 ≤ s.toks + (ps.zip us).length
    omega
  show ({ s with heap := h1, toks := s.toks + (ps.zip us).length } : Shared).heap.NoLimit ∧ codeAny (model P w) A (.func (defBody st) (newEnv (defScope st) s.heap.objs.size mainGlobals [] (qual ++ ".<locals>.") (some f) cd none builtinsNs)) _ ({ s with heap := h1, toks := s.toks + (ps.zip us).length } : Shared)
  rw [henv]
  generalize ({ s with heap := h1, toks := s.toks + (ps.zip us).length } : Shared) = s1 at inCall hto ⊢
  refine ⟨noLim.keeps inCall.toInCall.keep, codeAny_func ?_⟩
  obtain ⟨t, ht, hq⟩ := body cd A outer s H vs Q E (room.deeper _) gd hsp
  have I := inv_start (CX := CX) (E := E) S room.hd env (ar _ _ _ _ hsp) rel inCall
  refine wpAny_mono (ht [] s1 _ H _ hto I hq) (fun fl s' hs => ?_) fun _ _ z => z
  match fl, hs with
  | .ret u, ⟨v, _, H', J, rv, q⟩ => exact ⟨v, H', J.os, J.bare, J.base, J.hok, rv, q⟩
  | .next, ⟨_, H', J, q⟩ => exact ⟨V.non, H', J.os, J.bare, J.base, J.hok, rfl, q⟩
  | .brk, ⟨_, _, _, q⟩ => exact q.elim
  | .cont, ⟨_, _, _, q⟩ => exact q.elim
theorem fn_okT {k : Nat} {x qual : Str} {st : Stmt} {f : Addr} {fd : FuncData} {N ps : List Str} {S : ASp} (F : Fun K x qual st f fd) (sc : FnScope N ps (defScope st)) (hn : Ar ps.length S) {as : AS}
    (hb : ∀ (ρ : Ent) (cd : Value) (A : Around) (outer : List Env) (s : Shared) (H : Hp) (E : XK), Room k (A.deeper (envOfC qual (defScope st) s.heap.objs.size f cd)) → A.guards = some [] → ∃ ts, QSsT (cxOf CX0 P w K mg base N qual (defScope st) f cd A outer s H E).nox ρ (defBody st) ts as)
    (hr : ∀ ds M Q, S ds M Q → as (endsOf Q) (slots N.length ds) M) (hps : 1 ≤ ps.length := by decide) (hnc : ∀ y ∈ (defScope st).names, y.2 ≠ .cell := by decide +kernel) : FnG P w K mg base CX0 (k + 1) f fd ps (spA K ps.length S) := by
  refine fnG_ofT F sc hnc hps (fun vs H Q E h => ?_) fun cd A outer s H vs Q E room gd h => ?_
  · obtain ⟨G, M, ds, hl, _⟩ := h; exact hl
  · obtain ⟨G, M, ds, hl, ex, nd, ms, rl, Qa, hS, fin⟩ := h
    obtain ⟨ts, q⟩ := hb ⟨H, G, dom M⟩ cd A outer s H E room gd
    refine ⟨ts, nox_T q.pe, q.rd ⟨H, G, dom M⟩ (L2.start N vs) H G (slots N.length ds) M (endsOf Qa) _ (ok_start ex nd ms rl) (hr ds M Qa hS) ⟨fun σ H' G' Γ' M' k' z => ?_, fun σ H0 H' G' Γ' M' r v k' rr z => ?_, fun _ _ _ _ _ _ z => z.elim, fun _ _ _ _ _ _ z => z.elim⟩⟩
    · exact fin (.dat .non) M' .non H' G' z ⟨k'.st, k'.ex, k'.nd, k'.ms⟩ (by simp only [RetOk, Rep])
    · have post : Post K H G M H' G' M' := ⟨k'.st, k'.ex, k'.nd, k'.ms⟩
      cases r with
      | dat d => exact fin (.dat d) M' v H' G' z post rr
      | tmp c =>
        obtain ⟨p, e, _, hb, hc, hm, _⟩ := rr
        exact fin (.tmp c) M' v H' G' z post ⟨p, e, hb, hc, hm⟩
      | var i =>
        simp only [endsOf, ret] at z
        split at z
        · rename_i c e1
          obtain ⟨p, s1, hb, hm, hc⟩ := k'.own i c e1
          have : v = .ref p := by have := (show (_ : L2.St)[i]? = some (some v) from rr); rw [s1] at this; cases this; rfl
          exact fin (.tmp c) M' v H' G' z post ⟨p, this, hb, hc, hm⟩
        · rename_i d e1
          obtain ⟨v', h1, h2⟩ := k'.dat i d e1
          have : v' = v := by have := (show (_ : L2.St)[i]? = some (some v) from rr); rw [h1] at this; cases this; rfl
          subst this
          exact fin (.dat d) M' _ H' G' z post h2
        · exact z.elim
end
def e_aReplC := @aReplC.eq_def
end Gw

namespace Gw
open PySem PySem.Spec L2 PyProof.Rows
variable {ρ : Ent}
section
variable {X : Cx}
theorem c_notInSg : CmpR X ρ .NotIn (fun x y H Q => ∃ (c : Nat) (z : Str), x = .str ⟨#[c]⟩ ∧ y = .str z ∧ Q (.bl (!decide (c ∈ z.cps.toList))) H) (aInSg not) := ⟨op_notIn_sign, fun B σ H H1 H2 G Γ M rx ry x y Q R k r1 r2 h q => by
  unfold aInSg at h
  split at h
  · rename_i i j
    obtain ⟨c, rfl, h⟩ := h
    exact ⟨c, j, (by have := r1; simp only [RepR, Rep] at this; exact this), (by have := r2; simp only [RepR, Rep] at this; exact this), q _ H G Γ M (.dat (.bl _)) k .refl (by simp only [RepR, Rep]) h⟩
  · exact h.elim⟩
end
end Gw

namespace Gw
open PySem PySem.Spec L2 PyProof.Rows
variable {ρ : Ent}
section
variable {X : Cx} {K : PySem.W.Frag} {a : Expr} {ta : TE} {aa : AE} {pos : Pos}
def strW : D → Str
  | .int i => strN (.int i)
  | .bl b => strN (.bl b)
  | .str x => x
  | _ => ""
def rStrW : List V → Hp → VK → Prop := fun xs H Q => rStrB xs H Q ∨ ∃ x : Str, xs = [.str x] ∧ Q (.str x) H
theorem call_strW : CallR X (.type "str") rStrW := by
  rintro pins s σ H xs us Q I r (h | ⟨x, rfl, q⟩)
  · exact call_strB pins s σ H xs us Q I r h
  · obtain ⟨u, rfl, hu⟩ := vals1 r
    obtain ⟨t, rfl⟩ : ∃ t, u = Value.str x t := hu
    exact PySem.P.str_of_str ⟨.str _, H, I, ⟨_, rfl⟩, q⟩
def aStrW (r : Ret) (Γ : Sl) (M : Mem) (Q : Ret → Sl → Mem → Prop) : Prop := match r with
  | .dat (.int i) => i.natAbs.log2 < 1920 ∧ Q (.dat (.str (strW (.int i)))) Γ M
  | .dat (.bl c) => Q (.dat (.str (strW (.bl c)))) Γ M
  | .dat (.str x) => Q (.dat (.str x)) Γ M
  | _ => False
theorem q_strW {p : Pos} (hm : X.mg "str" = none) (ha : QE X ρ a ta aa) (hg : Gl X "str" := by rfl) (na : starEach [a] X.env = (false, eval a X.env) :: starEach [] X.env := by rfl) :
    QE X ρ (.Call (.Name "str" p) [a] [] pos) (tCB rStrW (tCons ta tNil)) (aCall1 aStrW aa) := q_callT1 call_strW (fun B σ H H1 G Γ M rx x Q R k r1 h q => by
  unfold aStrW at h
  split at h
  · rename_i i
    have e1 : x = .int i := by have := r1; simp only [RepR, Rep] at this; exact this
    exact .inl (.inl ⟨i, by rw [e1], h.1, q _ H G Γ M (.dat (.str _)) k .refl (by simp only [RepR, Rep, strW, strN]) h.2⟩)
  · rename_i c
    have e1 : x = .bl c := by have := r1; simp only [RepR, Rep] at this; exact this
    exact .inl (.inr ⟨c, by rw [e1], q _ H G Γ M (.dat (.str _)) k .refl (by simp only [RepR, Rep, strW, strN]) h⟩)
  · rename_i c
    have e1 : x = .str c := by have := r1; simp only [RepR, Rep] at this; exact this
    exact .inr ⟨c, by rw [e1], q _ H G Γ M (.dat (.str _)) k .refl (by simp only [RepR, Rep]) h⟩
  · exact h.elim) hm ha hg (na := na)
end
def e_aStrW := @aStrW.eq_def
end Gw

namespace Gw
open PySem L2 PyProof.Rows
variable {ρ : Ent}
def tk (M0 : Mem) (Q : Ret → Mem → Prop) (r : Ret) (M : Mem) : Prop := ∃ p c M', r = .dat (.ref p) ∧ List.Sublist ((p, c) :: M') M ∧ p ∉ dom M0 ∧ Q (.tmp c) M'
theorem tk_head {M0 : Mem} {Q : Ret → Mem → Prop} {p : Addr} {c : Cell} {M : Mem} (hp : p ∉ dom M0) (h : Q (.tmp c) M) : tk M0 Q (.dat (.ref p)) ((p, c) :: M) := ⟨p, c, M, rfl, .refl _, hp, h⟩
section
variable {P : Program} {w : World} {K : PySem.W.Frag} {mg : Str → Option Value} {base : Heap}
theorem fn_okK {k : Nat} {x qual : Str} {st : Stmt} {f : Addr} {fd : FuncData} {N ps : List Str} {S : ASp} (F : Fun K x qual st f fd) (sc : FnScope N ps (defScope st)) (hn : Ar ps.length S) {as : AS}
    (hb : ∀ (ρ : Ent) (cd : Value) (A : Around) (outer : List Env) (s : Shared) (H : Hp) (E : XK), Room k (A.deeper (envOfC qual (defScope st) s.heap.objs.size f cd)) → A.guards = some [] → ∃ ts, QSs (cxOf CX0 P w K mg base N qual (defScope st) f cd A outer s H E).nox ρ (defBody st) ts as)
    (hr : ∀ ds M Q, S ds M Q → as (endsOf (tk M Q)) (slots N.length ds) M) : FnG P w K mg base CX0 (k + 1) f fd ps (spA K ps.length S) := by
  have F0 := fn_ok (S := fun ds M Q' => ∃ Q, S ds M Q ∧ Q' = tk M Q) F sc (fun ds M Q' ⟨Q, h, _⟩ => hn ds M Q h) hb (fun ds M Q' ⟨Q, h, e⟩ => by rw [e]; exact hr ds M Q h)
  refine F0.weaken ?_
  rintro vs H Q E ⟨G, M, ds, hl, ex, nd, ms, rl, Qa, hS, fin⟩
  refine ⟨G, M, ds, hl, ex, nd, ms, rl, tk M Qa, ⟨Qa, hS, rfl⟩, ?_⟩
  rintro r M' v H' G' ⟨p, c, M2, rfl, hs, hp, hq⟩ po ro
  have ev : v = .ref p := by have := (show Rep K G' (.ref p) v from ro); rwa [Rep] at this
  have po2 := po.sub hs
  obtain ⟨st, ex2, nd2, ms2⟩ := po2
  have hm : p ∈ dom ((p, c) :: M2) := List.mem_cons_self
  have nn : H p = none := (st.mn p hm).resolve_left hp
  have nd3 : p ∉ dom M2 := by
    have := nd2
    rw [dom, List.map_cons, List.nodup_cons] at this
    exact this.1
  exact fin (.tmp c) M2 v H' G' hq (po.sub ((List.sublist_cons_self _ _).trans hs)) ⟨p, ev, nn, ms2 p c List.mem_cons_self, nd3⟩
end
end Gw

namespace Law
open PySem L2 Gw
def HP (P : Mem) (a : Addr) (g s : Int) (M : Mem) : Mem := P ++ (a, .lst [.int g, .int s]) :: M
structure HOk (g s : Int) : Prop where
  s0 : 0 ≤ s
  s1 : s < 2305843009213693951
structure HA (P : Mem) (a : Addr) (M : Mem) : Prop where
  p : a ∉ dom P
  m : a ∉ dom M
def S__law_hand : ASp := fun ds M Q => ∃ (ns : List Int) (k : Int), ds = [.scr (ns.map .int), .int k] ∧ 0 ≤ k ∧ k ≤ 100 ∧ ∀ a g s, a ∉ dom M → HOk g s → Q (.dat (.ref a)) (HP [] a g s M)
def S__law_take : ASp := fun ds M Q => ∃ P a g s M0 m, ds = [.ref a, .int m] ∧ M = HP P a g s M0 ∧ HA P a M0 ∧ HOk g s ∧ 0 < m ∧ m ≤ 10 ^ 40 ∧ ∀ d g' s', 0 ≤ d → d < m → HOk g' s' → Q (.dat (.int d)) (HP P a g' s' M0)
def S__law_pick : ASp := fun ds M Q => ∃ P a g s M0 xs, ds = [.ref a, .lst xs] ∧ M = HP P a g s M0 ∧ HA P a M0 ∧ HOk g s ∧ 0 < xs.length ∧ xs.length ≤ 16000 ∧ ∀ d g' s', d ∈ xs → HOk g' s' → Q (.dat d) (HP P a g' s' M0)
theorem ar__law_hand : Ar 2 S__law_hand := fun _ _ _ ⟨_, _, e, _⟩ => by rw [e]; rfl
theorem ar__law_take : Ar 2 S__law_take := fun _ _ _ ⟨_, _, _, _, _, _, e, _⟩ => by rw [e]; rfl
theorem ar__law_pick : Ar 2 S__law_pick := fun _ _ _ ⟨_, _, _, _, _, _, e, _⟩ => by rw [e]; rfl

def FORMS : List (Str × Str) := [("not", "n"), ("half", "n"), ("turn", "jn"), ("phase", "j"), ("flip", "nn"), ("cross", "nn"), ("under", "nd"), ("back", "d"), ("times", "td"), ("borrow", "nd"), ("around", "dd"), ("call", "nw"), ("look", "nn"), ("when", "nd")]
def formsD : D := .dct (FORMS.map fun q => .inr q.1) (FORMS.map fun q => .str q.2)
def chs (s : Str) : List Str := s.cps.toList.map fun c => ⟨#[c]⟩
mutual
/-- fit to be looked at: no names of cells, rows not too long -/
def sane : D → Bool
  | .tup ds => decide (ds.length ≤ 10000) && saneL ds
  | .non => true
  | .bl _ => true
  | .int _ => true
  | .str x => decide (x.length ≤ 1000)
  | .lst _ => true
  | .dct _ _ => true
  | .scr _ => true
  | .ref _ => false
  | .exc _ _ _ => false
  | .dcT _ _ => false
  | .dcN _ _ => false
def saneL : List D → Bool
  | [] => true
  | d :: ds => sane d && saneL ds
end
def WRDS : List Str := ["not", "half", "turn", "phase", "flip", "cross", "under", "back", "borrow", "around", "call", "times", "look", "when", "wires", "body", "end", "with"]
def nameB (x : Str) : Bool := decide (1 ≤ x.length) && (decide (x.length ≤ 8) && (!decide (x ∈ WRDS) && x.cps.toList.all fun c => decide (97 ≤ c) && decide (c ≤ 122)))
def isName : D → Bool
  | .str x => nameB x
  | _ => false
def areN : D → Int → Int → Bool
  | .tup ds, lo, hi => decide (lo ≤ ds.length) && (decide ((ds.length : Int) ≤ hi) && ds.all isName)
  | _, _, _ => false
def unl (xs : List Str) : Bool := decide ((once [] xs).length = xs.length)
def txtOf : D → Str
  | .str x => x
  | _ => ""
def nmOf : D → Str
  | .tup (a :: _) => txtOf a
  | _ => ""
def S_is_name : ASp := fun ds M Q => ∃ d, ds = [d] ∧ sane d = true ∧ Q (.dat (.bl (isName d))) M
def S_are_names : ASp := fun ds M Q => ∃ d lo hi, ds = [d, .int lo, .int hi] ∧ sane d = true ∧ hi ≤ 100 ∧ Q (.dat (.bl (areN d lo hi))) M
def S_are_unlike : ASp := fun ds M Q => ∃ xs : List Str, (ds = [.tup (xs.map .str)] ∨ ds = [.lst (xs.map .str)]) ∧ xs.length ≤ 100 ∧ Q (.dat (.bl (unl xs))) M
def S__law_forms : ASp := fun ds M Q => ds = [] ∧ Q (.dat formsD) M
theorem ar_is_name : Ar 1 S_is_name := fun _ _ _ ⟨_, e, _⟩ => by rw [e]; rfl
theorem ar_are_names : Ar 3 S_are_names := fun _ _ _ ⟨_, _, _, e, _⟩ => by rw [e]; rfl
theorem ar_are_unlike : Ar 1 S_are_unlike := fun _ _ _ ⟨_, e, _⟩ => by rcases e with e | e <;> rw [e] <;> rfl
theorem ar__law_forms : Ar 0 S__law_forms := fun _ _ _ ⟨e, _⟩ => by rw [e]; rfl
def NAMES : List Str := ["a", "b", "q", "ends", "nota", "zzzzzzzz", "f", "m"]
def AtomP (p : D) : Prop := (∃ x ∈ NAMES, p = .str x) ∨ (∃ i : Int, 0 ≤ i ∧ i ≤ 9 ∧ p = .int i) ∨ ∃ xs : List Str, xs.length ≤ 5 ∧ (∀ x ∈ xs, x ∈ NAMES) ∧ p = .tup (xs.map .str)
def DsP (P : D → Nat → Prop) (ds : List D) (c : Nat) : Prop := ∃ qs : List (D × Nat), ds = qs.map (·.1) ∧ (∀ q ∈ qs, P q.1 q.2) ∧ c = (qs.map (·.2)).sum
def PartC (P : D → Nat → Prop) (ch : Str) (p : D) (k : Nat) : Prop := (ch = "d" ∧ ∃ ds, p = .tup ds ∧ ds.length ≤ 4 ∧ DsP P ds k) ∨ (ch ≠ "d" ∧ k = 0 ∧ AtomP p)
def DeedC : Nat → D → Nat → Prop
  | 0, _, _ => False
  | n + 1, d, c => ∃ (w s : Str) (rs : List (Str × D × Nat)), d = .tup (.str w :: rs.map (·.2.1)) ∧ lookD FORMS w = some s ∧ sgD s = rs.map (fun r => .str r.1) ∧ (∀ r ∈ rs, PartC (DeedC n) r.1 r.2.1 r.2.2) ∧ c = 1 + (rs.map (·.2.2)).sum
abbrev DsC (n : Nat) : List D → Nat → Prop := DsP (DeedC n)
structure Pg where
  ws : List D
  bo : List (D × D × List D)
  ds : List D
def lsP (g : Pg) : List (List D) := g.bo.map (·.2.2) ++ [g.ds]
structure PgOk (g : Pg) : Prop where
  bo : g.bo.length ≤ 8
  cs : ∃ cs : List Nat, Paired (DsC 6) (lsP g) cs ∧ cs.sum ≤ 60
def UNLK : List Str := ["a", "b", "c", "q", "ends", "nota", "withx", "zzzzzzzz", "bodyb", "ha", "t"]
structure PgN (g : Pg) : Prop where
  ws : ∃ ws : List Str, g.ws = ws.map .str ∧ ws.length ≤ 8 ∧ ∀ w ∈ ws, w ∈ UNLK
  bo : ∀ b ∈ g.bo, (∃ n ∈ UNLK, b.1 = .str n) ∧ ∃ ws : List Str, b.2.1 = .tup (ws.map .str) ∧ ws.length ≤ 8 ∧ ∀ w ∈ ws, w ∈ UNLK
  ds : g.ds.length ≤ 12
  bs : ∀ b ∈ g.bo, b.2.2.length ≤ 4
def potD (left : Int) : Cell := .dct [.inr "left", .inr "names"] [.int left, .lst (NAMES.map .str)]
def PM (p : Addr) (l : Int) (a : Addr) (g s : Int) (M : Mem) : Mem := HP [(p, potD l)] a g s M
def S__law_name : ASp := fun ds M Q => ∃ (a p : Addr) (l g s : Int) (M0 : Mem), ds = [.ref a, .ref p] ∧ M = PM p l a g s M0 ∧ HA [(p, potD l)] a M0 ∧ HOk g s ∧ ∀ x g' s', x ∈ NAMES → HOk g' s' → Q (.dat (.str x)) (PM p l a g' s' M0)
theorem ar__law_name : Ar 2 S__law_name := fun _ _ _ ⟨_, _, _, _, _, _, e, _⟩ => by rw [e]; rfl/-! ### programs, written out: what a deed is -/
def GoodP (ch : Str) (p : D) : Prop :=
  (ch = "n" ∧ ∃ x, nameB x = true ∧ p = .str x) ∨ (ch = "j" ∧ ∃ i : Int, 1 ≤ i ∧ i ≤ 7 ∧ p = .int i) ∨ (ch = "t" ∧ ∃ i : Int, 0 ≤ i ∧ i ≤ 9 ∧ p = .int i) ∨
  (ch = "w" ∧ ∃ xs : List Str, 1 ≤ xs.length ∧ xs.length ≤ 5 ∧ (∀ x ∈ xs, nameB x = true) ∧ p = .tup (xs.map .str))
def PartG (P : D → Nat → Prop) (ch : Str) (p : D) (k : Nat) : Prop := (ch = "d" ∧ ∃ ds, p = .tup ds ∧ ds.length ≤ 4 ∧ DsP P ds k) ∨ (ch ≠ "d" ∧ k = 0 ∧ GoodP ch p)
def DeedG : Nat → D → Nat → Prop
  | 0, _, _ => False
  | n + 1, d, c => ∃ (w s : Str) (rs : List (Str × D × Nat)), d = .tup (.str w :: rs.map (·.2.1)) ∧ lookD FORMS w = some s ∧ chs s = rs.map (·.1) ∧ (∀ r ∈ rs, PartG (DeedG n) r.1 r.2.1 r.2.2) ∧ c = 1 + (rs.map (·.2.2)).sum
abbrev DsG (n : Nat) : List D → Nat → Prop := DsP (DeedG n)
abbrev Row := Str × Option (List Int)
def plD : Option (List Int) → D
  | none => .non
  | some p => .tup (p.map .int)
def rwD (r : Row) : D := .tup [.str r.1, plD r.2]
def namesOf : D → List Str
  | .tup ds => ds.map txtOf
  | _ => []
def dsOf2 : D → List D
  | .tup ds => ds
  | _ => []
def wordsP (q : Str × D) : List Str := if q.1 = "w" then namesOf q.2 else if q.1 = "d" then [] else [strW q.2]
def zsD : D → List (Str × D)
  | .tup (.str w :: ps) => match lookD FORMS w with
    | some s => (chs s).zip ps
    | none => []
  | _ => []
def wdD : D → Str
  | .tup (.str w :: _) => w
  | _ => ""
def headWs (d : D) : List Str := wdD d :: ((zsD d).map wordsP).flatten
def headD (d : D) : Str := Txt.join " " (headWs d)
def lotsD (d : D) : List (List D) := ((zsD d).filter fun q => decide (q.1 = ("d" : Str))).map fun q => dsOf2 q.2
def rowsLs (f : D → List Int → List Row) (pl : List Int) : Int → List D → List Row
  | _, [] => []
  | k, d :: ds => f d (pl ++ [k]) ++ rowsLs f pl (k + 1) ds
def withR (j : Nat) : List Row := if 0 < j then [("with", none)] else []
def lotsR (f : D → List Int → List Row) (pl : List Int) : Nat → Int → List (List D) → List Row
  | _, _, [] => []
  | j, b, l :: ls => withR j ++ rowsLs f pl b l ++ lotsR f pl (j + 1) (b + l.length) ls
def endR (ls : List (List D)) : List Row := if ls = [] then [] else [("end", none)]
def rowsF : Nat → D → List Int → List Row
  | 0, _, _ => []
  | v + 1, d, pl => (headD d, some pl) :: (lotsR (rowsF v) pl 0 0 (lotsD d) ++ endR (lotsD d))
structure Bo where
  n : Str
  ws : List Str
  ds : List D
structure Pr where
  ws : List Str
  bo : List Bo
  ds : List D
def boG (b : Bo) : D := .tup [.str b.n, .tup (b.ws.map .str), .tup b.ds]
def prG (g : Pr) : D := .tup [.tup (g.ws.map .str), .tup (g.bo.map boG), .tup g.ds]
def NsG (ws : List Str) : Prop := 1 ≤ ws.length ∧ ws.length ≤ 5 ∧ (∀ w ∈ ws, nameB w = true) ∧ ws.Nodup
structure PrOk (g : Pr) : Prop where
  ws : NsG g.ws
  bl : g.bo.length ≤ 8
  bn : (g.bo.map (·.n)).Nodup
  bo : ∀ b ∈ g.bo, nameB b.n = true ∧ NsG b.ws
  cs : ∃ cs : List Nat, Paired (DsG 6) (g.bo.map (·.ds) ++ [g.ds]) cs ∧ cs.sum ≤ 60
def rowsB : Int → List Bo → List Row
  | _, [] => []
  | k, b :: bs => (Txt.join " " ("body" :: b.n :: b.ws), none) :: (rowsLs (rowsF 6) [k] 0 b.ds ++ [(("end", none) : Row)]) ++ rowsB (k + 1) bs
def rowsG (g : Pr) : List Row := (Txt.join " " ("wires" :: g.ws), none) :: rowsB 0 g.bo ++ rowsLs (rowsF 6) [(g.bo.length : Int)] 0 g.ds
def showG (g : Pr) : Str := Txt.join "\n" ((rowsG g).map (·.1))
def linesF : Int → List Row → List D
  | _, [] => []
  | k, (_, none) :: rs => linesF (k + 1) rs
  | k, (_, some p) :: rs => .tup [.int k, .tup (p.map .int)] :: linesF (k + 1) rs
def linesG (g : Pr) : List D := linesF 0 (rowsG g)
def S_head_of : ASp := fun ds M Q => ∃ d n c, ds = [d] ∧ DeedG n d c ∧ Q (.dat (.str (headD d))) M
def R_rows_of_deed : Nat → ASp := fun n ds M Q => ∃ (d : D) (pl : List Int) (v c : Nat), ds = [d, .tup (pl.map .int)] ∧ DeedG v d c ∧ c ≤ 60 ∧ pl.length + v ≤ 100 ∧ 2 * v ≤ n ∧ Q (.tmp (.lst ((rowsF v d pl).map rwD))) M
def R_rows_of_deeds : Nat → ASp := fun n ds M Q => ∃ (es : List D) (pl : List Int) (b : Int) (v c : Nat), ds = [.tup es, .tup (pl.map .int), .int b] ∧ DsG v es c ∧ c ≤ 60 ∧ 0 ≤ b ∧ b ≤ 1000 ∧ pl.length + v ≤ 99 ∧ 2 * v + 1 ≤ n ∧ Q (.tmp (.lst ((rowsLs (rowsF v) pl b es).map rwD))) M
def S_rows_of_deed : ASp := R_rows_of_deed 13
def S_rows_of_deeds : ASp := R_rows_of_deeds 13
def S_rows_shown : ASp := fun ds M Q => ∃ g, ds = [prG g] ∧ PrOk g ∧ Q (.tmp (.lst ((rowsG g).map rwD))) M
def S_show : ASp := fun ds M Q => ∃ g, ds = [prG g] ∧ PrOk g ∧ Q (.dat (.str (showG g))) M
def S_lines_of : ASp := fun ds M Q => ∃ g, ds = [prG g] ∧ PrOk g ∧ Q (.dat (.tup (linesG g))) M
theorem ar_head_of : Ar 1 S_head_of := fun _ _ _ ⟨_, _, _, e, _⟩ => by rw [e]; rfl
theorem arR_rows_of_deed (n : Nat) : Ar 2 (R_rows_of_deed n) := fun _ _ _ ⟨_, _, _, _, e, _⟩ => by rw [e]; rfl
theorem arR_rows_of_deeds (n : Nat) : Ar 3 (R_rows_of_deeds n) := fun _ _ _ ⟨_, _, _, _, _, e, _⟩ => by rw [e]; rfl
theorem ar_rows_of_deed : Ar 2 S_rows_of_deed := arR_rows_of_deed 13
theorem ar_rows_of_deeds : Ar 3 S_rows_of_deeds := arR_rows_of_deeds 13
theorem no_rows_of_deed : ∀ ds M Q, ¬ R_rows_of_deed 0 ds M Q := fun _ _ _ ⟨_, _, v, _, _, h, _, _, l, _⟩ => by
  obtain rfl : v = 0 := by omega
  exact h
theorem no_rows_of_deeds : ∀ ds M Q, ¬ R_rows_of_deeds 0 ds M Q := fun _ _ _ ⟨_, _, _, _, _, _, _, _, _, _, _, l, _⟩ => by omega
theorem ar_rows_shown : Ar 1 S_rows_shown := fun _ _ _ ⟨_, e, _⟩ => by rw [e]; rfl
theorem ar_show : Ar 1 S_show := fun _ _ _ ⟨_, e, _⟩ => by rw [e]; rfl
theorem ar_lines_of : Ar 1 S_lines_of := fun _ _ _ ⟨_, e, _⟩ => by rw [e]; rfl
def figV (x : Str) : Option Int := match x.cps.toList with
  | [c] => if 48 ≤ c ∧ c ≤ 57 then some ((c : Int) - 48) else none
  | _ => none
def partW (ch x : Str) : D := if ch = "n" then (if nameB x then .str x else .non) else match figV x with
  | none => .non
  | some k => if ch = "t" ∨ (1 ≤ k ∧ k ≤ 7) then .int k else .non
def noneIn (ds : List D) : Bool := ds.any fun d => match d with
  | .non => true
  | _ => false
def headPs : List Str → D
  | [] => .non
  | w :: os => match lookD FORMS w with
    | none => .non
    | some s => if w = "call" then (match os with
        | [] => .non
        | a :: r => if nameB a = true ∧ 1 ≤ r.length ∧ r.length ≤ 5 ∧ r.all nameB = true then .tup [.str a, .tup (r.map .str)] else .non)
      else if os.length = ((chs s).filter fun c => !decide (c = ("d" : Str))).length then
        (if noneIn <| List.zipWith partW ((chs s).filter fun c => !decide (c = ("d" : Str))) os then .non else .tup (List.zipWith partW ((chs s).filter fun c => !decide (c = ("d" : Str))) os))
      else .non
def S_part_of_word : ASp := fun ds M Q => ∃ ch x, ds = [.str ch, .str x] ∧ x.length ≤ 1000 ∧ Q (.dat (partW ch x)) M
def S_head_parts : ASp := fun ds M Q => ∃ ws : List Str, ds = [.lst (ws.map .str)] ∧ ws ≠ [] ∧ ws.length ≤ 1000 ∧ (∀ w ∈ ws, w.length ≤ 1000) ∧ Q (.dat (headPs ws)) M
theorem ar_part_of_word : Ar 2 S_part_of_word := fun _ _ _ ⟨_, _, e, _⟩ => by rw [e]; rfl
theorem ar_head_parts : Ar 1 S_head_parts := fun _ _ _ ⟨_, e, _⟩ => by rw [e]; rfl
structure Own (C : Mem) (M0 M : Mem) : Prop where
  ex : ∃ N, M = N ++ M0
  at_ : ∀ q ∈ C, M.lookup q.1 = some q.2
  nd : (C.map (·.1)).Nodup
  no : ∀ q ∈ C, q.1 ∉ dom M0
structure FA where
  x : Addr
  y : Addr
  w : Str
  ps : List D
  zs : List (Addr × List D)
structure LA where
  a : Addr
  b : Addr
  o : Addr
  f : Addr
  wi : Option (List Str)
  bo : List D
  own : List D
  fs : List FA
  many : Int
def oF : List Str := ["word", "parts", "lots"]
def lF : List Str := ["wires", "bodies", "own_deeds", "opened", "many"]
def wiD : Option (List Str) → D
  | none => .non
  | some ws => .tup (ws.map .str)
def cellF (F : FA) : Mem := (F.x, .ins "Opened" oF [.str F.w, .tup F.ps, .ref F.y]) :: (F.y, .lst (F.zs.map fun z => .ref z.1)) :: F.zs.map fun z => (z.1, .lst z.2)
def cellA (L : LA) : Addr × Cell := (L.a, .ins "Lines" lF [wiD L.wi, .ref L.b, .ref L.o, .ref L.f, .int L.many])
def cells (L : LA) : Mem := cellA L :: (L.b, .lst L.bo) :: (L.o, .lst L.own) :: (L.f, .lst (L.fs.map fun F => .ref F.x)) :: (L.fs.map cellF).flatten
structure Fr where
  w : Str
  ps : List D
  ls : List (List D)
structure St where
  wi : Option (List Str)
  bo : List D
  own : List D
  fr : List Fr
  many : Int
def onLast {α : Type} (f : α → α) : List α → List α
  | [] => []
  | [x] => [f x]
  | x :: y :: r => x :: onLast f (y :: r)
def putFr (d : D) (F : Fr) : Fr := { F with ls := onLast (fun l => l ++ [d]) F.ls }
def putG (d : D) (s : St) : St := if s.fr = [] then { s with own := s.own ++ [d] } else { s with fr := onLast (putFr d) s.fr }
def areNs (ws : List Str) : Bool := areN (.tup (ws.map .str)) 1 5
def stepW (s : St) (ws : List Str) : Option St := if areNs ws = true ∧ unl ws = true then some { s with wi := some ws } else none
def stepB (s : St) : List Str → Option St
  | [] => none
  | n :: own => if s.fr = [] ∧ s.own = [] ∧ s.bo.length ≠ 8 ∧ nameB n = true ∧ n ∉ s.bo.map nmOf ∧ areNs own = true ∧ unl own = true then some { s with fr := s.fr ++ [⟨"body", [.str n, .tup (own.map .str)], [[]]⟩] } else none
def toldG (F : Fr) : List D := F.ps ++ F.ls.map .tup
def stepT (s : St) (w : Str) : Option St := match s.fr.getLast? with
  | none => none
  | some F =>
    if w = "with" then (if F.w = "around" ∧ F.ls.length = 1 then some { s with fr := onLast (fun F => { F with ls := F.ls ++ [[]] }) s.fr } else none)
    else if F.w = "around" ∧ F.ls.length = 1 then none
    else if F.w = "body" then some { s with fr := s.fr.dropLast, bo := s.bo ++ [.tup (toldG F)] }
    else some (putG (.tup (.str F.w :: toldG F)) { s with fr := s.fr.dropLast })
def deepG (s : St) : Nat := (s.fr.filter fun F => !decide (F.w = ("body" : Str))).length + 1
def hasD (w : Str) : Bool := match lookD FORMS w with
  | some s => decide ((100 : Nat) ∈ s.cps.toList)
  | none => false
def stepD (s : St) (ws : List Str) : Option St := match ws, headPs ws with
  | w :: _, .tup ps => if deepG s ≤ 6 ∧ s.many + 1 ≤ 60 then (if hasD w = true then some { s with fr := s.fr ++ [⟨w, ps, [[]]⟩], many := s.many + 1 } else some (putG (.tup (.str w :: ps)) { s with many := s.many + 1 })) else none
  | _, _ => none
def stepL (s : St) (line : Str) : Option St := match Txt.split line " " with
  | [] => none
  | first :: others => match s.wi with
    | none => if first = "wires" then stepW s others else none
    | some _ => if first = "body" then stepB s others
      else if first = "end" ∨ first = "with" then (if others = [] then stepT s first else none)
      else stepD s (first :: others)
def runL : St → List Str → Option St
  | s, [] => some s
  | s, r :: rs => match stepL s r with
    | some s' => runL s' rs
    | none => none
def st0 : St := ⟨none, [], [], [], 0⟩
def doneG (s : St) : D := .tup [wiD s.wi, .tup s.bo, .tup s.own]
def readG (text : Str) : Option D := match runL st0 (Txt.split text "\n") with
  | some s => if s.fr = [] then some (doneG s) else none
  | none => none
def frO (F : FA) : Fr := ⟨F.w, F.ps, F.zs.map (·.2)⟩
def stO (L : LA) : St := ⟨L.wi, L.bo, L.own, L.fs.map frO, L.many⟩
structure FOk (k : Nat) (F : FA) : Prop where
  ne : F.zs ≠ []
  zl : F.zs.length ≤ k
  ps : F.ps.length ≤ k + 2
  ls : ∀ z ∈ F.zs, z.2.length ≤ k
  nm : F.w = "body" → ∃ n r, F.ps = .str n :: r
structure LOk (k : Nat) (L : LA) : Prop where
  bl : L.bo.length ≤ k
  ol : L.own.length ≤ k
  fl : L.fs.length ≤ k
  m0 : 0 ≤ L.many
  mn : L.many ≤ 60
  bo : ∀ b ∈ L.bo, ∃ n r, b = .tup (.str n :: r)
  fs : ∀ F ∈ L.fs, FOk k F
def LnOk (line : Str) : Prop := line.length ≤ 10000 ∧ (Txt.split line " ").length ≤ 100 ∧ ∀ w ∈ Txt.split line " ", w.length ≤ 1000
def Ans (L : LA) (k : Nat) (M0 : Mem) (r : Option St) (Q : Ret → Mem → Prop) : Prop :=
  (∀ s L' M', r = some s → stO L' = s → L'.a = L.a → LOk (k + 1) L' → Own (cells L') M0 M' → Q (.dat (.bl true)) M') ∧ (r = none → ∀ N, Q (.dat (.bl false)) (N ++ M0))
def S_Opened___init__ : ASp := fun ds M Q => ∃ (x : Addr) (w : Str) (ps : List D) (M0 : Mem), ds = [.ref x, .str w, .tup ps] ∧ M = (x, .ins "Opened" [] []) :: M0 ∧ x ∉ dom M0 ∧ ∀ y z, y ∉ dom M0 → z ∉ dom M0 → x ≠ y → x ≠ z → y ≠ z →
  Q (.dat .non) ((y, .lst [.ref z]) :: (z, .lst []) :: (x, .ins "Opened" oF [.str w, .tup ps, .ref y]) :: M0)
def S_Opened_wants_with : ASp := fun ds M Q => ∃ (x y : Addr) (w : Str) (ps zs : List D), ds = [.ref x] ∧ M.lookup x = some (.ins "Opened" oF [.str w, .tup ps, .ref y]) ∧ M.lookup y = some (.lst zs) ∧ zs.length ≤ 10000 ∧ Q (.dat (.bl (decide (w = "around") && decide (zs.length = 1)))) M
def S_Lines___init__ : ASp := fun ds M Q => ∃ (a : Addr) (M0 : Mem), ds = [.ref a] ∧ M = (a, .ins "Lines" [] []) :: M0 ∧ a ∉ dom M0 ∧ ∀ L M', stO L = st0 → L.a = a → Own (cells L) M0 M' → Q (.dat .non) M'
def S_Lines_put : ASp := fun ds M Q => ∃ (L : LA) (k : Nat) (M0 : Mem) (d : D), ds = [.ref L.a, d] ∧ k ≤ 2000 ∧ LOk k L ∧ Own (cells L) M0 M ∧ ∀ L' M', stO L' = putG d (stO L) → L'.a = L.a → LOk (k + 1) L' → Own (cells L') M0 M' → Q (.dat .non) M'
def S_Lines_takes_wires : ASp := fun ds M Q => ∃ (L : LA) (k : Nat) (M0 : Mem) (ws : List Str), ds = [.ref L.a, .tup (ws.map .str)] ∧ k ≤ 2000 ∧ LOk k L ∧ Own (cells L) M0 M ∧ ws.length ≤ 100 ∧ (∀ w ∈ ws, w.length ≤ 1000) ∧ Ans L k M0 (stepW (stO L) ws) Q
def S_Lines_takes_body : ASp := fun ds M Q => ∃ (L : LA) (k : Nat) (M0 : Mem) (ws : List Str), ds = [.ref L.a, .lst (ws.map .str)] ∧ 1 ≤ k ∧ k ≤ 2000 ∧ LOk k L ∧ Own (cells L) M0 M ∧ ws.length ≤ 100 ∧ (∀ w ∈ ws, w.length ≤ 1000) ∧ Ans L k M0 (stepB (stO L) ws) Q
def S_Lines_takes_turn : ASp := fun ds M Q => ∃ (L : LA) (k : Nat) (M0 : Mem) (w : Str), ds = [.ref L.a, .str w] ∧ (w = "end" ∨ w = "with") ∧ k ≤ 2000 ∧ LOk k L ∧ L.fs ≠ [] ∧ Own (cells L) M0 M ∧ Ans L k M0 (stepT (stO L) w) Q
def S_Lines_takes_deed : ASp := fun ds M Q => ∃ (L : LA) (k : Nat) (M0 : Mem) (ws : List Str), ds = [.ref L.a, .lst (ws.map .str)] ∧ 1 ≤ k ∧ k ≤ 2000 ∧ LOk k L ∧ Own (cells L) M0 M ∧ ws ≠ [] ∧ ws.length ≤ 100 ∧ (∀ w ∈ ws, w.length ≤ 1000) ∧ Ans L k M0 (stepD (stO L) ws) Q
def S_Lines_takes_line : ASp := fun ds M Q => ∃ (L : LA) (k : Nat) (M0 : Mem) (line : Str), ds = [.ref L.a, .str line] ∧ 1 ≤ k ∧ k ≤ 2000 ∧ LOk k L ∧ Own (cells L) M0 M ∧ LnOk line ∧ Ans L k M0 (stepL (stO L) line) Q
def S_read : ASx := fun ds M Q Z => ∃ (text : Str) (d : D), ds = [.str text] ∧ text.length ≤ 1000000 ∧ (Txt.split text "\n").length ≤ 1900 ∧ (∀ r ∈ Txt.split text "\n", LnOk r) ∧ readG text = some d ∧ Q (.dat d) M
theorem ar_Opened___init__ : Ar 3 S_Opened___init__ := fun _ _ _ ⟨_, _, _, _, e, _⟩ => by rw [e]; rfl
theorem ar_Opened_wants_with : Ar 1 S_Opened_wants_with := fun _ _ _ ⟨_, _, _, _, _, e, _⟩ => by rw [e]; rfl
theorem ar_Lines___init__ : Ar 1 S_Lines___init__ := fun _ _ _ ⟨_, _, e, _⟩ => by rw [e]; rfl
theorem ar_Lines_put : Ar 2 S_Lines_put := fun _ _ _ ⟨_, _, _, _, e, _⟩ => by rw [e]; rfl
theorem ar_Lines_takes_wires : Ar 2 S_Lines_takes_wires := fun _ _ _ ⟨_, _, _, _, e, _⟩ => by rw [e]; rfl
theorem ar_Lines_takes_body : Ar 2 S_Lines_takes_body := fun _ _ _ ⟨_, _, _, _, e, _⟩ => by rw [e]; rfl
theorem ar_Lines_takes_turn : Ar 2 S_Lines_takes_turn := fun _ _ _ ⟨_, _, _, _, e, _⟩ => by rw [e]; rfl
theorem ar_Lines_takes_deed : Ar 2 S_Lines_takes_deed := fun _ _ _ ⟨_, _, _, _, e, _⟩ => by rw [e]; rfl
theorem ar_Lines_takes_line : Ar 2 S_Lines_takes_line := fun _ _ _ ⟨_, _, _, _, e, _⟩ => by rw [e]; rfl
theorem arX_read : ArX 1 S_read := fun _ _ _ _ ⟨_, _, e, _⟩ => by rw [e]; rfl
def R__law_deed : Nat → ASp := fun n ds M Q => ∃ (a p : Addr) (g s : Int) (M0 : Mem) (l v : Nat), ds = [.ref a, .ref p, .int v] ∧ M = PM p l a g s M0 ∧ HA [(p, potD l)] a M0 ∧ p ∉ dom M0 ∧ HOk g s ∧ 0 < l ∧ l ≤ 60 ∧ v ≤ 5 ∧ 2 * v + 1 ≤ n ∧
  ∀ d c (l' : Nat) g' s', DeedG (v + 1) d c → c + l' = l → HOk g' s' → Q (.dat d) (PM p l' a g' s' M0)
def R__law_deeds : Nat → ASp := fun n ds M Q => ∃ (a p : Addr) (g s : Int) (M0 : Mem) (l v : Nat), ds = [.ref a, .ref p, .int v] ∧ M = PM p l a g s M0 ∧ HA [(p, potD l)] a M0 ∧ p ∉ dom M0 ∧ HOk g s ∧ l ≤ 60 ∧ v ≤ 5 ∧ 2 * v + 2 ≤ n ∧
  ∀ es c (l' : Nat) g' s', es.length ≤ 4 → DsG (v + 1) es c → c + l' = l → HOk g' s' → Q (.dat (.tup es)) (PM p l' a g' s' M0)
def S__law_deed : ASp := R__law_deed 12
def S__law_deeds : ASp := R__law_deeds 13
def S__law_unlike : ASp := fun ds M Q => ∃ (P : Mem) (a : Addr) (g s : Int) (M0 : Mem) (m : Nat), ds = [.ref a, .int m] ∧ M = HP P a g s M0 ∧ HA P a M0 ∧ HOk g s ∧ m ≤ 8 ∧ ∀ (ws : List Str) g' s', ws.length = m → ws.Nodup → (∀ w ∈ ws, w ∈ UNLK) → HOk g' s' → Q (.dat (.tup (ws.map .str))) (HP P a g' s' M0)
def S__law_formed : ASp := fun ds M Q => ∃ (a : Addr) (g s : Int) (M0 : Mem) (n : Nat), ds = [.ref a, .int n] ∧ M = HP [] a g s M0 ∧ HA [] a M0 ∧ HOk g s ∧ n ≤ 60 ∧ ∀ x g' s', PrOk x → HOk g' s' → Q (.dat (prG x)) (HP [] a g' s' M0)
theorem arR__law_deed (n : Nat) : Ar 3 (R__law_deed n) := fun _ _ _ ⟨_, _, _, _, _, _, _, e, _⟩ => by rw [e]; rfl
theorem arR__law_deeds (n : Nat) : Ar 3 (R__law_deeds n) := fun _ _ _ ⟨_, _, _, _, _, _, _, e, _⟩ => by rw [e]; rfl
theorem ar__law_deed : Ar 3 S__law_deed := arR__law_deed 12
theorem ar__law_deeds : Ar 3 S__law_deeds := arR__law_deeds 13
theorem no__law_deed : ∀ ds M Q, ¬ R__law_deed 0 ds M Q := fun _ _ _ ⟨_, _, _, _, _, _, v, _, _, _, _, _, _, _, _, h, _⟩ => by omega
theorem no__law_deeds : ∀ ds M Q, ¬ R__law_deeds 0 ds M Q := fun _ _ _ ⟨_, _, _, _, _, _, v, _, _, _, _, _, _, _, h, _⟩ => by omega
theorem ar__law_unlike : Ar 2 S__law_unlike := fun _ _ _ ⟨_, _, _, _, _, _, e, _⟩ => by rw [e]; rfl
theorem ar__law_formed : Ar 2 S__law_formed := fun _ _ _ ⟨_, _, _, _, _, e, _⟩ => by rw [e]; rfl
def FM (r : Addr) (rs : List Row) (M : Mem) : Mem := (r, .lst (rs.map rwD)) :: M
def R__law_lines : Nat → ASp := fun n ds M Q => ∃ (es : List D) (pl : List Int) (b : Int) (r : Addr) (rs : List Row) (M0 : Mem) (v c : Nat), ds = [.tup es, .tup (pl.map .int), .int b, .ref r] ∧ M = FM r rs M0 ∧ r ∉ dom M0 ∧ DsG v es c ∧ c ≤ 60 ∧ 0 ≤ b ∧ b ≤ 1000 ∧ pl.length + v ≤ 99 ∧ rs.length + 3 * c ≤ 10000 ∧ v + 1 ≤ n ∧
  Q (.dat .non) (FM r (rs ++ rowsLs (rowsF v) pl b es) M0)
def S__law_lines : ASp := R__law_lines 9
theorem arR__law_lines (n : Nat) : Ar 4 (R__law_lines n) := fun _ _ _ ⟨_, _, _, _, _, _, _, _, e, _⟩ => by rw [e]; rfl
theorem ar__law_lines : Ar 4 S__law_lines := arR__law_lines 9
theorem no__law_lines : ∀ ds M Q, ¬ R__law_lines 0 ds M Q := fun _ _ _ ⟨_, _, _, _, _, _, _, _, _, _, _, _, _, _, _, _, _, h, _⟩ => by omega
def S__law_written : ASp := fun ds M Q => ∃ g, ds = [prG g] ∧ PrOk g ∧ Q (.tmp (.lst ((rowsG g).map rwD))) M
theorem ar__law_written : Ar 1 S__law_written := fun _ _ _ ⟨_, e, _⟩ => by rw [e]; rfl
def SLawP : List Int → Prop := fun ns => ns.length ≤ 63
def S_law : ASp := SLaw SLawP
theorem ar_law : Ar 1 S_law := Gw.ar_law SLawP
theorem sLawP_all : ∀ ns : List Int, ns.length ≤ 63 → (∀ z ∈ ns, Builtin.Int.intBits z ≤ 1048576) → SLawP ns := fun _ h _ => h

def top (i : Nat) : Stmt := PySem.Challenge.pw_gatewaves_k20_programs_written.main.body.getD i (.Pass ⟨0, 0, 0, 0⟩)
def i_NoText : Stmt := (match top 2 with | .ClassDef _ _ _ b _ _ _ _ _ _ _ => b | _ => []).getD 0 (.Pass ⟨0, 0, 0, 0⟩)
def G_DEED_PARTS : List (Str × Str) := [("not", "n"), ("half", "n"), ("turn", "jn"), ("phase", "j"), ("flip", "nn"), ("cross", "nn"), ("under", "nd"), ("back", "d"), ("times", "td"), ("borrow", "nd"), ("around", "dd"), ("call", "nw"), ("look", "nn"), ("when", "nd")]
abbrev s_is_name : Stmt := top 11
abbrev N_is_name : List Str := ["thing", "sign"]
def as_is_name_e1 : AE := (aOp (aInSg id) (aVar 1) (aC (.str "abcdefghijklmnopqrstuvwxyz")))
def as_is_name_t1 : AS := (aRet (aCall1 (aAllB (·.all id)) (aLc (aIStr (aVar 0)) (agN 1) aYes as_is_name_e1 [1])))
def as_is_name : AS := (aSeq (aIfS (aOr (aNot (aTst (aUn (aIsi .str) (aVar 0)))) (aOr (aNot (aTst (aChain (aI0 fun i j => .bl (decide (i ≤ j))) (aI0 fun i j => .bl (decide (i ≤ j))) (aC (.int 1)) (aCall1 aLenTx (aVar 0)) (aC (.int 8))))) (aTst (aOp (aIn id) (aVar 0) (aC (.tup [.str "not", .str "half", .str "turn", .str "phase", .str "flip", .str "cross", .str "under", .str "back", .str "borrow", .str "around", .str "call", .str "times", .str "look", .str "when", .str "wires", .str "body", .str "end", .str "with"])))))) (aRet (aC (.bl false))) aNext)
  as_is_name_t1)
abbrev s_are_names : Stmt := top 12
abbrev N_are_names : List Str := ["thing", "low", "high", "name"]
def as_are_names_e1 : AE := (aCall S_is_name (aCons (aVar 3) aNil))
def as_are_names : AS := (aRet (aAndV (aUn (aIsi .tuple) (aVar 0)) (aAndV (aChain (aI0 fun i j => .bl (decide (i ≤ j))) (aI0 fun i j => .bl (decide (i ≤ j))) (aVar 1) (aCall1 aLen (aVar 0)) (aVar 2)) (aCall1 (aAllB (·.all id)) (aLc (aITup (aVar 0)) (agN 3) aYes as_are_names_e1 [3])))))
abbrev s_are_unlike : Stmt := top 13
abbrev N_are_unlike : List Str := ["things"]
def as_are_unlike : AS := (aRet (aOp (aEq id) (aCall1 aLenSetS (aVar 0)) (aCall1 aLen (aVar 0))))
abbrev s_head_of : Stmt := top 16
abbrev N_head_of : List Str := ["deed", "word", "parts", "words", "sort", "part"]
def as_head_of_b1 : AS := (aIfS (aTst (aOp (aEqS id) (aVar 4) (aC (.str "w")))) (aDrop (aMeth amExt (aVar 3) (aCons (aCall1 aList (aVar 5)) aNil))) (aIfS (aTst (aOp (aEqS not) (aVar 4) (aC (.str "d")))) (aDrop (aMeth amApp (aVar 3) (aCons (aCall1 aStrW (aVar 5)) aNil))) aNext))
def as_head_of_t1 : AS := (aRet (aJoin (aC (.str " ")) (aVar 3)))
def as_head_of : AS := (aSeq (aUnpS 2 1 (aVar 0) (agCons (agN 1) (agCons (agN 2) agNil)))
  (aSeq (aAsg (aLst (aCons (aVar 1) aNil)) 3)
  (aSeq (aFor (aIzipS (aCons (aGGet G_DEED_PARTS (aVar 1)) (aCons (aVar 2) aNil))) (agT 2 (agCons (agN 4) (agCons (agN 5) agNil))) as_head_of_b1)
  as_head_of_t1)))
abbrev s_rows_of_deed : Stmt := top 17
abbrev N_rows_of_deed : List Str := ["deed", "place", "lists", "found", "begin", "number", "deeds", "sort", "part"]
def as_rows_of_deed_e1 (n : Nat) : AE := (aVar 8)
def as_rows_of_deed_c1 (n : Nat) : AT := (aTst (aOp (aEqS id) (aVar 7) (aC (.str "d"))))
def as_rows_of_deed_t1 (n : Nat) : AS := (aSeq (aDrop (aMeth amExt (aVar 3) (aCons (aCall (R_rows_of_deeds n) (aCons (aVar 6) (aCons (aVar 1) (aCons (aVar 4) aNil)))) aNil)))
  (aAugI 4 (fun i j => i + j) (aCall1 aLen (aVar 6))))
def as_rows_of_deed_b1 (n : Nat) : AS := (aSeq (aIfS (aTst (aOp (aI0 fun i j => .bl (decide (j < i))) (aVar 5) (aC (.int 0)))) (aDrop (aMeth amApp (aVar 3) (aCons (aTup (aCons (aC (.str "with")) (aCons (aC .non) aNil))) aNil))) aNext)
  (as_rows_of_deed_t1 n))
def as_rows_of_deed_t2 (n : Nat) : AS := (aRet (aOp aCat (aVar 3) (aOp aRep (aLst (aCons (aTup (aCons (aC (.str "end")) (aCons (aC .non) aNil))) aNil)) (aCall1 aInt (aOp (aEqL0 not) (aVar 2) (aLst aNil))))))
def as_rows_of_deed (n : Nat) : AS := (aSeq (aAsgF (aLc (aIzipS (aCons (aGGet G_DEED_PARTS (aOp aIx (aVar 0) (aC (.int 0)))) (aCons (aSl (aVar 0) (aOS (aC (.int 1))) aON) aNil))) (agT 2 (agCons (agN 7) (agCons (agN 8) agNil))) (as_rows_of_deed_c1 n) (as_rows_of_deed_e1 n) [7, 8]) 2)
  (aSeq (aAsg (aLst (aCons (aTup (aCons (aCall S_head_of (aCons (aVar 0) aNil)) (aCons (aVar 1) aNil))) aNil)) 3)
  (aSeq (aAsgF (aC (.int 0)) 4)
  (aSeq (aFor (aIenum (aCons (aVar 2) aNil)) (agT 2 (agCons (agN 5) (agCons (agN 6) agNil))) (as_rows_of_deed_b1 n))
  (as_rows_of_deed_t2 n)))))
abbrev s_rows_of_deeds : Stmt := top 18
abbrev N_rows_of_deeds : List Str := ["deeds", "place", "begin", "number", "deed", "row"]
def as_rows_of_deeds_e1 (n : Nat) : AE := (aVar 5)
def as_rows_of_deeds (n : Nat) : AS := (aRet (aLc2 (aIenumT (aCons (aVar 0) aNil)) (agT 2 (agCons (agN 3) (agCons (agN 4) agNil))) aYes (aISeq (aCall (R_rows_of_deed n) (aCons (aVar 4) (aCons (aOp aCatT (aVar 1) (aTup (aCons (aOp (aI0 fun i j => .int (i + j)) (aVar 2) (aVar 3)) aNil))) aNil)))) (agN 5) aYes (as_rows_of_deeds_e1 n) [3, 4, 5] [5]))
abbrev s_rows_shown : Stmt := top 19
abbrev N_rows_shown : List Str := ["program", "wires", "bodies", "deeds", "found", "number", "name", "own", "inner"]
def as_rows_shown_b1 : AS := (aSeq (aDrop (aMeth amApp (aVar 4) (aCons (aTup (aCons (aJoin (aC (.str " ")) (aOp aCatT (aTup (aCons (aC (.str "body")) (aCons (aVar 6) aNil))) (aVar 7))) (aCons (aC .non) aNil))) aNil)))
  (aSeq (aDrop (aMeth amExt (aVar 4) (aCons (aCall S_rows_of_deeds (aCons (aVar 8) (aCons (aTup (aCons (aVar 5) aNil)) (aCons (aC (.int 0)) aNil)))) aNil)))
  (aDrop (aMeth amApp (aVar 4) (aCons (aTup (aCons (aC (.str "end")) (aCons (aC .non) aNil))) aNil)))))
def as_rows_shown_t1 : AS := (aRet (aOp aCat (aVar 4) (aCall S_rows_of_deeds (aCons (aVar 3) (aCons (aTup (aCons (aCall1 aLen (aVar 2)) aNil)) (aCons (aC (.int 0)) aNil))))))
def as_rows_shown : AS := (aSeq (aUnp (aVar 0) (agT 3 (agCons (agN 1) (agCons (agN 2) (agCons (agN 3) agNil)))))
  (aSeq (aAsg (aLst (aCons (aTup (aCons (aJoin (aC (.str " ")) (aOp aCatT (aTup (aCons (aC (.str "wires")) aNil)) (aVar 1))) (aCons (aC .non) aNil))) aNil)) 4)
  (aSeq (aFor (aIenumT (aCons (aVar 2) aNil)) (agT 2 (agCons (agN 5) (agCons (agT 3 (agCons (agN 6) (agCons (agN 7) (agCons (agN 8) agNil)))) agNil))) as_rows_shown_b1)
  as_rows_shown_t1)))
abbrev s_show : Stmt := top 20
abbrev N_show : List Str := ["program", "line", "place"]
def as_show_e1 : AE := (aVar 1)
def as_show : AS := (aRet (aJoin (aC (.str "
")) (aLc (aISeq (aCall S_rows_shown (aCons (aVar 0) aNil))) (agT 2 (agCons (agN 1) (agCons (agN 2) agNil))) aYes as_show_e1 [1, 2])))
abbrev s_part_of_word : Stmt := top 23
abbrev N_part_of_word : List Str := ["sort", "word", "number"]
def as_part_of_word_t1 : AS := (aSeq (aAsgF (aCall1 aIntS (aVar 1)) 2)
  (aRet (aIfE (aOr (aTst (aOp (aEqS id) (aVar 0) (aC (.str "t")))) (aTst (aChain (aI0 fun i j => .bl (decide (i ≤ j))) (aI0 fun i j => .bl (decide (i ≤ j))) (aC (.int 1)) (aVar 2) (aC (.int 7))))) (aVar 2) (aC .non))))
def as_part_of_word_t2 : AS := (aSeq (aIfS (aOr (aTst (aOp (aEq not) (aCall1 aLenTx (aVar 1)) (aC (.int 1)))) (aTst (aOp (aInSg not) (aVar 1) (aC (.str "0123456789"))))) (aRet (aC .non)) aNext)
  as_part_of_word_t1)
def as_part_of_word : AS := (aSeq (aIfS (aTst (aOp (aEqS id) (aVar 0) (aC (.str "n")))) (aRet (aIfE (aTst (aCall S_is_name (aCons (aVar 1) aNil))) (aVar 1) (aC .non))) aNext)
  as_part_of_word_t2)
abbrev s_head_parts : Stmt := top 24
abbrev N_head_parts : List Str := ["words", "word", "others", "sorts", "names", "parts", "sort", "other"]
def as_head_parts_e1 : AE := (aCall S_part_of_word (aCons (aVar 6) (aCons (aVar 7) aNil)))
def as_head_parts_t1 : AS := (aSeq (aAsgF (aCall1 aTuple (aLc (aIzipS (aCons (aVar 3) (aCons (aVar 2) aNil))) (agT 2 (agCons (agN 6) (agCons (agN 7) agNil))) aYes as_head_parts_e1 [6, 7])) 5)
  (aRet (aIfE (aTst (aOp (aIn id) (aC .non) (aVar 5))) (aC .non) (aVar 5))))
def as_head_parts_t2 : AS := (aSeq (aIfS (aTst (aOp (aEq not) (aCall1 aLen (aVar 2)) (aCall1 aLenTx (aVar 3)))) (aRet (aC .non)) aNext)
  as_head_parts_t1)
def as_head_parts_t3 : AS := (aSeq (aAsgF (aReplC (aGGet G_DEED_PARTS (aVar 1)) "d" "") 3)
  (aSeq (aIfS (aTst (aOp (aEqS id) (aVar 1) (aC (.str "call")))) (aSeq (aAsgF (aCall1 aTuple (aSl (aVar 2) (aOS (aC (.int 1))) aON)) 4)
  (aRet (aIfE (aAnd (aTst (aOp (aEqL0 not) (aVar 2) (aLst aNil))) (aAnd (aTst (aCall S_is_name (aCons (aOp aIx (aVar 2) (aC (.int 0))) aNil))) (aTst (aCallD S_are_names [.int 1, .int 5] (aCons (aVar 4) aNil))))) (aTup (aCons (aOp aIx (aVar 2) (aC (.int 0))) (aCons (aVar 4) aNil))) (aC .non)))) aNext)
  as_head_parts_t2))
def as_head_parts : AS := (aSeq (aUnpSL 2 1 (aVar 0) (agCons (agN 1) (agCons (agN 2) agNil)))
  (aSeq (aIfS (aTst (aGIn not G_DEED_PARTS (aVar 1))) (aRet (aC .non)) aNext)
  as_head_parts_t3))
abbrev s_Opened___init__ : Stmt := inClass (top 25) 0
abbrev N_Opened___init__ : List Str := ["self", "word", "parts"]
def as_Opened___init__ : AS := (aSeq (aSetF "Opened" "word" (aVar 1) (aVar 0))
  (aSeq (aSetF "Opened" "parts" (aVar 2) (aVar 0))
  (aSetF "Opened" "lots" (aSh (aLst (aCons (aSh (aLst aNil)) aNil))) (aVar 0))))
abbrev s_Opened_wants_with : Stmt := inClass (top 25) 1
abbrev N_Opened_wants_with : List Str := ["self"]
def as_Opened_wants_with : AS := (aRet (aAndV (aOp (aEqS id) (aUn (aFld "Opened" "word") (aVar 0)) (aC (.str "around"))) (aOp (aEq id) (aCall1 aLen (aUn (aFld "Opened" "lots") (aVar 0))) (aC (.int 1)))))
abbrev s_Lines___init__ : Stmt := inClass (top 26) 0
abbrev N_Lines___init__ : List Str := ["self"]
def as_Lines___init__ : AS := (aSeq (aSetF "Lines" "wires" (aC .non) (aVar 0))
  (aSeq (aSetF "Lines" "bodies" (aSh (aLst aNil)) (aVar 0))
  (aSeq (aSetF "Lines" "own_deeds" (aSh (aLst aNil)) (aVar 0))
  (aSeq (aSetF "Lines" "opened" (aSh (aLst aNil)) (aVar 0))
  (aSetF "Lines" "many" (aC (.int 0)) (aVar 0))))))
abbrev s_Lines_put : Stmt := inClass (top 26) 6
abbrev N_Lines_put : List Str := ["self", "deed", "place"]
def as_Lines_put : AS := (aSeq (aAsg (aIfE (aTst (aOp (aEqL0 not) (aUn (aFld "Lines" "opened") (aVar 0)) (aLst aNil))) (aOp aIx (aUn (aFld "Opened" "lots") (aOp aIx (aUn (aFld "Lines" "opened") (aVar 0)) (aUn aNeg (aC (.int 1))))) (aUn aNeg (aC (.int 1)))) (aUn (aFld "Lines" "own_deeds") (aVar 0))) 2)
  (aDrop (aMeth amApp (aVar 2) (aCons (aVar 1) aNil))))
abbrev s_Lines_takes_wires : Stmt := inClass (top 26) 2
abbrev N_Lines_takes_wires : List Str := ["self", "names"]
def as_Lines_takes_wires : AS := (aSeq (aSetF "Lines" "wires" (aVar 1) (aVar 0))
  (aRet (aAndV (aCallD S_are_names [.int 1, .int 5] (aCons (aVar 1) aNil)) (aCall S_are_unlike (aCons (aVar 1) aNil)))))
abbrev s_Lines_takes_body : Stmt := inClass (top 26) 3
abbrev N_Lines_takes_body : List Str := ["self", "words", "name", "own", "body"]
def as_Lines_takes_body_e1 : AE := (aOp aIx (aVar 4) (aC (.int 0)))
def as_Lines_takes_body_t1 : AS := (aSeq (aDrop (aMeth amApp (aUn (aFld "Lines" "opened") (aVar 0)) (aCons (aMake "Opened" S_Opened___init__ (aCons (aC (.str "body")) (aCons (aTup (aCons (aVar 2) (aCons (aCall1 aTuple (aVar 3)) aNil))) aNil))) aNil)))
  (aRet (aAndV (aCallD S_are_names [.int 1, .int 5] (aCons (aCall1 aTuple (aVar 3)) aNil)) (aCall S_are_unlike (aCons (aVar 3) aNil)))))
def as_Lines_takes_body_t2 : AS := (aSeq (aUnpSL 2 1 (aVar 1) (agCons (agN 2) (agCons (agN 3) agNil)))
  (aSeq (aIfS (aOr (aNot (aTst (aCall S_is_name (aCons (aVar 2) aNil)))) (aTst (aOp (aIn id) (aVar 2) (aLcM (aJSeq (aUn (aFld "Lines" "bodies") (aVar 0))) (agN 4) aYes as_Lines_takes_body_e1 [4])))) (aRet (aC (.bl false))) aNext)
  as_Lines_takes_body_t1))
def as_Lines_takes_body : AS := (aSeq (aIfS (aOr (aTst (aOp (aEqL0 not) (aUn (aFld "Lines" "opened") (aVar 0)) (aLst aNil))) (aOr (aTst (aOp (aEqL0 not) (aUn (aFld "Lines" "own_deeds") (aVar 0)) (aLst aNil))) (aOr (aTst (aOp (aEq id) (aCall1 aLen (aUn (aFld "Lines" "bodies") (aVar 0))) (aC (.int 8)))) (aTst (aOp (aEqL0 id) (aVar 1) (aLst aNil)))))) (aRet (aC (.bl false))) aNext)
  as_Lines_takes_body_t2)
abbrev s_Lines_takes_turn : Stmt := inClass (top 26) 4
abbrev N_Lines_takes_turn : List Str := ["self", "word", "last", "told", "some"]
def as_Lines_takes_turn_e1 : AE := (aCall1 aTuple (aVar 4))
def as_Lines_takes_turn_t1 : AS := (aRet (aC (.bl true)))
def as_Lines_takes_turn_t2 : AS := (aSeq (aDrop (aMeth0 amPop (aUn (aFld "Lines" "opened") (aVar 0))))
  (aSeq (aAsgF (aOp aCatT (aUn (aFld "Opened" "parts") (aVar 2)) (aCall1 aTuple (aLcM (aJSeq (aUn (aFld "Opened" "lots") (aVar 2))) (agN 4) aYes as_Lines_takes_turn_e1 [4]))) 3)
  (aSeq (aIfS (aTst (aOp (aEqS id) (aUn (aFld "Opened" "word") (aVar 2)) (aC (.str "body")))) (aDrop (aMeth amApp (aUn (aFld "Lines" "bodies") (aVar 0)) (aCons (aVar 3) aNil))) (aDrop (aMethO "Lines" "put" S_Lines_put (aVar 0) (aCons (aOp aCatT (aTup (aCons (aUn (aFld "Opened" "word") (aVar 2)) aNil)) (aVar 3)) aNil))))
  as_Lines_takes_turn_t1)))
def as_Lines_takes_turn : AS := (aSeq (aAsgF (aOp aIx (aUn (aFld "Lines" "opened") (aVar 0)) (aUn aNeg (aC (.int 1)))) 2)
  (aSeq (aIfS (aOr (aTst (aOp (aEqS id) (aVar 1) (aC (.str "with")))) (aTst (aMethO "Opened" "wants_with" S_Opened_wants_with (aVar 2) aNil))) (aSeq (aDrop (aMeth amApp (aUn (aFld "Opened" "lots") (aVar 2)) (aCons (aSh (aLst aNil)) aNil)))
  (aRet (aAndV (aOp (aEqS id) (aVar 1) (aC (.str "with"))) (aAndV (aOp (aEqS id) (aUn (aFld "Opened" "word") (aVar 2)) (aC (.str "around"))) (aOp (aEq id) (aCall1 aLen (aUn (aFld "Opened" "lots") (aVar 2))) (aC (.int 2))))))) aNext)
  as_Lines_takes_turn_t2))
abbrev s_Lines_takes_deed : Stmt := inClass (top 26) 5
abbrev N_Lines_takes_deed : List Str := ["self", "words", "parts", "deep", "one"]
def as_Lines_takes_deed_e1 : AE := (aVar 4)
def as_Lines_takes_deed_c1 : AT := (aTst (aOp (aEqS not) (aUn (aFld "Opened" "word") (aVar 4)) (aC (.str "body"))))
def as_Lines_takes_deed_t1 : AS := (aRet (aC (.bl true)))
def as_Lines_takes_deed_t2 : AS := (aSeq (aIfS (aTst (aOp (aInSg id) (aC (.str "d")) (aGGet G_DEED_PARTS (aOp aIx (aVar 1) (aC (.int 0)))))) (aDrop (aMeth amApp (aUn (aFld "Lines" "opened") (aVar 0)) (aCons (aMake "Opened" S_Opened___init__ (aCons (aOp aIx (aVar 1) (aC (.int 0))) (aCons (aVar 2) aNil))) aNil))) (aDrop (aMethO "Lines" "put" S_Lines_put (aVar 0) (aCons (aOp aCatT (aTup (aCons (aOp aIx (aVar 1) (aC (.int 0))) aNil)) (aVar 2)) aNil))))
  as_Lines_takes_deed_t1)
def as_Lines_takes_deed : AS := (aSeq (aAsgF (aCall S_head_parts (aCons (aVar 1) aNil)) 2)
  (aSeq (aAsgF (aOp (aI0 fun i j => .int (i + j)) (aCall1 aLen (aLcM (aJSeq (aUn (aFld "Lines" "opened") (aVar 0))) (agN 4) as_Lines_takes_deed_c1 as_Lines_takes_deed_e1 [4])) (aC (.int 1))) 3)
  (aSeq (aAugF "Lines" "many" (aVar 0) (aC (.int 1)))
  (aSeq (aIfS (aOr (aTst (aOp (aIsN id) (aVar 2) (aC .non))) (aOr (aTst (aOp (aI0 fun i j => .bl (decide (j < i))) (aVar 3) (aC (.int 6)))) (aTst (aOp (aI0 fun i j => .bl (decide (j < i))) (aUn (aFld "Lines" "many") (aVar 0)) (aC (.int 60)))))) (aRet (aC (.bl false))) aNext)
  as_Lines_takes_deed_t2))))
abbrev s_Lines_takes_line : Stmt := inClass (top 26) 1
abbrev N_Lines_takes_line : List Str := ["self", "line", "first", "others"]
def as_Lines_takes_line_t1 : AS := (aRet (aMethO "Lines" "takes_deed" S_Lines_takes_deed (aVar 0) (aCons (aOp aCat (aLst (aCons (aVar 2) aNil)) (aVar 3)) aNil)))
def as_Lines_takes_line_t2 : AS := (aSeq (aIfS (aOr (aTst (aOp (aEqS id) (aVar 2) (aC (.str "end")))) (aTst (aOp (aEqS id) (aVar 2) (aC (.str "with"))))) (aRet (aAndV (aOp (aEqL0 id) (aVar 3) (aLst aNil)) (aAndV (aOp (aEqL0 not) (aUn (aFld "Lines" "opened") (aVar 0)) (aLst aNil)) (aMethO "Lines" "takes_turn" S_Lines_takes_turn (aVar 0) (aCons (aVar 2) aNil))))) aNext)
  as_Lines_takes_line_t1)
def as_Lines_takes_line_t3 : AS := (aSeq (aIfS (aTst (aOp (aEqS id) (aVar 2) (aC (.str "body")))) (aRet (aMethO "Lines" "takes_body" S_Lines_takes_body (aVar 0) (aCons (aVar 3) aNil))) aNext)
  as_Lines_takes_line_t2)
def as_Lines_takes_line : AS := (aSeq (aUnpSL 2 1 (aSplit (aVar 1) (aC (.str " "))) (agCons (agN 2) (agCons (agN 3) agNil)))
  (aSeq (aIfS (aTst (aOp (aIsN id) (aUn (aFld "Lines" "wires") (aVar 0)) (aC .non))) (aRet (aAndV (aOp (aEqS id) (aVar 2) (aC (.str "wires"))) (aMethO "Lines" "takes_wires" S_Lines_takes_wires (aVar 0) (aCons (aCall1 aTuple (aVar 3)) aNil)))) aNext)
  as_Lines_takes_line_t3))
abbrev s_read : Stmt := top 27
abbrev N_read : List Str := ["text", "lines", "rows", "number", "row"]
def as_read (xw : XW) : AS := (aSeq (aIfS (aNot (aTst (aUn (aIsi .str) (aVar 0)))) (aRaise xw "NoText" ["line"] (aCons (aC (.int 0)) aNil)) aNext)
  (aSeq (aPar (aCons (aMake "Lines" S_Lines___init__ aNil) (aCons (aSplit (aVar 0) (aC (.str "
"))) aNil)) 1 2)
  (aSeq (aFor (aIenum (aCons (aVar 2) aNil)) (agT 2 (agCons (agN 3) (agCons (agN 4) agNil))) (aIfS (aNot (aTst (aMethO "Lines" "takes_line" S_Lines_takes_line (aVar 1) (aCons (aVar 4) aNil)))) (aRaise xw "NoText" ["line"] (aCons (aVar 3) aNil)) aNext))
  (aSeq (aIfS (aTst (aOp (aEqL0 not) (aUn (aFld "Lines" "opened") (aVar 1)) (aLst aNil))) (aRaise xw "NoText" ["line"] (aCons (aCall1 aLen (aVar 2)) aNil)) aNext)
  (aRet (aTup (aCons (aUn (aFld "Lines" "wires") (aVar 1)) (aCons (aCall1 aTuple (aUn (aFld "Lines" "bodies") (aVar 1))) (aCons (aCall1 aTuple (aUn (aFld "Lines" "own_deeds") (aVar 1))) aNil)))))))))
abbrev s_lines_of : Stmt := top 28
abbrev N_lines_of : List Str := ["program", "number", "line", "place"]
def as_lines_of_e1 : AE := (aTup (aCons (aVar 1) (aCons (aVar 3) aNil)))
def as_lines_of_c1 : AT := (aTst (aOp (aIsN not) (aVar 3) (aC .non)))
def as_lines_of : AS := (aRet (aCall1 aTuple (aLc (aIenum (aCons (aCall S_rows_shown (aCons (aVar 0) aNil)) aNil)) (agT 2 (agCons (agN 1) (agCons (agT 2 (agCons (agN 2) (agCons (agN 3) agNil))) agNil))) as_lines_of_c1 as_lines_of_e1 [1, 2, 3])))
abbrev s__law_hand : Stmt := top 30
abbrev N__law_hand : List Str := ["_law_script", "_law_k", "_law_cell", "_law_great"]
def as__law_hand_t1 : AS := (aSeq (aAsgF (aOp (aIC CM fun i j => .int (i * j)) (aOp (aIC (fun _ j => j ≠ 0) fun i j => .int (i.fmod j)) (aCall1 aAbs (aVar 2)) (aOp (aIC CPowW fun i j => .int (i ^ j.toNat)) (aOp (aIC CPowW fun i j => .int (i ^ j.toNat)) (aC (.int 10)) (aC (.int 60))) (aC (.int 5)))) (aCall1 aInt (aOp (aI0 fun i j => .bl (decide (j ≤ i))) (aCall1 aAbs (aVar 2)) (aOp (aIC CPowW fun i j => .int (i ^ j.toNat)) (aC (.int 10)) (aC (.int 18)))))) 3)
  (aRet (aSh (aLst (aCons (aVar 3) (aCons (aOp (aIC (fun _ j => j ≠ 0) fun i j => .int (i.fmod j)) (aOp (aIC CM fun i j => .int (i * j)) (aOp (aI0 fun i j => .int (i + j)) (aOp (aI0 fun i j => .int (i + j)) (aOp (aIC (fun _ j => j ≠ 0) fun i j => .int (i.fmod j)) (aVar 2) (aC (.int 2305843009213693951))) (aOp (aIC CM fun i j => .int (i * j)) (aOp (aIC CM fun i j => .int (i * j)) (aC (.int 7919)) (aVar 1)) (aVar 1))) (aC (.int 11))) (aC (.int 48271))) (aC (.int 2305843009213693951))) aNil))))))
def as__law_hand : AS := (aSeq (aAsgF (aOp (aI0 fun i j => .int (i + j)) (aOp (aIC CM fun i j => .int (i * j)) (aC (.int 3)) (aVar 1)) (aCall1 aLen (aVar 0))) 2)
  (aSeq (aIfS (aTst (aOp (aI0 fun i j => .bl (decide (i < j))) (aVar 1) (aCall1 aLen (aVar 0)))) (aAsgF (aOp aIx (aVar 0) (aVar 1)) 2) aNext)
  as__law_hand_t1))
abbrev s__law_take : Stmt := top 31
abbrev N__law_take : List Str := ["_law_hand_here", "_law_many", "_law_digit"]
def as__law_take_t1 : AS := (aSeq (aSetI (aOp (aIC (fun _ j => j ≠ 0) fun i j => .int (i.fmod j)) (aOp (aI0 fun i j => .int (i + j)) (aOp (aIC CM fun i j => .int (i * j)) (aOp aIx (aVar 0) (aC (.int 1))) (aC (.int 1181783497276652981))) (aC (.int 12345678910987))) (aC (.int 2305843009213693951))) (aVar 0) (aC (.int 1)))
  (aRet (aOp (aIC (fun _ j => j ≠ 0) fun i j => .int (i.fmod j)) (aOp (aIC CDivW fun i j => .int (i / j)) (aOp (aIC (fun _ j => j ≠ 0) fun i j => .int (i.fmod j)) (aOp (aIC CM fun i j => .int (i * j)) (aOp (aIC CDivW fun i j => .int (i / j)) (aOp aIx (aVar 0) (aC (.int 1))) (aC (.int 65537))) (aOp (aI0 fun i j => .int (i + j)) (aOp (aIC (fun _ j => j ≠ 0) fun i j => .int (i.fmod j)) (aOp aIx (aVar 0) (aC (.int 1))) (aC (.int 65537))) (aC (.int 3)))) (aC (.int 2305843009213693921))) (aC (.int 97))) (aVar 1))))
def as__law_take : AS := (aSeq (aIfS (aTst (aOp (aI0 fun i j => .bl (decide (j < i))) (aOp aIx (aVar 0) (aC (.int 0))) (aC (.int 0)))) (aSeq (aAsgF (aOp (aIC (fun _ j => j ≠ 0) fun i j => .int (i.fmod j)) (aOp aIx (aVar 0) (aC (.int 0))) (aVar 1)) 2)
  (aSeq (aSetI (aOp (aIC CDivW fun i j => .int (i / j)) (aOp aIx (aVar 0) (aC (.int 0))) (aVar 1)) (aVar 0) (aC (.int 0)))
  (aRet (aVar 2)))) aNext)
  as__law_take_t1)
abbrev s__law_pick : Stmt := top 32
abbrev N__law_pick : List Str := ["_law_hand_here", "_law_some"]
def as__law_pick : AS := (aRet (aOp aIx (aVar 1) (aCall S__law_take (aCons (aVar 0) (aCons (aCall1 aLen (aVar 1)) aNil)))))
abbrev s__law_forms : Stmt := top 33
abbrev N__law_forms : List Str := ["_law_found"]
def as__law_forms : AS := (aSeq (aAsg (aDisp (apCons (aC (.str "not")) (aC (.str "n")) (apCons (aC (.str "half")) (aC (.str "n")) (apCons (aC (.str "turn")) (aC (.str "jn")) (apCons (aC (.str "phase")) (aC (.str "j")) (apCons (aC (.str "flip")) (aC (.str "nn")) (apCons (aC (.str "cross")) (aC (.str "nn")) (apCons (aC (.str "under")) (aC (.str "nd")) apNil)))))))) 0)
  (aSeq (aDrop (aDUpd (aVar 0) (aDisp (apCons (aC (.str "back")) (aC (.str "d")) (apCons (aC (.str "times")) (aC (.str "td")) (apCons (aC (.str "borrow")) (aC (.str "nd")) (apCons (aC (.str "around")) (aC (.str "dd")) (apCons (aC (.str "call")) (aC (.str "nw")) (apCons (aC (.str "look")) (aC (.str "nn")) (apCons (aC (.str "when")) (aC (.str "nd")) apNil))))))))))
  (aRet (aLk (aVar 0)))))
abbrev s__law_name : Stmt := top 34
abbrev N__law_name : List Str := ["_law_hand_here", "_law_pot"]
def as__law_name : AS := (aRet (aCall S__law_pick (aCons (aVar 0) (aCons (aDGet (aVar 1) (aC (.str "names"))) aNil))))
abbrev s__law_deed : Stmt := top 35
abbrev N__law_deed : List Str := ["_law_hand_here", "_law_pot", "_law_level", "_law_words", "_law_found", "_law_sort", "_law_k"]
def as__law_deed_e1 (n : Nat) : AE := (aCall S__law_name (aCons (aVar 0) (aCons (aVar 1) aNil)))
def as__law_deed_b1 (n : Nat) : AS := (aIfS (aTst (aOp (aEqS id) (aVar 5) (aC (.str "d")))) (aDrop (aMeth amApp (aVar 4) (aCons (aCall (R__law_deeds n) (aCons (aVar 0) (aCons (aVar 1) (aCons (aOp (aI0 fun i j => .int (i - j)) (aVar 2) (aC (.int 1))) aNil)))) aNil))) (aIfS (aTst (aOp (aEqS id) (aVar 5) (aC (.str "w")))) (aDrop (aMeth amApp (aVar 4) (aCons (aCall1 aTuple (aLc (aRng1 (aCons (aOp (aI0 fun i j => .int (i + j)) (aC (.int 1)) (aCall S__law_take (aCons (aVar 0) (aCons (aC (.int 5)) aNil)))) aNil)) (agN 6) aYes (as__law_deed_e1 n) [6])) aNil))) (aDrop (aMeth amApp (aVar 4) (aCons (aDGet (aDisp (apCons (aC (.str "n")) (aCall S__law_name (aCons (aVar 0) (aCons (aVar 1) aNil))) (apCons (aC (.str "j")) (aOp (aI0 fun i j => .int (i + j)) (aC (.int 1)) (aCall S__law_take (aCons (aVar 0) (aCons (aC (.int 7)) aNil)))) (apCons (aC (.str "t")) (aCall S__law_take (aCons (aVar 0) (aCons (aC (.int 10)) aNil))) apNil)))) (aVar 5)) aNil)))))
def as__law_deed_t1 (n : Nat) : AS := (aRet (aCall1 aTuple (aVar 4)))
def as__law_deed_t2 (n : Nat) : AS := (aSeq (aAsg (aLst (aCons (aCall S__law_pick (aCons (aVar 0) (aCons (aVar 3) aNil))) aNil)) 4)
  (aSeq (aFor (aIStr (aDGet (aCall S__law_forms aNil) (aOp aIx (aVar 4) (aC (.int 0))))) (agN 5) (as__law_deed_b1 n))
  (as__law_deed_t1 n)))
def as__law_deed (n : Nat) : AS := (aSeq (aDPut (aOp (aI0 fun i j => .int (i - j)) (aDGet (aVar 1) (aC (.str "left"))) (aC (.int 1))) (aVar 1) (aC (.str "left")))
  (aSeq (aAsgF (aLst (aCons (aC (.str "not")) (aCons (aC (.str "half")) (aCons (aC (.str "turn")) (aCons (aC (.str "phase")) (aCons (aC (.str "flip")) (aCons (aC (.str "cross")) (aCons (aC (.str "call")) (aCons (aC (.str "look")) aNil))))))))) 3)
  (aSeq (aIfS (aAnd (aTst (aOp (aI0 fun i j => .bl (decide (j < i))) (aVar 2) (aC (.int 0)))) (aTst (aOp (aI0 fun i j => .bl (decide (j < i))) (aDGet (aVar 1) (aC (.str "left"))) (aC (.int 0))))) (aAsgF (aOp aCat (aVar 3) (aOp aRep (aLst (aCons (aC (.str "under")) (aCons (aC (.str "back")) (aCons (aC (.str "times")) (aCons (aC (.str "borrow")) (aCons (aC (.str "around")) (aCons (aC (.str "when")) aNil))))))) (aC (.int 2)))) 3) aNext)
  (as__law_deed_t2 n))))
abbrev s__law_deeds : Stmt := top 36
abbrev N__law_deeds : List Str := ["_law_hand_here", "_law_pot", "_law_level", "_law_found", "_law_k"]
def as__law_deeds_b1 (n : Nat) : AS := (aIfS (aTst (aOp (aI0 fun i j => .bl (decide (j < i))) (aDGet (aVar 1) (aC (.str "left"))) (aC (.int 0)))) (aDrop (aMeth amApp (aVar 3) (aCons (aCall (R__law_deed n) (aCons (aVar 0) (aCons (aVar 1) (aCons (aVar 2) aNil)))) aNil))) aNext)
def as__law_deeds_t1 (n : Nat) : AS := (aRet (aCall1 aTuple (aVar 3)))
def as__law_deeds (n : Nat) : AS := (aSeq (aAsg (aLst aNil) 3)
  (aSeq (aFor (aRng1 (aCons (aCall S__law_pick (aCons (aVar 0) (aCons (aLst (aCons (aC (.int 0)) (aCons (aC (.int 1)) (aCons (aC (.int 1)) (aCons (aC (.int 2)) (aCons (aC (.int 2)) (aCons (aC (.int 3)) (aCons (aC (.int 4)) aNil)))))))) aNil))) aNil)) (agN 4) (as__law_deeds_b1 n))
  (as__law_deeds_t1 n)))
abbrev s__law_unlike : Stmt := top 37
abbrev N__law_unlike : List Str := ["_law_hand_here", "_law_many", "_law_names", "_law_found", "_law_k"]
def as__law_unlike_b1 : AS := (aDrop (aMeth amApp (aVar 3) (aCons (aMeth amPopAt (aVar 2) (aCons (aCall S__law_take (aCons (aVar 0) (aCons (aCall1 aLen (aVar 2)) aNil))) aNil)) aNil)))
def as__law_unlike_t1 : AS := (aRet (aCall1 aTuple (aVar 3)))
def as__law_unlike : AS := (aSeq (aParOO (aLst (aCons (aC (.str "a")) (aCons (aC (.str "b")) (aCons (aC (.str "c")) (aCons (aC (.str "q")) (aCons (aC (.str "ends")) (aCons (aC (.str "nota")) (aCons (aC (.str "withx")) (aCons (aC (.str "zzzzzzzz")) (aCons (aC (.str "bodyb")) (aCons (aC (.str "ha")) (aCons (aC (.str "t")) aNil)))))))))))) (aLst aNil) 2 3)
  (aSeq (aFor (aRng1 (aCons (aVar 1) aNil)) (agN 4) as__law_unlike_b1)
  as__law_unlike_t1))
abbrev s__law_formed : Stmt := top 38
abbrev N__law_formed : List Str := ["_law_hand_here", "_law_size", "_law_pot", "_law_bodies", "_law_names", "_law_k", "_law_deeds_here"]
def as__law_formed_b1 : AS := (aDrop (aMeth amApp (aVar 3) (aCons (aTup (aCons (aOp aIx (aVar 4) (aVar 5)) (aCons (aCall S__law_unlike (aCons (aVar 0) (aCons (aOp (aI0 fun i j => .int (i + j)) (aC (.int 1)) (aCall S__law_take (aCons (aVar 0) (aCons (aC (.int 5)) aNil)))) aNil))) (aCons (aCall S__law_deeds (aCons (aVar 0) (aCons (aVar 2) (aCons (aCall S__law_take (aCons (aVar 0) (aCons (aC (.int 6)) aNil))) aNil)))) aNil)))) aNil)))
def as__law_formed_b2 : AS := (aAsgF (aOp aCatT (aVar 6) (aCall S__law_deeds (aCons (aVar 0) (aCons (aVar 2) (aCons (aCall S__law_take (aCons (aVar 0) (aCons (aC (.int 6)) aNil))) aNil))))) 6)
def as__law_formed_t1 : AS := (aRet (aTup (aCons (aCall S__law_unlike (aCons (aVar 0) (aCons (aOp (aI0 fun i j => .int (i + j)) (aC (.int 1)) (aCall S__law_take (aCons (aVar 0) (aCons (aC (.int 5)) aNil)))) aNil))) (aCons (aCall1 aTuple (aVar 3)) (aCons (aVar 6) aNil)))))
def as__law_formed_t2 : AS := (aSeq (aAsgF (aTup aNil) 6)
  (aSeq (aFor (aRng1 (aCons (aCall S__law_take (aCons (aVar 0) (aCons (aC (.int 4)) aNil))) aNil)) (agN 5) as__law_formed_b2)
  as__law_formed_t1))
def as__law_formed : AS := (aSeq (aParO (aSh (aDisp (apCons (aC (.str "left")) (aVar 1) (apCons (aC (.str "names")) (aLst (aCons (aC (.str "a")) (aCons (aC (.str "b")) (aCons (aC (.str "q")) (aCons (aC (.str "ends")) (aCons (aC (.str "nota")) (aCons (aC (.str "zzzzzzzz")) (aCons (aC (.str "f")) (aCons (aC (.str "m")) aNil))))))))) apNil)))) (aLst aNil) 2 3)
  (aSeq (aAsgF (aCall S__law_unlike (aCons (aVar 0) (aCons (aC (.int 8)) aNil))) 4)
  (aSeq (aFor (aRng1 (aCons (aCall S__law_pick (aCons (aVar 0) (aCons (aLst (aCons (aC (.int 0)) (aCons (aC (.int 0)) (aCons (aC (.int 1)) (aCons (aC (.int 2)) (aCons (aC (.int 3)) (aCons (aC (.int 8)) aNil))))))) aNil))) aNil)) (agN 5) as__law_formed_b1)
  as__law_formed_t2)))
abbrev s__law_lines : Stmt := top 39
abbrev N__law_lines : List Str := ["_law_deeds_here", "_law_spot", "_law_begin", "_law_found", "_law_k", "_law_deed_here", "_law_here", "_law_head", "_law_lots", "_law_sort", "_law_part", "_law_j", "_law_lot", "_law_one"]
def as__law_lines_b1 (n : Nat) : AS := (aIfS (aTst (aOp (aEqS id) (aVar 9) (aC (.str "d")))) (aDrop (aMeth amApp (aVar 8) (aCons (aVar 10) aNil))) (aDrop (aMeth amExt (aVar 7) (aCons (aIfE (aTst (aOp (aEqS id) (aVar 9) (aC (.str "w")))) (aCall1 aList (aVar 10)) (aLst (aCons (aCall1 aStrW (aVar 10)) aNil))) aNil))))
def as__law_lines_e1 (n : Nat) : AE := (aCall1 aLen (aVar 13))
def as__law_lines_b2 (n : Nat) : AS := (aSeq (aDrop (aMeth amExt (aVar 3) (aCons (aOp aRep (aLst (aCons (aTup (aCons (aC (.str "with")) (aCons (aC .non) aNil))) aNil)) (aCall1 aInt (aOp (aEq id) (aVar 11) (aC (.int 1))))) aNil)))
  (aDrop (aCall (R__law_lines n) (aCons (aVar 12) (aCons (aVar 6) (aCons (aCall1 aSumI (aLc (aISeq (aSl (aVar 8) aON (aOS (aVar 11)))) (agN 13) aYes (as__law_lines_e1 n) [13])) (aCons (aVar 3) aNil)))))))
def as__law_lines_t1 (n : Nat) : AS := (aDrop (aMeth amExt (aVar 3) (aCons (aOp aRep (aLst (aCons (aTup (aCons (aC (.str "end")) (aCons (aC .non) aNil))) aNil)) (aCall1 aInt (aOp (aEqL0 not) (aVar 8) (aLst aNil)))) aNil)))
def as__law_lines_t2 (n : Nat) : AS := (aSeq (aDrop (aMeth amApp (aVar 3) (aCons (aTup (aCons (aJoin (aC (.str " ")) (aVar 7)) (aCons (aVar 6) aNil))) aNil)))
  (aSeq (aFor (aIenum (aCons (aVar 8) aNil)) (agT 2 (agCons (agN 11) (agCons (agN 12) agNil))) (as__law_lines_b2 n))
  (as__law_lines_t1 n)))
def as__law_lines_b3 (n : Nat) : AS := (aSeq (aPar3OO (aOp aCatT (aVar 1) (aTup (aCons (aOp (aI0 fun i j => .int (i + j)) (aVar 2) (aVar 4)) aNil))) (aLst (aCons (aOp aIx (aVar 5) (aC (.int 0))) aNil)) (aLst aNil) 6 7 8)
  (aSeq (aFor (aIzipS (aCons (aDGet (aCall S__law_forms aNil) (aOp aIx (aVar 5) (aC (.int 0)))) (aCons (aSl (aVar 5) (aOS (aC (.int 1))) aON) aNil))) (agT 2 (agCons (agN 9) (agCons (agN 10) agNil))) (as__law_lines_b1 n))
  (as__law_lines_t2 n)))
def as__law_lines (n : Nat) : AS := (aFor (aIenumT (aCons (aVar 0) aNil)) (agT 2 (agCons (agN 4) (agCons (agN 5) agNil))) (as__law_lines_b3 n))
abbrev s__law_written : Stmt := top 40
abbrev N__law_written : List Str := ["_law_code", "_law_found", "_law_k", "_law_body"]
def as__law_written_b1 : AS := (aSeq (aDrop (aMeth amApp (aVar 1) (aCons (aTup (aCons (aJoin (aC (.str " ")) (aOp aCat (aLst (aCons (aC (.str "body")) (aCons (aOp aIx (aVar 3) (aC (.int 0))) aNil))) (aCall1 aList (aOp aIx (aVar 3) (aC (.int 1)))))) (aCons (aC .non) aNil))) aNil)))
  (aSeq (aDrop (aCall S__law_lines (aCons (aOp aIx (aVar 3) (aC (.int 2))) (aCons (aTup (aCons (aVar 2) aNil)) (aCons (aC (.int 0)) (aCons (aVar 1) aNil))))))
  (aDrop (aMeth amApp (aVar 1) (aCons (aTup (aCons (aC (.str "end")) (aCons (aC .non) aNil))) aNil)))))
def as__law_written_t1 : AS := (aSeq (aDrop (aCall S__law_lines (aCons (aOp aIx (aVar 0) (aC (.int 2))) (aCons (aTup (aCons (aCall1 aLen (aOp aIx (aVar 0) (aC (.int 1)))) aNil)) (aCons (aC (.int 0)) (aCons (aVar 1) aNil))))))
  (aRet (aVar 1)))
def as__law_written : AS := (aSeq (aAsg (aSh (aLst (aCons (aTup (aCons (aJoin (aC (.str " ")) (aOp aCat (aLst (aCons (aC (.str "wires")) aNil)) (aCall1 aList (aOp aIx (aVar 0) (aC (.int 0)))))) (aCons (aC .non) aNil))) aNil))) 1)
  (aSeq (aFor (aIenumT (aCons (aOp aIx (aVar 0) (aC (.int 1))) aNil)) (agT 2 (agCons (agN 2) (agCons (agN 3) agNil))) as__law_written_b1)
  as__law_written_t1))
abbrev s_law : Stmt := top 41
abbrev N_law : List Str := ["_law_script", "_law_k", "_law_hand_here", "_law_turn", "_law_code", "_law_rows", "_law_due", "_law_lines_here", "_law_row", "_law_number"]
def as_law_e1 : AE := (aOp aIx (aVar 8) (aC (.int 0)))
def as_law_e2 : AE := (aTup (aCons (aVar 9) (aCons (aOp aIx (aVar 8) (aC (.int 1))) aNil)))
def as_law_c1 : AT := (aTst (aOp (aIsN not) (aOp aIx (aVar 8) (aC (.int 1))) (aC .non)))
def as_law_t1 : AS := (aSeq (aAsgF (aCall1 aReprN (aCall1 aTuple (aLc (aIenum (aCons (aVar 5) aNil)) (agT 2 (agCons (agN 9) (agCons (agN 8) agNil))) as_law_c1 as_law_e2 [9, 8]))) 7)
  (aIfS (aOr (aTst (aOp (aEqS not) (aCall1 aReprN (aCall S_lines_of (aCons (aVar 4) aNil))) (aVar 7))) (aTst (aOp (aEqS not) (aCall1 aReprN (aCallP S_lines_of 0 1 [0] aNil (aCons (aVar 4) aNil))) (aVar 7)))) (aRet (aC (.bl false))) aNext))
def as_law_t2 : AS := (aSeq (aIfS (aOr (aTst (aOp (aEqS not) (aCall1 aReprN (aCallX (fun _ _ _ => False) S_read (aCons (aVar 6) aNil))) (aCall1 aReprN (aVar 4)))) (aTst (aOp (aEqS not) (aCall1 aReprN (aCallPX (fun _ _ _ => False) S_read 0 1 [0] aNil (aCons (aVar 6) aNil))) (aCall1 aReprN (aVar 4))))) (aRet (aC (.bl false))) aNext)
  as_law_t1)
def as_law_b1 : AS := (aSeq (aAsgF (aCall S__law_formed (aCons (aVar 2) (aCons (aCall S__law_pick (aCons (aVar 2) (aCons (aLst (aCons (aC (.int 1)) (aCons (aC (.int 4)) (aCons (aC (.int 12)) (aCons (aC (.int 50)) aNil))))) aNil))) aNil))) 4)
  (aSeq (aAsgF (aCall S__law_written (aCons (aVar 4) aNil)) 5)
  (aSeq (aAsgF (aJoin (aC (.str "
")) (aLc (aISeq (aVar 5)) (agN 8) aYes as_law_e1 [8])) 6)
  (aSeq (aIfS (aOr (aTst (aOp (aEqS not) (aCall1 aReprN (aCall S_show (aCons (aVar 4) aNil))) (aCall1 aReprN (aVar 6)))) (aTst (aOp (aEqS not) (aCallP S_show 0 1 [0] aNil (aCons (aVar 4) aNil)) (aVar 6)))) (aRet (aC (.bl false))) aNext)
  as_law_t2))))
def as_law_b2 : AS := (aSeq (aAsgF (aCall S__law_hand (aCons (aVar 0) (aCons (aVar 1) aNil))) 2)
  (aFor (aRng1 (aCons (aC (.int 2)) aNil)) (agN 3) as_law_b1))
def as_law_t3 : AS := (aRet (aC (.bl true)))
def as_law : AS := (aSeq (aFor (aRng1 (aCons (aCall2 (aI0 fun i j => .int (if j > i then j else i)) (aC (.int 1)) (aCall2 (aI0 fun i j => .int (if j < i then j else i)) (aCall1 aLen (aVar 0)) (aC (.int 4)))) aNil)) (agN 1) as_law_b2)
  as_law_t3)
local macro_rules | `(tactic| walk_at "gw") => `(tactic| simp (config := { dsimp := false }) only [↓e_aCatS, ↓e_aSlS, ↓e_aStr, ↓e_aEq0, ↓e_aLtT, ↓e_aSortSet, ↓e_aRepT, ↓e_aRevT, ↓e_aIB, ↓e_aStrB, ↓e_aEqL0, ↓e_aLc2, ↓e_aSortRows, ↓e_aTNew, ↓e_aTGet, ↓e_aTGet2, ↓e_aTPut, ↓e_aTItems, ↓e_aTIn, ↓e_aSortT, ↓e_dcTOf, ↓e_aDictT, ↓e_aDcR, ↓e_aOneR, ↓e_aPutI, ↓e_aSetI2, ↓e_aIAny, ↓e_aIsB, ↓e_aSortIt, ↓e_aListRg, ↓e_aLenSetT, ↓e_aSortSc, ↓e_aSortRowsT, ↓e_aLenSetI, ↓e_aParOO, ↓e_aCallX, ↓e_aRaise, ↓e_aTry, ↓e_aIsX, ↓e_aXf, ↓e_aSortRowsD, ↓e_aIenumT, ↓e_aCallPX, ↓e_aRaiseP, ↓e_aSortIT, ↓e_aMk, ↓e_aMkK, ↓e_aMkP, ↓e_aIzipS, ↓e_aIStr, ↓e_aDUpd, ↓e_aGGet, ↓e_aGIn, ↓e_aIenumA, ↓e_aLenSetS, ↓e_aLeS, ↓e_aInSg, ↓e_aSumI, ↓e_aSplit, ↓e_aUpper, ↓e_aCallD, ↓e_aRepN, ↓e_aListRg2, ↓e_aMulS, ↓e_aIsi3, ↓e_aLenTx, ↓e_aFld, ↓e_aSetF, ↓e_aMethO, ↓e_aMake, ↓e_aFz, ↓e_aIKeys, ↓e_aSDef, ↓e_aDcK, ↓e_aPar3O, ↓e_aMaxDf, ↓e_aSortTB, ↓e_aIdx, ↓e_aCount, ↓e_aIntS, ↓e_aPar5O, ↓e_aMaxT, ↓e_aPar3OO, ↓e_aOrD, ↓e_aTupRg, ↓e_aPar4O, ↓e_aLenSetIT, ↓e_aJSeq, ↓e_aJRev, ↓e_aForM, ↓e_aLenD, ↓e_aMinD, ↓e_aDPop, ↓e_aListRev, ↓e_aMinL, ↓e_aMinV, ↓e_aPutR, ↓e_aSetR2, ↓e_aUnpF, ↓e_aUnpSL, ↓e_aParO1, ↓e_aListIt, ↓e_aITKeys, ↓e_aListTK, ↓e_aCallXD, ↓e_aNNew, ↓e_aNGet, ↓e_aNPut, ↓e_dcNOf, ↓e_aDcN, ↓e_aIzipM, ↓e_aJoin, ↓e_aLcM, ↓e_aAugF, ↓e_aReplC, ↓e_aStrW, ↓e_aSeq, ↓e_aIsi, ↓e_kdOf, ↓isD, ↓e_aInT, ↓e_aRevL, ↓e_aMaxI, ↓e_aUnpS, ↓e_aLk, ↓e_aDNew, ↓e_aDisp, ↓e_apNil, ↓e_apCons, ↓e_aDGet, ↓e_aDGet2, ↓e_aDIn, ↓e_aDPut, ↓keyD, ↓e_dctOf, ↓e_cget, ↓e_cput, ↓e_aIItems, ↓e_aLItems, ↓e_aDictP, ↓e_aDictEnum, ↓e_aLast, ↓e_aLink, ↓e_aChainN, ↓e_agTL, ↓e_aUnp, ↓e_aVar, ↓e_aC, ↓e_aOp, ↓e_aI0, ↓e_aIC, ↓e_aEq, ↓e_aEqS, ↓e_aIn, ↓e_aIsN, ↓e_aIx, ↓e_aCat, ↓e_aRep, ↓e_aCatT, ↓e_aSl, ↓e_aON, ↓e_aOS, ↓e_aCall1, ↓e_aCall2, ↓e_aLen, ↓e_aAllB, ↓e_aTuple, ↓e_aList, ↓e_aAbs, ↓e_aInt, ↓e_aSortI, ↓e_aI3, ↓e_aCons, ↓e_aNil, ↓e_aTup, ↓e_aLst, ↓e_aTst, ↓e_aAnd, ↓e_aOr, ↓e_aNot, ↓e_aAndV, ↓e_aOrV, ↓e_aNotV, ↓e_aIfE, ↓e_aUn, ↓e_aNeg, ↓e_aChain, ↓e_aNext, ↓e_aBrk, ↓e_aCnt, ↓e_aDrop, ↓e_aRet, ↓e_aIfS, ↓e_aAsg, ↓e_aAsgF, ↓e_agN, ↓e_agNil, ↓e_agCons, ↓e_agT, ↓e_aPar, ↓e_aParO, ↓e_aSetI, ↓e_aAugI, ↓e_aAugL, ↓e_aMeth, ↓e_aMeth0, ↓e_amApp, ↓e_amExt, ↓e_amPop, ↓e_amPopAt, ↓e_amIns, ↓e_lget, ↓e_lput, ↓e_frz, ↓e_sqOf, ↓sqD, ↓Sq.ds, ↓e_dOf, ↓e_aCall, ↓e_aCallP, ↓e_aPar3, ↓e_aAugC, ↓e_aAugX, ↓e_aIzip, ↓e_aIrev, ↓e_aIenum, ↓permL, ↓e_aISeq, ↓e_aITup, ↓e_aRng1, ↓e_aRng2, ↓e_aFor, ↓e_aLc, ↓e_aYes, ↓e_aSh, ↓e_aShV, ↓e_aRepr, ↓e_aReprN, ↓wipeS, ↓ends_d, ↓ends_t, ↓ends_n, ↓id, size_val, Nat.zero_le, List.set_cons_zero, List.set_cons_succ, List.getElem?_cons_zero, List.getElem?_cons_succ, List.length_cons, List.length_nil, Option.isSome_some, not_true_eq_false, not_false_eq_true, true_and, and_true, ite_true, ite_false, Bool.false_eq_true, if_true, if_false, Bool.not_true, Bool.not_false, lk_self, lk_ne, at0, at1, at2, at3, at4, ix0, ix1, ix2, sx0, List.map_cons, List.map_nil, List.filterMap_cons, List.filterMap_nil, List.cons_append, List.nil_append, cmp_int, cmp_nil_l, cmp_nil_t, eqD_int, eqD_l00, eqD_l10, eqD_t00, eqD_t10])
local macro_rules | `(tactic| walk_at "gs") => `(tactic| simp (config := { dsimp := false }) only [↓e_aCatS, ↓e_aSlS, ↓e_aStr, ↓e_aEq0, ↓e_aLtT, ↓e_aSortSet, ↓e_aRepT, ↓e_aRevT, ↓e_aIB, ↓e_aStrB, ↓e_aEqL0, ↓e_aLc2, ↓e_aSortRows, ↓e_aTNew, ↓e_aTGet, ↓e_aTGet2, ↓e_aTPut, ↓e_aTItems, ↓e_aTIn, ↓e_aSortT, ↓e_dcTOf, ↓e_aDictT, ↓e_aDcR, ↓e_aOneR, ↓e_aPutI, ↓e_aSetI2, ↓e_aIAny, ↓e_aIsB, ↓e_aSortIt, ↓e_aListRg, ↓e_aLenSetT, ↓e_aSortSc, ↓e_aSortRowsT, ↓e_aLenSetI, ↓e_aParOO, ↓e_aCallX, ↓e_aRaise, ↓e_aTry, ↓e_aIsX, ↓e_aXf, ↓e_aSortRowsD, ↓e_aIenumT, ↓e_aCallPX, ↓e_aRaiseP, ↓e_aSortIT, ↓e_aMk, ↓e_aMkK, ↓e_aMkP, ↓e_aIzipS, ↓e_aIStr, ↓e_aDUpd, ↓e_aGGet, ↓e_aGIn, ↓e_aIenumA, ↓e_aLenSetS, ↓e_aLeS, ↓e_aInSg, ↓e_aSumI, ↓e_aSplit, ↓e_aUpper, ↓e_aCallD, ↓e_aRepN, ↓e_aListRg2, ↓e_aMulS, ↓e_aIsi3, ↓e_aLenTx, ↓e_aFld, ↓e_aSetF, ↓e_aMethO, ↓e_aMake, ↓e_aFz, ↓e_aIKeys, ↓e_aSDef, ↓e_aDcK, ↓e_aPar3O, ↓e_aMaxDf, ↓e_aSortTB, ↓e_aIdx, ↓e_aCount, ↓e_aIntS, ↓e_aPar5O, ↓e_aMaxT, ↓e_aPar3OO, ↓e_aOrD, ↓e_aTupRg, ↓e_aPar4O, ↓e_aLenSetIT, ↓e_aJSeq, ↓e_aJRev, ↓e_aForM, ↓e_aLenD, ↓e_aMinD, ↓e_aDPop, ↓e_aListRev, ↓e_aMinL, ↓e_aMinV, ↓e_aPutR, ↓e_aSetR2, ↓e_aUnpF, ↓e_aUnpSL, ↓e_aParO1, ↓e_aListIt, ↓e_aITKeys, ↓e_aListTK, ↓e_aCallXD, ↓e_aNNew, ↓e_aNGet, ↓e_aNPut, ↓e_dcNOf, ↓e_aDcN, ↓e_aIzipM, ↓e_aJoin, ↓e_aLcM, ↓e_aAugF, ↓e_aReplC, ↓e_aStrW, ↓e_aSeq, ↓e_aIsi, ↓e_kdOf, ↓isD, ↓e_aInT, ↓e_aRevL, ↓e_aMaxI, ↓e_aUnpS, ↓e_aLk, ↓e_aDNew, ↓e_aDisp, ↓e_apNil, ↓e_apCons, ↓e_aDGet, ↓e_aDGet2, ↓e_aDIn, ↓e_aDPut, ↓keyD, ↓e_dctOf, ↓e_cget, ↓e_cput, ↓e_aIItems, ↓e_aLItems, ↓e_aDictP, ↓e_aDictEnum, ↓e_aLast, ↓e_aLink, ↓e_aChainN, ↓e_agTL, ↓e_aUnp, ↓e_aVar, ↓e_aC, ↓e_aOp, ↓e_aI0, ↓e_aIC, ↓e_aEq, ↓e_aEqS, ↓e_aIn, ↓e_aIsN, ↓e_aIx, ↓e_aCat, ↓e_aRep, ↓e_aCatT, ↓e_aSl, ↓e_aON, ↓e_aOS, ↓e_aCall1, ↓e_aCall2, ↓e_aLen, ↓e_aAllB, ↓e_aTuple, ↓e_aList, ↓e_aAbs, ↓e_aInt, ↓e_aSortI, ↓e_aI3, ↓e_aCons, ↓e_aNil, ↓e_aTup, ↓e_aLst, ↓e_aTst, ↓e_aAnd, ↓e_aOr, ↓e_aNot, ↓e_aAndV, ↓e_aOrV, ↓e_aNotV, ↓e_aIfE, ↓e_aUn, ↓e_aNeg, ↓e_aChain, ↓e_aNext, ↓e_aBrk, ↓e_aCnt, ↓e_aDrop, ↓e_aRet, ↓e_aIfS, ↓e_aAsg, ↓e_aAsgF, ↓e_agN, ↓e_agNil, ↓e_agCons, ↓e_agT, ↓e_aPar, ↓e_aParO, ↓e_aSetI, ↓e_aAugI, ↓e_aAugL, ↓e_aMeth, ↓e_aMeth0, ↓e_amApp, ↓e_amExt, ↓e_amPop, ↓e_amPopAt, ↓e_amIns, ↓e_lget, ↓e_lput, ↓e_frz, ↓e_sqOf, ↓sqD, ↓Sq.ds, ↓e_dOf, ↓e_aCall, ↓e_aCallP, ↓e_aPar3, ↓e_aAugC, ↓e_aAugX, ↓e_aIzip, ↓e_aIrev, ↓e_aIenum, ↓permL, ↓e_aISeq, ↓e_aITup, ↓e_aRng1, ↓e_aRng2, ↓e_aFor, ↓e_aLc, ↓e_aYes, ↓e_aSh, ↓e_aShV, ↓e_aRepr, ↓e_aReprN, ↓wipeS, ↓ends_d, ↓ends_t, ↓ends_n, ↓id, size_val, Nat.zero_le, List.set_cons_zero, List.set_cons_succ, List.getElem?_cons_zero, List.getElem?_cons_succ, List.length_cons, List.length_nil, Option.isSome_some, not_true_eq_false, not_false_eq_true, true_and, and_true, ite_true, ite_false, Bool.false_eq_true, if_true, if_false, Bool.not_true, Bool.not_false, lk_self, lk_ne, at0, at1, at2, at3, at4, ix0, ix1, ix2, sx0, List.map_cons, List.map_nil, List.filterMap_cons, List.filterMap_nil, List.cons_append, List.nil_append, cmp_int, cmp_nil_l, cmp_nil_t, eqD_int, eqD_l00, eqD_l10, eqD_t00, eqD_t10, Nat.zero_add, Nat.reduceAdd, Nat.reduceSub, Nat.reduceLeDiff, Nat.reduceLT, List.take_succ_cons, List.take_zero, List.drop_succ_cons, List.drop_zero])
local macro_rules | `(tactic| walk_at "gq") => `(tactic| simp (config := { dsimp := false }) only [↓e_aCatS, ↓e_aSlS, ↓e_aStr, ↓e_aEq0, ↓e_aLtT, ↓e_aSortSet, ↓e_aRepT, ↓e_aRevT, ↓e_aIB, ↓e_aStrB, ↓e_aEqL0, ↓e_aLc2, ↓e_aSortRows, ↓e_aTNew, ↓e_aTGet, ↓e_aTGet2, ↓e_aTPut, ↓e_aTItems, ↓e_aTIn, ↓e_aSortT, ↓e_dcTOf, ↓e_aDictT, ↓e_aDcR, ↓e_aOneR, ↓e_aPutI, ↓e_aSetI2, ↓e_aIAny, ↓e_aIsB, ↓e_aSortIt, ↓e_aListRg, ↓e_aLenSetT, ↓e_aSortSc, ↓e_aSortRowsT, ↓e_aLenSetI, ↓e_aParOO, ↓e_aCallX, ↓e_aRaise, ↓e_aTry, ↓e_aIsX, ↓e_aXf, ↓e_aSortRowsD, ↓e_aIenumT, ↓e_aCallPX, ↓e_aRaiseP, ↓e_aSortIT, ↓e_aMk, ↓e_aMkK, ↓e_aMkP, ↓e_aIzipS, ↓e_aIStr, ↓e_aDUpd, ↓e_aGGet, ↓e_aGIn, ↓e_aIenumA, ↓e_aLenSetS, ↓e_aLeS, ↓e_aInSg, ↓e_aSumI, ↓e_aSplit, ↓e_aUpper, ↓e_aCallD, ↓e_aRepN, ↓e_aListRg2, ↓e_aMulS, ↓e_aIsi3, ↓e_aLenTx, ↓e_aFld, ↓e_aSetF, ↓e_aMethO, ↓e_aMake, ↓e_aFz, ↓e_aIKeys, ↓e_aSDef, ↓e_aDcK, ↓e_aPar3O, ↓e_aMaxDf, ↓e_aSortTB, ↓e_aIdx, ↓e_aCount, ↓e_aIntS, ↓e_aPar5O, ↓e_aMaxT, ↓e_aPar3OO, ↓e_aOrD, ↓e_aTupRg, ↓e_aPar4O, ↓e_aLenSetIT, ↓e_aJSeq, ↓e_aJRev, ↓e_aForM, ↓e_aLenD, ↓e_aMinD, ↓e_aDPop, ↓e_aListRev, ↓e_aMinL, ↓e_aMinV, ↓e_aPutR, ↓e_aSetR2, ↓e_aUnpF, ↓e_aUnpSL, ↓e_aParO1, ↓e_aListIt, ↓e_aITKeys, ↓e_aListTK, ↓e_aCallXD, ↓e_aNNew, ↓e_aNGet, ↓e_aNPut, ↓e_dcNOf, ↓e_aDcN, ↓e_aIzipM, ↓e_aJoin, ↓e_aLcM, ↓e_aAugF, ↓e_aReplC, ↓e_aStrW, ↓e_aSeq, ↓e_aRevL, ↓e_aMaxI, ↓e_aUnpS, ↓e_aLk, ↓e_aDNew, ↓e_aDisp, ↓e_apNil, ↓e_apCons, ↓e_aDGet, ↓e_aDGet2, ↓e_aDIn, ↓e_aDPut, ↓keyD, ↓e_dctOf, ↓e_cget, ↓e_cput, ↓e_aIItems, ↓e_aLItems, ↓e_aDictP, ↓e_aDictEnum, ↓e_aLast, ↓e_aLink, ↓e_aChainN, ↓e_agTL, ↓e_aUnp, ↓e_aVar, ↓e_aC, ↓e_aOp, ↓e_aI0, ↓e_aIC, ↓e_aEqS, ↓e_aIn, ↓e_aIsN, ↓e_aIx, ↓e_aCat, ↓e_aRep, ↓e_aCatT, ↓e_aSl, ↓e_aON, ↓e_aOS, ↓e_aCall1, ↓e_aCall2, ↓e_aLen, ↓e_aAllB, ↓e_aTuple, ↓e_aList, ↓e_aAbs, ↓e_aInt, ↓e_aSortI, ↓e_aI3, ↓e_aCons, ↓e_aNil, ↓e_aTup, ↓e_aLst, ↓e_aTst, ↓e_aAnd, ↓e_aOr, ↓e_aNot, ↓e_aAndV, ↓e_aOrV, ↓e_aNotV, ↓e_aIfE, ↓e_aUn, ↓e_aNeg, ↓e_aChain, ↓e_aNext, ↓e_aBrk, ↓e_aCnt, ↓e_aDrop, ↓e_aRet, ↓e_aIfS, ↓e_aAsg, ↓e_aAsgF, ↓e_agN, ↓e_agNil, ↓e_agCons, ↓e_agT, ↓e_aPar, ↓e_aParO, ↓e_aSetI, ↓e_aAugI, ↓e_aAugL, ↓e_aMeth, ↓e_aMeth0, ↓e_amApp, ↓e_amExt, ↓e_amPop, ↓e_amPopAt, ↓e_amIns, ↓e_lget, ↓e_lput, ↓e_frz, ↓e_sqOf, ↓sqD, ↓Sq.ds, ↓e_aCall, ↓e_aCallP, ↓e_aPar3, ↓e_aAugC, ↓e_aAugX, ↓e_aIzip, ↓e_aIrev, ↓e_aIenum, ↓permL, ↓e_aISeq, ↓e_aITup, ↓e_aRng1, ↓e_aRng2, ↓e_aFor, ↓e_aLc, ↓e_aYes, ↓e_aSh, ↓e_aShV, ↓wipeS, ↓ends_d, ↓ends_t, ↓ends_n, ↓id, size_val, Nat.zero_le, List.set_cons_zero, List.set_cons_succ, List.getElem?_cons_zero, List.getElem?_cons_succ, List.length_cons, List.length_nil, Option.isSome_some, not_true_eq_false, not_false_eq_true, true_and, and_true, ite_true, ite_false, Bool.false_eq_true, if_true, if_false, Bool.not_true, Bool.not_false, lk_self, lk_ne, at0, at1, at2, at3, at4, ix0, ix1, ix2, sx0, List.map_cons, List.map_nil, List.filterMap_cons, List.filterMap_nil, List.cons_append, List.nil_append, ↓aEq_w, ↓aInT_w, ↓aRepr_w, ↓aReprX_w, ↓aReprN_w, ↓aSortD_w, ↓aIsi_w, ↓hold_ii, ↓hold_bb, decide_true, decide_false, Nat.zero_add, Nat.reduceAdd, Nat.reduceSub, Nat.reduceLeDiff, Nat.reduceLT, List.take_succ_cons, List.take_zero, List.drop_succ_cons, List.drop_zero])
local macro_rules | `(tactic| walk_at "gwx") => `(tactic| simp (config := { dsimp := false }) only [*, ↓e_aCatS, ↓e_aSlS, ↓e_aStr, ↓e_aEq0, ↓e_aLtT, ↓e_aSortSet, ↓e_aRepT, ↓e_aRevT, ↓e_aIB, ↓e_aStrB, ↓e_aEqL0, ↓e_aLc2, ↓e_aSortRows, ↓e_aTNew, ↓e_aTGet, ↓e_aTGet2, ↓e_aTPut, ↓e_aTItems, ↓e_aTIn, ↓e_aSortT, ↓e_dcTOf, ↓e_aDictT, ↓e_aDcR, ↓e_aOneR, ↓e_aPutI, ↓e_aSetI2, ↓e_aIAny, ↓e_aIsB, ↓e_aSortIt, ↓e_aListRg, ↓e_aLenSetT, ↓e_aSortSc, ↓e_aSortRowsT, ↓e_aLenSetI, ↓e_aParOO, ↓e_aCallX, ↓e_aRaise, ↓e_aTry, ↓e_aIsX, ↓e_aXf, ↓e_aSortRowsD, ↓e_aIenumT, ↓e_aCallPX, ↓e_aRaiseP, ↓e_aSortIT, ↓e_aMk, ↓e_aMkK, ↓e_aMkP, ↓e_aIzipS, ↓e_aIStr, ↓e_aDUpd, ↓e_aGGet, ↓e_aGIn, ↓e_aIenumA, ↓e_aLenSetS, ↓e_aLeS, ↓e_aInSg, ↓e_aSumI, ↓e_aSplit, ↓e_aUpper, ↓e_aCallD, ↓e_aRepN, ↓e_aListRg2, ↓e_aMulS, ↓e_aIsi3, ↓e_aLenTx, ↓e_aFld, ↓e_aSetF, ↓e_aMethO, ↓e_aMake, ↓e_aFz, ↓e_aIKeys, ↓e_aSDef, ↓e_aDcK, ↓e_aPar3O, ↓e_aMaxDf, ↓e_aSortTB, ↓e_aIdx, ↓e_aCount, ↓e_aIntS, ↓e_aPar5O, ↓e_aMaxT, ↓e_aPar3OO, ↓e_aOrD, ↓e_aTupRg, ↓e_aPar4O, ↓e_aLenSetIT, ↓e_aJSeq, ↓e_aJRev, ↓e_aForM, ↓e_aLenD, ↓e_aMinD, ↓e_aDPop, ↓e_aListRev, ↓e_aMinL, ↓e_aMinV, ↓e_aPutR, ↓e_aSetR2, ↓e_aUnpF, ↓e_aUnpSL, ↓e_aParO1, ↓e_aListIt, ↓e_aITKeys, ↓e_aListTK, ↓e_aCallXD, ↓e_aNNew, ↓e_aNGet, ↓e_aNPut, ↓e_dcNOf, ↓e_aDcN, ↓e_aIzipM, ↓e_aJoin, ↓e_aLcM, ↓e_aAugF, ↓e_aReplC, ↓e_aStrW, ↓e_aSeq, ↓e_aIsi, ↓e_kdOf, ↓isD, ↓e_aInT, ↓e_aRevL, ↓e_aMaxI, ↓e_aUnpS, ↓e_aLk, ↓e_aDNew, ↓e_aDisp, ↓e_apNil, ↓e_apCons, ↓e_aDGet, ↓e_aDGet2, ↓e_aDIn, ↓e_aDPut, ↓keyD, ↓e_dctOf, ↓e_cget, ↓e_cput, ↓e_aIItems, ↓e_aLItems, ↓e_aDictP, ↓e_aDictEnum, ↓e_aLast, ↓e_aLink, ↓e_aChainN, ↓e_agTL, ↓e_aUnp, ↓e_aVar, ↓e_aC, ↓e_aOp, ↓e_aI0, ↓e_aIC, ↓e_aEq, ↓e_aEqS, ↓e_aIn, ↓e_aIsN, ↓e_aIx, ↓e_aCat, ↓e_aRep, ↓e_aCatT, ↓e_aSl, ↓e_aON, ↓e_aOS, ↓e_aCall1, ↓e_aCall2, ↓e_aLen, ↓e_aAllB, ↓e_aTuple, ↓e_aList, ↓e_aAbs, ↓e_aInt, ↓e_aSortI, ↓e_aI3, ↓e_aCons, ↓e_aNil, ↓e_aTup, ↓e_aLst, ↓e_aTst, ↓e_aAnd, ↓e_aOr, ↓e_aNot, ↓e_aAndV, ↓e_aOrV, ↓e_aNotV, ↓e_aIfE, ↓e_aUn, ↓e_aNeg, ↓e_aChain, ↓e_aNext, ↓e_aBrk, ↓e_aCnt, ↓e_aDrop, ↓e_aRet, ↓e_aIfS, ↓e_aAsg, ↓e_aAsgF, ↓e_agN, ↓e_agNil, ↓e_agCons, ↓e_agT, ↓e_aPar, ↓e_aParO, ↓e_aSetI, ↓e_aAugI, ↓e_aAugL, ↓e_aMeth, ↓e_aMeth0, ↓e_amApp, ↓e_amExt, ↓e_amPop, ↓e_amPopAt, ↓e_amIns, ↓e_lget, ↓e_lput, ↓e_frz, ↓e_sqOf, ↓sqD, ↓Sq.ds, ↓e_dOf, ↓e_aCall, ↓e_aCallP, ↓e_aPar3, ↓e_aAugC, ↓e_aAugX, ↓e_aIzip, ↓e_aIrev, ↓e_aIenum, ↓permL, ↓e_aISeq, ↓e_aITup, ↓e_aRng1, ↓e_aRng2, ↓e_aFor, ↓e_aLc, ↓e_aYes, ↓e_aSh, ↓e_aShV, ↓e_aRepr, ↓e_aReprN, ↓wipeS, ↓ends_d, ↓ends_t, ↓ends_n, ↓id, size_val, Nat.zero_le, List.set_cons_zero, List.set_cons_succ, List.getElem?_cons_zero, List.getElem?_cons_succ, List.length_cons, List.length_nil, Option.isSome_some, not_true_eq_false, not_false_eq_true, true_and, and_true, ite_true, ite_false, Bool.false_eq_true, if_true, if_false, Bool.not_true, Bool.not_false, lk_self, lk_ne, at0, at1, at2, at3, at4, ix0, ix1, ix2, sx0, List.map_cons, List.map_nil, List.filterMap_cons, List.filterMap_nil, List.cons_append, List.nil_append, cmp_int, cmp_nil_l, cmp_nil_t, eqD_int, eqD_l00, eqD_l10, eqD_t00, eqD_t10])
local macro_rules | `(tactic| walk_at "gsx") => `(tactic| simp (config := { dsimp := false }) only [*, ↓e_aCatS, ↓e_aSlS, ↓e_aStr, ↓e_aEq0, ↓e_aLtT, ↓e_aSortSet, ↓e_aRepT, ↓e_aRevT, ↓e_aIB, ↓e_aStrB, ↓e_aEqL0, ↓e_aLc2, ↓e_aSortRows, ↓e_aTNew, ↓e_aTGet, ↓e_aTGet2, ↓e_aTPut, ↓e_aTItems, ↓e_aTIn, ↓e_aSortT, ↓e_dcTOf, ↓e_aDictT, ↓e_aDcR, ↓e_aOneR, ↓e_aPutI, ↓e_aSetI2, ↓e_aIAny, ↓e_aIsB, ↓e_aSortIt, ↓e_aListRg, ↓e_aLenSetT, ↓e_aSortSc, ↓e_aSortRowsT, ↓e_aLenSetI, ↓e_aParOO, ↓e_aCallX, ↓e_aRaise, ↓e_aTry, ↓e_aIsX, ↓e_aXf, ↓e_aSortRowsD, ↓e_aIenumT, ↓e_aCallPX, ↓e_aRaiseP, ↓e_aSortIT, ↓e_aMk, ↓e_aMkK, ↓e_aMkP, ↓e_aIzipS, ↓e_aIStr, ↓e_aDUpd, ↓e_aGGet, ↓e_aGIn, ↓e_aIenumA, ↓e_aLenSetS, ↓e_aLeS, ↓e_aInSg, ↓e_aSumI, ↓e_aSplit, ↓e_aUpper, ↓e_aCallD, ↓e_aRepN, ↓e_aListRg2, ↓e_aMulS, ↓e_aIsi3, ↓e_aLenTx, ↓e_aFld, ↓e_aSetF, ↓e_aMethO, ↓e_aMake, ↓e_aFz, ↓e_aIKeys, ↓e_aSDef, ↓e_aDcK, ↓e_aPar3O, ↓e_aMaxDf, ↓e_aSortTB, ↓e_aIdx, ↓e_aCount, ↓e_aIntS, ↓e_aPar5O, ↓e_aMaxT, ↓e_aPar3OO, ↓e_aOrD, ↓e_aTupRg, ↓e_aPar4O, ↓e_aLenSetIT, ↓e_aJSeq, ↓e_aJRev, ↓e_aForM, ↓e_aLenD, ↓e_aMinD, ↓e_aDPop, ↓e_aListRev, ↓e_aMinL, ↓e_aMinV, ↓e_aPutR, ↓e_aSetR2, ↓e_aUnpF, ↓e_aUnpSL, ↓e_aParO1, ↓e_aListIt, ↓e_aITKeys, ↓e_aListTK, ↓e_aCallXD, ↓e_aNNew, ↓e_aNGet, ↓e_aNPut, ↓e_dcNOf, ↓e_aDcN, ↓e_aIzipM, ↓e_aJoin, ↓e_aLcM, ↓e_aAugF, ↓e_aReplC, ↓e_aStrW, ↓e_aSeq, ↓e_aIsi, ↓e_kdOf, ↓isD, ↓e_aInT, ↓e_aRevL, ↓e_aMaxI, ↓e_aUnpS, ↓e_aLk, ↓e_aDNew, ↓e_aDisp, ↓e_apNil, ↓e_apCons, ↓e_aDGet, ↓e_aDGet2, ↓e_aDIn, ↓e_aDPut, ↓keyD, ↓e_dctOf, ↓e_cget, ↓e_cput, ↓e_aIItems, ↓e_aLItems, ↓e_aDictP, ↓e_aDictEnum, ↓e_aLast, ↓e_aLink, ↓e_aChainN, ↓e_agTL, ↓e_aUnp, ↓e_aVar, ↓e_aC, ↓e_aOp, ↓e_aI0, ↓e_aIC, ↓e_aEq, ↓e_aEqS, ↓e_aIn, ↓e_aIsN, ↓e_aIx, ↓e_aCat, ↓e_aRep, ↓e_aCatT, ↓e_aSl, ↓e_aON, ↓e_aOS, ↓e_aCall1, ↓e_aCall2, ↓e_aLen, ↓e_aAllB, ↓e_aTuple, ↓e_aList, ↓e_aAbs, ↓e_aInt, ↓e_aSortI, ↓e_aI3, ↓e_aCons, ↓e_aNil, ↓e_aTup, ↓e_aLst, ↓e_aTst, ↓e_aAnd, ↓e_aOr, ↓e_aNot, ↓e_aAndV, ↓e_aOrV, ↓e_aNotV, ↓e_aIfE, ↓e_aUn, ↓e_aNeg, ↓e_aChain, ↓e_aNext, ↓e_aBrk, ↓e_aCnt, ↓e_aDrop, ↓e_aRet, ↓e_aIfS, ↓e_aAsg, ↓e_aAsgF, ↓e_agN, ↓e_agNil, ↓e_agCons, ↓e_agT, ↓e_aPar, ↓e_aParO, ↓e_aSetI, ↓e_aAugI, ↓e_aAugL, ↓e_aMeth, ↓e_aMeth0, ↓e_amApp, ↓e_amExt, ↓e_amPop, ↓e_amPopAt, ↓e_amIns, ↓e_lget, ↓e_lput, ↓e_frz, ↓e_sqOf, ↓sqD, ↓Sq.ds, ↓e_dOf, ↓e_aCall, ↓e_aCallP, ↓e_aPar3, ↓e_aAugC, ↓e_aAugX, ↓e_aIzip, ↓e_aIrev, ↓e_aIenum, ↓permL, ↓e_aISeq, ↓e_aITup, ↓e_aRng1, ↓e_aRng2, ↓e_aFor, ↓e_aLc, ↓e_aYes, ↓e_aSh, ↓e_aShV, ↓e_aRepr, ↓e_aReprN, ↓wipeS, ↓ends_d, ↓ends_t, ↓ends_n, ↓id, size_val, Nat.zero_le, List.set_cons_zero, List.set_cons_succ, List.getElem?_cons_zero, List.getElem?_cons_succ, List.length_cons, List.length_nil, Option.isSome_some, not_true_eq_false, not_false_eq_true, true_and, and_true, ite_true, ite_false, Bool.false_eq_true, if_true, if_false, Bool.not_true, Bool.not_false, lk_self, lk_ne, at0, at1, at2, at3, at4, ix0, ix1, ix2, sx0, List.map_cons, List.map_nil, List.filterMap_cons, List.filterMap_nil, List.cons_append, List.nil_append, cmp_int, cmp_nil_l, cmp_nil_t, eqD_int, eqD_l00, eqD_l10, eqD_t00, eqD_t10, Nat.zero_add, Nat.reduceAdd, Nat.reduceSub, Nat.reduceLeDiff, Nat.reduceLT, List.take_succ_cons, List.take_zero, List.drop_succ_cons, List.drop_zero])
local macro_rules | `(tactic| walk_at "sz") => `(tactic| simp only [Nat.zero_add, Nat.reduceAdd, Nat.reduceLT, Nat.reduceLeDiff, List.length_append, List.length_cons, List.length_nil, true_and, and_true])
theorem hp_lk {P : Mem} {a : Addr} {M0 : Mem} (h : a ∉ dom P) (g s : Int) : (HP P a g s M0).lookup a = some (.lst [.int g, .int s]) := by
  unfold HP
  induction P with
  | nil => simp [List.lookup]
  | cons q P ih =>
    have n1 : a ≠ q.1 := fun e => h (by rw [e]; exact List.mem_cons_self)
    have n2 : a ∉ dom P := fun e => h (List.mem_cons_of_mem _ e)
    rw [List.cons_append, List.lookup_cons, show (a == q.1) = false from by simpa using n1]
    exact ih n2
theorem mput_no {M : Mem} {a : Addr} {c : Cell} (h : a ∉ dom M) : mput M a c = M := by
  unfold mput
  refine (List.map_congr_left fun x hx => ?_).trans (List.map_id _)
  rw [if_neg fun e => h (by rw [← e]; exact List.mem_map_of_mem hx)]
  rfl
theorem hp_put {P : Mem} {a : Addr} {M0 : Mem} (h : HA P a M0) (g s x y : Int) : mput (HP P a g s M0) a (.lst [.int x, .int y]) = HP P a x y M0 := by
  unfold HP
  have e : mput (P ++ (a, Cell.lst [.int g, .int s]) :: M0) a (.lst [.int x, .int y]) = mput P a (.lst [.int x, .int y]) ++ mput ((a, Cell.lst [.int g, .int s]) :: M0) a (.lst [.int x, .int y]) := List.map_append
  rw [e, mput_no h.p, mput_self h.m]
theorem div_w {i j : Int} (h0 : 0 < j) (h1 : j < 2 ^ 900) : CDivW i j := ⟨h0, by
  have : j.natAbs < 2 ^ 900 := by omega
  have h2 : j.natAbs.log2 < 900 := (Nat.log2_lt (by omega)).mpr this
  omega⟩
theorem rd__law_take : ∀ ds M Q, S__law_take ds M Q → as__law_take (endsOf Q) (slots N__law_take.length ds) M := by
  rintro ds M Q ⟨P, a, g, s, M0, m, rfl, rfl, ha, hs, m0, m1, h⟩
  show as__law_take (endsOf Q) [.dat _, .dat _, .non] _
  have hm : m ≠ 0 := by omega
  have dv : ∀ i, CDivW i m := fun i => div_w m0 (by omega)
  have put := hp_put ha
  have lk := hp_lk (M0 := M0) ha.p
  unfold as__law_take
  by_cases hg : 0 < g
  · walk_at "gwx"
    simp only [decide_true, if_true]
    refine ⟨hm, ?_⟩
    exact h _ _ _ (fmod_lo m0) (fmod_hi m0) ⟨hs.s0, hs.s1⟩
  · walk_at "gwx"
    simp only [decide_false, Bool.false_eq_true, if_false]
    unfold as__law_take_t1
    walk_at "gwx"
    have q0 := fmod_lo (a := s * 1181783497276652981 + 12345678910987) (b := 2305843009213693951) (by decide)
    have q1 := fmod_hi (a := s * 1181783497276652981 + 12345678910987) (b := 2305843009213693951) (by decide)
    have r0 := fmod_lo (a := (s * 1181783497276652981 + 12345678910987).fmod 2305843009213693951) (b := 65537) (by decide)
    have r1 := fmod_hi (a := (s * 1181783497276652981 + 12345678910987).fmod 2305843009213693951) (b := 65537) (by decide)
    refine ⟨mul_r (by decide) (by decide), by decide, div_ok (by decide) (by decide), by decide, mul_r (by omega) (by omega), by decide, div_ok (by decide) (by decide), hm, ?_⟩
    exact h _ _ _ (fmod_lo m0) (fmod_hi m0) ⟨q0, q1⟩
theorem rd__law_pick : ∀ ds M Q, S__law_pick ds M Q → as__law_pick (endsOf Q) (slots N__law_pick.length ds) M := by
  rintro ds M Q ⟨P, a, g, s, M0, xs, rfl, rfl, ha, hs, x0, x1, h⟩
  show as__law_pick (endsOf Q) [.dat _, .dat _] _
  unfold as__law_pick
  walk_at "gw"
  refine ⟨P, a, g, s, M0, _, rfl, rfl, ha, hs, by omega, by omega, ?_⟩
  intro d g' s' d0 d1 hs'
  obtain ⟨x, e1, e2⟩ := atI_in (xs := xs) d0 d1
  walk_at "gwx"
  exact h x g' s' (List.mem_of_getElem? e2) hs'
theorem rd__law_hand : ∀ ds M Q, S__law_hand ds M Q → as__law_hand (endsOf Q) (slots N__law_hand.length ds) M := by
  rintro ds M Q ⟨ns, k, rfl, k0, k1, h⟩
  show as__law_hand (endsOf Q) [.dat _, .dat _, .non, .non] _
  have rest : ∀ c : Int, as__law_hand_t1 (endsOf Q) [.dat (.scr (ns.map .int)), .dat (.int k), .dat (.int c), .non] M := by
    intro c
    unfold as__law_hand_t1
    walk_at "gw"
    refine ⟨by unfold CPowW; decide, by unfold CPowW; decide, by decide, by unfold CPowW; decide, mul_r (by (repeat' split) <;> omega) (by (repeat' split) <;> omega), by decide, mul_l (by decide) (by decide), mul_r (by omega) (by omega), mul_r (by decide) (by decide), by decide, by decide, fun p hp => ?_⟩
    exact h _ _ _ hp ⟨fmod_lo (by decide), fmod_hi (by decide)⟩
  unfold as__law_hand
  walk_at "gw"
  refine ⟨mul_l (by decide) (by decide), ?_⟩
  by_cases hk : k < ((ns.map D.int).length : Int)
  · obtain ⟨d, e1, e2⟩ := atI_in (xs := ns.map D.int) k0 hk
    rw [List.getElem?_map, Option.map_eq_some_iff] at e2
    obtain ⟨c, _, rfl⟩ := e2
    simp only [hk, decide_true, if_true, e1]
    exact rest c
  · simp only [hk, decide_false, Bool.false_eq_true, if_false]
    exact rest _
theorem cut_take {es : List D} {t : Int} (t0 : 0 ≤ t) : cutD es none (some t) = es.take t.toNat := by
  unfold cutD
  have e : HT.sIx es.length es.length (some t) = min t.toNat es.length := by
    show (if t < 0 then _ else min t.toNat es.length) = _
    rw [if_neg (by omega)]
  rw [HT.sIx_none, e, List.drop_zero, Nat.sub_zero, ← List.take_take, List.take_length]
theorem cut_drop {es : List D} {t : Int} (t0 : 0 ≤ t) : cutD es (some t) none = es.drop t.toNat := by
  unfold cutD
  have e : HT.sIx es.length 0 (some t) = min t.toNat es.length := by
    show (if t < 0 then _ else min t.toNat es.length) = _
    rw [if_neg (by omega)]
  rw [HT.sIx_none, e]
  by_cases h : t.toNat ≤ es.length
  · rw [Nat.min_eq_left h]; exact List.take_of_length_le (by rw [List.length_drop]; omega)
  · rw [List.drop_eq_nil_of_le (by omega : es.length ≤ t.toNat), List.drop_eq_nil_of_le (by omega), List.take_nil]
structure Nice (d : D) (k w : Nat) : Prop where
  pl : plainN d = true
  sh : (toPyN d).showable = true
  dep : depN d ≤ k
  wid : widN d ≤ w
theorem Nice.ok {d : D} {k w : Nat} (h : Nice d k w) (hk : k ≤ 90) (hw : w ≤ 16777216) : shOkN d = true := by
  have l1 := dep_pyN d
  have l2 := shown_widN d
  have l3 : sizeLine = 16777216 := size_val
  have := h.dep
  have := h.wid
  simp only [shOkN, Bool.and_eq_true, decide_eq_true_eq]
  exact ⟨⟨⟨h.pl, h.sh⟩, by omega⟩, by omega⟩
theorem Nice.mono {d : D} {k w k' w' : Nat} (h : Nice d k w) (hk : k ≤ k') (hw : w ≤ w') : Nice d k' w' := ⟨h.pl, h.sh, Nat.le_trans h.dep hk, Nat.le_trans h.wid hw⟩

theorem lcO_A {α β : Type} (enc : α → D) (enc2 : β → D) (ys : α → List β) (f : α → β → D) (Γx : α → Sl) {ai1 : AI} {g g1 : AG} {ae : AE} {vs vs1 : List Nat} {k : List D → Sl → Mem → Prop} {Γ : Sl} {M : Mem} : ∀ (xs : List α) (acc : List D), acc.length + (xs.flatMap ys).length ≤ 16777216 →
    (∀ x ∈ xs, ∀ P : List D → Sl → Mem → Prop, P ((ys x).map enc2) (Γx x) M → g (enc x) Γ fun Γ1 => ai1 Γ1 M fun es Γ3 M3 => P es (wipeS Γ3 vs1) M3) →
    (∀ x ∈ xs, wipeS (Γx x) vs = Γ) →
    (∀ x ∈ xs, ∀ y ∈ ys x, ∀ P : D → Sl → Mem → Prop, P (f x y) (Γx x) M → g1 (enc2 y) (Γx x) fun Γ1 => ae Γ1 M fun r Γ3 M3 => frz r Γ3 fun z Γ4 => P z (wipeS Γ4 vs1) M3) →
    k (acc ++ xs.flatMap fun x => (ys x).map (f x)) Γ M → aLcO ai1 g aYes g1 aYes ae vs vs1 k (xs.map enc) acc Γ M
  | [], acc, _, _, _, _, h => by simpa [aLcO] using h
  | x :: xs, acc, hl, ho, hw, hi, h => by
    rw [List.map_cons, aLcO]
    simp only [aYes, if_true]
    rw [List.flatMap_cons, List.length_append] at hl
    refine ho x List.mem_cons_self (fun es Γ3 M3 => aLcL g1 aYes ae vs1 (fun acc' Γ4 M4 => aLcO ai1 g aYes g1 aYes ae vs vs1 k (xs.map enc) acc' (wipeS Γ4 vs) M4) es acc Γ3 M3) ?_
    refine lcMapA enc2 (f x) (ys x) acc (by omega) (hi x List.mem_cons_self) ?_
    rw [hw x List.mem_cons_self]
    refine lcO_A enc enc2 ys f Γx xs _ (by rw [List.length_append, List.length_map]; omega) (fun z hz => ho z (List.mem_cons_of_mem _ hz)) (fun z hz => hw z (List.mem_cons_of_mem _ hz)) (fun z hz => hi z (List.mem_cons_of_mem _ hz)) ?_
    rw [List.flatMap_cons] at h
    rw [List.append_assoc]
    exact h
theorem rd__law_forms : ∀ ds M Q, S__law_forms ds M Q → as__law_forms (endsOf Q) (slots N__law_forms.length ds) M := by
  rintro ds M Q ⟨rfl, h⟩
  show as__law_forms (endsOf Q) [.non] _
  unfold as__law_forms
  walk_at "gw"
  refine ⟨by decide, by decide, by decide +kernel, ?_⟩
  exact Eq.mp (congrArg (fun d => Q (.dat d) M) (by kernel_rfl)) h
theorem forms_get (w : Str) : ∀ fs : List (Str × Str), getA (fs.map fun q => (.inr q.1 : Key)) (fs.map fun q => D.str q.2) (.inr w) = (lookD fs w).map D.str
  | [] => rfl
  | q :: fs => by
    rw [List.map_cons, List.map_cons, getA_cons, forms_get w fs]
    by_cases e : q.1 = w
    · rw [if_pos (by rw [e])]; simp [lookD, List.find?_cons, e]
    · rw [if_neg (fun z => e (Sum.inr.inj z))]; simp [lookD, List.find?_cons, e]
theorem forms_mem {w s : Str} (h : lookD FORMS w = some s) : (w, s) ∈ FORMS := by
  unfold lookD at h
  obtain ⟨q, h1, rfl⟩ := Option.map_eq_some_iff.mp h
  have e := List.find?_some h1
  simp only [decide_eq_true_eq] at e
  rw [← e]
  exact List.mem_of_find?_eq_some h1
theorem forms_two {w s : Str} (h : lookD FORMS w = some s) : (sgD s).length ≤ 2 := by
  have : ∀ q ∈ FORMS, (sgD q.2).length ≤ 2 := by decide
  exact this _ (forms_mem h)
theorem sgD_chs (s : Str) : sgD s = (chs s).map .str := by unfold sgD chs; rw [List.map_map]; rfl
theorem chs_mem {w s : Str} (h : lookD FORMS w = some s) : ∀ c ∈ chs s, c ∈ (["n", "j", "t", "d", "w"] : List Str) := by
  have : ∀ q ∈ FORMS, ∀ c ∈ chs q.2, c ∈ (["n", "j", "t", "d", "w"] : List Str) := by decide +kernel
  exact this _ (forms_mem h)
theorem sane_nr {d : D} (h : sane d = true) : NoRef d := by
  cases d with
  | ref a => simp [sane] at h
  | exc _ _ _ => simp [sane] at h
  | dcT _ _ => simp [sane] at h
  | dcN _ _ => simp [sane] at h
  | _ => trivial
theorem saneL_iff : ∀ {ds : List D}, saneL ds = true ↔ ∀ d ∈ ds, sane d = true
  | [] => by simp [saneL]
  | d :: ds => by rw [saneL, Bool.and_eq_true, saneL_iff]; simp
theorem sane_tup {ds : List D} : sane (.tup ds) = true ↔ ds.length ≤ 10000 ∧ ∀ d ∈ ds, sane d = true := by rw [sane, Bool.and_eq_true, decide_eq_true_iff, saneL_iff]
theorem inD_strs (x : Str) (xs : List Str) : inD (.str x) (xs.map .str) = decide (x ∈ xs) := by
  induction xs with
  | nil => rfl
  | cons y ys ih =>
    show (eqD (.str y) (.str x) || inD (.str x) (ys.map .str)) = _
    rw [ih]
    have e1 : eqD (.str y) (.str x) = decide (y = x) := by simp [eqD, toPy, PyData.eqv, Bool.beq_eq_decide_eq]
    rw [e1]
    by_cases e : y = x
    · simp [e]
    · simp [e, show ¬ x = y from fun q => e q.symm]
theorem flat_strs (xs : List Str) : (xs.map D.str).all flatD = true := by
  rw [List.all_map]
  exact List.all_eq_true.mpr fun _ _ => rfl
theorem chs_len (x : Str) : (chs x).length = x.length := by simp [chs]; rfl
theorem letters (c : Nat) : decide (c ∈ (("abcdefghijklmnopqrstuvwxyz" : Str)).cps.toList) = (decide (97 ≤ c) && decide (c ≤ 122)) := by
  have e : (("abcdefghijklmnopqrstuvwxyz" : Str)).cps.toList = List.range' 97 26 := by decide +kernel
  rw [e]
  by_cases h : 97 ≤ c ∧ c ≤ 122
  · have : c ∈ List.range' 97 26 := List.mem_range'_1.mpr ⟨h.1, by omega⟩
    simp [this, h.1, h.2]
  · have : c ∉ List.range' 97 26 := fun z => h (by have := List.mem_range'_1.mp z; omega)
    rw [decide_eq_false this]
    by_cases h1 : 97 ≤ c
    · have h2 : ¬ c ≤ 122 := fun z => h ⟨h1, z⟩
      simp [h2]
    · simp [h1]
theorem name_short {x : Str} (h : ¬ (1 ≤ x.length ∧ x.length ≤ 8)) : nameB x = false := by
  unfold nameB
  by_cases h1 : 1 ≤ x.length
  · have h2 : ¬ x.length ≤ 8 := fun z => h ⟨h1, z⟩
    simp [h2]
  · simp [h1]
theorem name_word {x : Str} (h : x ∈ WRDS) : nameB x = false := by
  unfold nameB
  simp [h]
theorem name_is {x : Str} (h1 : 1 ≤ x.length) (h2 : x.length ≤ 8) (h3 : x ∉ WRDS) : nameB x = x.cps.toList.all fun c => decide (97 ≤ c) && decide (c ≤ 122) := by
  unfold nameB
  simp [h1, h2, h3]
theorem rd_is_name : ∀ ds M Q, S_is_name ds M Q → as_is_name (endsOf Q) (slots N_is_name.length ds) M := by
  rintro ds M Q ⟨d, rfl, sd, hq⟩
  have nr := sane_nr sd
  show as_is_name (endsOf Q) [.dat d, .non] _
  unfold as_is_name
  cases d with
  | ref a => exact nr.elim
  | exc _ _ _ => exact nr.elim
  | dcT _ _ => exact nr.elim
  | dcN _ _ => exact nr.elim
  | str x =>
    have hW : ([.str "not", .str "half", .str "turn", .str "phase", .str "flip", .str "cross", .str "under", .str "back", .str "borrow", .str "around", .str "call", .str "times", .str "look", .str "when", .str "wires", .str "body", .str "end", .str "with"] : List D) = WRDS.map .str := rfl
    have xl : x.length ≤ 1000 := by simpa [sane] using sd
    simp only [isName] at hq
    walk_at "gw"
    refine ⟨by omega, ?_⟩
    by_cases l1 : 1 ≤ (x.length : Int)
    · simp only [l1, decide_true, if_true]
      by_cases l2 : (x.length : Int) ≤ 8
      · simp only [l2, decide_true, Bool.not_true, Bool.false_eq_true, if_false]
        rw [hW, inD_strs]
        refine ⟨rfl, flat_strs _, ?_⟩
        by_cases w : x ∈ WRDS
        · simp only [w, decide_true, if_true]
          rwa [name_word w] at hq
        · simp only [w, decide_false, Bool.false_eq_true, if_false]
          unfold as_is_name_t1
          walk_at "gw"
          refine lcMapA (fun c : Nat => D.str ⟨#[c]⟩) (fun c => .bl (decide (97 ≤ c) && decide (c ≤ 122))) x.cps.toList [] (by show 0 + x.length ≤ _; omega) (fun c hc P hP => ?_) ?_
          · unfold as_is_name_e1
            walk_at "gw"
            refine ⟨c, rfl, ?_⟩
            rw [letters]
            exact hP
          · walk_at "gw"
            rw [bls_fun]
            rw [name_is (by omega) (by omega) w] at hq
            simp only [List.all_map]
            exact hq
      · simp only [l2, decide_false, Bool.not_false, if_true]
        rwa [name_short (by omega)] at hq
    · simp only [l1, decide_false, Bool.false_eq_true, if_false]
      rwa [name_short (by omega)] at hq
  | _ => walk_at "gw"; exact hq
theorem rd_are_names : ∀ ds M Q, S_are_names ds M Q → as_are_names (endsOf Q) (slots N_are_names.length ds) M := by
  rintro ds M Q ⟨d, lo, hi, rfl, sd, h100, hq⟩
  have nr := sane_nr sd
  show as_are_names (endsOf Q) [.dat d, .dat (.int lo), .dat (.int hi), .non] _
  unfold as_are_names
  cases d with
  | ref a => exact nr.elim
  | exc _ _ _ => exact nr.elim
  | dcT _ _ => exact nr.elim
  | dcN _ _ => exact nr.elim
  | tup es =>
    obtain ⟨el, es1⟩ := sane_tup.mp sd
    simp only [areN] at hq
    walk_at "gw"
    by_cases l1 : lo ≤ (es.length : Int)
    · simp only [l1, decide_true, if_true, Bool.true_and] at hq ⊢
      by_cases l2 : (es.length : Int) ≤ hi
      · simp only [l2, decide_true, if_true, Bool.true_and] at hq ⊢
        first | walk_at "gw" | skip
        refine lcMap (fun d => .bl (isName d)) es [] (by simp; omega) (fun d hd P hP => ?_) ?_
        · unfold as_are_names_e1
          walk_at "gw"
          refine ⟨d, rfl, es1 d hd, ?_⟩
          walk_at "gw"
          exact hP
        · walk_at "gw"
          rw [bls_fun]
          simp only [List.all_map]
          exact hq
      · simp only [l2, decide_false, Bool.false_eq_true, if_false, Bool.false_and] at hq ⊢
        exact hq
    · simp only [l1, decide_false, Bool.false_eq_true, if_false, Bool.false_and] at hq ⊢
      exact hq
  | _ => walk_at "gw"; exact hq
theorem unl_eq (xs : List Str) : decide (((once [] xs).length : Int) = ((xs.map D.str).length : Int)) = unl xs := by
  unfold unl
  rw [List.length_map]
  by_cases h : (once [] xs).length = xs.length
  · rw [decide_eq_true h, decide_eq_true (by omega)]
  · rw [decide_eq_false h, decide_eq_false (by omega)]
theorem rd_are_unlike : ∀ ds M Q, S_are_unlike ds M Q → as_are_unlike (endsOf Q) (slots N_are_unlike.length ds) M := by
  rintro ds M Q ⟨xs, hds, hl, hq⟩
  rcases hds with rfl | rfl
  · show as_are_unlike (endsOf Q) [.dat (.tup (xs.map .str))] _
    unfold as_are_unlike
    walk_at "gw"
    rw [strsD_map]
    exact ⟨by omega, by rw [unl_eq]; exact hq⟩
  · show as_are_unlike (endsOf Q) [.dat (.lst (xs.map .str))] _
    unfold as_are_unlike
    walk_at "gw"
    rw [strsD_map]
    exact ⟨by omega, by rw [unl_eq]; exact hq⟩
def rowE (q : Str × D) : D := .tup [.str q.1, q.2]
theorem zip_rows : ∀ (cs : List Str) (ps : List D), zipD (cs.map .str) ps = (cs.zip ps).map rowE
  | [], ps => by simp [zipD]
  | c :: cs, [] => by simp [zipD]
  | c :: cs, p :: ps => by
    have := zip_rows cs ps
    unfold zipD at this ⊢
    rw [List.map_cons, List.zipWith_cons_cons, this, List.zip_cons_cons, List.map_cons]
    rfl
theorem once_self {κ : Type} [DecidableEq κ] : ∀ (xs acc : List κ), (acc ++ xs).Nodup → once acc xs = acc ++ xs
  | [], acc, _ => by simp [once]
  | x :: xs, acc, h => by
    have nx : x ∉ acc := fun hx => by
      have := (List.nodup_append.mp h).2.2 x hx x List.mem_cons_self
      exact this rfl
    rw [once, if_neg nx, once_self xs (acc ++ [x]) (by rw [List.append_assoc]; exact h), List.append_assoc]
    rfl
theorem DsP.nil {P : D → Nat → Prop} : DsP P [] 0 := ⟨[], rfl, fun q hq => (nomatch hq), rfl⟩
theorem DsP.append {P : D → Nat → Prop} {xs ys : List D} {a b : Nat} (h : DsP P xs a) (h' : DsP P ys b) : DsP P (xs ++ ys) (a + b) := by
  obtain ⟨qs, rfl, h1, rfl⟩ := h
  obtain ⟨rs, rfl, h2, rfl⟩ := h'
  exact ⟨qs ++ rs, by rw [List.map_append], fun q hq => (List.mem_append.mp hq).elim (h1 q) (h2 q), by rw [List.map_append, List.sum_append]⟩
theorem DsP.one {P : D → Nat → Prop} {d : D} {c : Nat} (h : P d c) : DsP P [d] c := ⟨[(d, c)], rfl, fun q hq => by rw [List.mem_singleton.mp hq]; exact h, by simp⟩
theorem DsP.cons {P : D → Nat → Prop} {d : D} {ds : List D} {c : Nat} (h : DsP P (d :: ds) c) : ∃ a b, P d a ∧ DsP P ds b ∧ c = a + b := by
  obtain ⟨qs, e, h1, rfl⟩ := h
  cases qs with
  | nil => cases e
  | cons q qs =>
    cases e
    exact ⟨q.2, _, h1 q List.mem_cons_self, ⟨qs, rfl, fun x hx => h1 x (List.mem_cons_of_mem _ hx), rfl⟩, by simp⟩
theorem DsP.imp {P P' : D → Nat → Prop} {ds : List D} {c : Nat} (h : DsP P ds c) (f : ∀ d k, P d k → P' d k) : DsP P' ds c := by
  obtain ⟨qs, e, h1, e2⟩ := h
  exact ⟨qs, e, fun q hq => f _ _ (h1 q hq), e2⟩
theorem DeedC.up : ∀ {n : Nat} {d : D} {c : Nat}, DeedC n d c → DeedC (n + 1) d c
  | 0, _, _, h => h.elim
  | n + 1, _, _, ⟨w, s, rs, e1, e2, e3, h, e4⟩ => ⟨w, s, rs, e1, e2, e3, fun r hr => (h r hr).imp (fun ⟨a, ds, b, l, z⟩ => ⟨a, ds, b, l, z.imp fun _ _ => DeedC.up⟩) id, e4⟩
theorem DeedC.mono {n m : Nat} {d : D} {c : Nat} (h : DeedC n d c) (l : n ≤ m) : DeedC m d c := by
  induction l with
  | refl => exact h
  | step _ ih => exact ih.up
theorem DsC.mono {n m : Nat} {ds : List D} {c : Nat} (h : DsC n ds c) (l : n ≤ m) : DsC m ds c := h.imp fun _ _ z => z.mono l
theorem DeedC.pos {n : Nat} {d : D} {c : Nat} (h : DeedC n d c) : 1 ≤ c := by
  cases n with
  | zero => exact h.elim
  | succ n => obtain ⟨_, _, _, _, _, _, _, rfl⟩ := h; omega
theorem DsC.len {n : Nat} : ∀ {ds : List D} {c : Nat}, DsC n ds c → ds.length ≤ c
  | [], _, _ => Nat.zero_le _
  | d :: ds, c, h => by
    obtain ⟨a, b, h1, h2, rfl⟩ := h.cons
    have := h1.pos
    have := DsC.len h2
    simp only [List.length_cons]
    omega
def pk : List Key := [.inr "left", .inr "names"]
theorem pm_lkp (p : Addr) (l : Int) (a : Addr) (g s : Int) (M0 : Mem) : (PM p l a g s M0).lookup p = some (potD l) := by
  unfold PM HP
  rw [List.cons_append, List.lookup_cons]
  simp
theorem pm_put {p a : Addr} {M0 : Mem} (h : HA [(p, potD 0)] a M0) (hp : p ∉ dom M0) (l : Int) (g s x : Int) : mput (PM p l a g s M0) p (potD x) = PM p x a g s M0 := by
  have n : ¬ a = p := fun e => h.p (by rw [e]; exact List.mem_cons_self)
  show mput ((p, potD l) :: (a, _) :: M0) p (potD x) = _
  rw [mput_self (fun z => (List.mem_cons.mp z).elim (fun z => n z.symm) hp)]
  rfl
theorem ha_pm {p a : Addr} {l l' : Int} {M0 : Mem} (h : HA [(p, potD l)] a M0) : HA [(p, potD l')] a M0 := ⟨h.p, h.m⟩
theorem pot_left (l : Int) : getA pk [.int l, .lst (NAMES.map .str)] (.inr "left") = some (.int l) := rfl
theorem pot_names (l : Int) : getA pk [.int l, .lst (NAMES.map .str)] (.inr "names") = some (.lst (NAMES.map .str)) := rfl
theorem pot_put (l x : Int) : putA (pk, [.int l, .lst (NAMES.map .str)]) (.inr "left") (.int x) = (pk, [.int x, .lst (NAMES.map .str)]) := rfl
theorem rd__law_name : ∀ ds M Q, S__law_name ds M Q → as__law_name (endsOf Q) (slots N__law_name.length ds) M := by
  rintro ds M Q ⟨a, p, l, g, s, M0, rfl, rfl, ha, hs, hq⟩
  show as__law_name (endsOf Q) [.dat (.ref a), .dat (.ref p)] _
  have lkp := pm_lkp p l a g s M0
  unfold potD at lkp
  have hn := pot_names l
  unfold pk at hn
  unfold as__law_name
  walk_at "gwx"
  refine ⟨_, a, g, s, M0, _, rfl, rfl, ha, hs, by simp [NAMES], by simp [NAMES], fun d g' s' hd hs' => ?_⟩
  obtain ⟨x, hx, rfl⟩ := List.mem_map.mp hd
  walk_at "gw"
  exact hq x g' s' hx hs'
theorem seq_ix {d : Int} {n : Nat} (h0 : 0 ≤ d) (h1 : d < n) : seqIndex? d n = some d.toNat := by
  unfold seqIndex?
  simp only [show ¬ d < 0 by omega, if_false]
  rw [if_pos (by simp only [Bool.and_eq_true, decide_eq_true_eq]; exact ⟨h0, h1⟩)]
theorem erase_map {α β : Type} (f : α → β) : ∀ (xs : List α) (i : Nat), (xs.map f).eraseIdx i = (xs.eraseIdx i).map f
  | [], _ => rfl
  | _ :: _, 0 => rfl
  | x :: xs, i + 1 => by rw [List.map_cons, List.eraseIdx_cons_succ, List.eraseIdx_cons_succ, List.map_cons, erase_map f xs i]
def FLAT : List Str := ["not", "half", "turn", "phase", "flip", "cross", "call", "look"]
def DEEP : List Str := ["under", "back", "times", "borrow", "around", "when"]
theorem flat_look : ∀ w ∈ FLAT, ∃ s, lookD FORMS w = some s ∧ ("d" : Str) ∉ chs s := by
  have : ∀ w ∈ FLAT, (match lookD FORMS w with | some s => decide (("d" : Str) ∉ chs s) | none => false) = true := by decide +kernel
  intro w hw
  have := this w hw
  split at this
  · rename_i s e
    exact ⟨s, e, of_decide_eq_true this⟩
  · cases this
theorem deep_look : ∀ w ∈ DEEP, ∃ s, lookD FORMS w = some s := by
  have : ∀ w ∈ DEEP, (lookD FORMS w).isSome = true := by decide +kernel
  intro w hw
  exact Option.isSome_iff_exists.mp (this w hw)
theorem dom_hp {a p : Addr} {g s : Int} {M0 : Mem} (h : p ∉ dom (HP [] a g s M0)) : p ≠ a ∧ p ∉ dom M0 :=
  ⟨fun e => h (by rw [e]; exact List.mem_cons_self), fun z => h (List.mem_cons_of_mem _ z)⟩
theorem paired_snoc {α β : Type} {F : α → β → Prop} {x : α} {y : β} (h : F x y) : ∀ {xs : List α} {ys : List β}, Paired F xs ys → Paired F (xs ++ [x]) (ys ++ [y])
  | _, _, .nil => .cons h .nil
  | _, _, .cons h1 t => .cons h1 (paired_snoc h t)
theorem DeedG.up : ∀ {n : Nat} {d : D} {c : Nat}, DeedG n d c → DeedG (n + 1) d c
  | 0, _, _, h => h.elim
  | n + 1, _, _, ⟨w, s, rs, e1, e2, e3, h, e4⟩ => ⟨w, s, rs, e1, e2, e3, fun r hr => (h r hr).imp (fun ⟨a, ds, b, l, z⟩ => ⟨a, ds, b, l, z.imp fun _ _ => DeedG.up⟩) id, e4⟩
theorem DeedG.mono {n m : Nat} {d : D} {c : Nat} (h : DeedG n d c) (l : n ≤ m) : DeedG m d c := by
  induction l with
  | refl => exact h
  | step _ ih => exact ih.up
theorem DsG.mono {n m : Nat} {ds : List D} {c : Nat} (h : DsG n ds c) (l : n ≤ m) : DsG m ds c := h.imp fun _ _ z => z.mono l
theorem DeedG.pos {n : Nat} {d : D} {c : Nat} (h : DeedG n d c) : 1 ≤ c := by
  cases n with
  | zero => exact h.elim
  | succ n => obtain ⟨_, _, _, _, _, _, _, rfl⟩ := h; omega
theorem DsG.len {n : Nat} : ∀ {ds : List D} {c : Nat}, DsG n ds c → ds.length ≤ c
  | [], _, _ => Nat.zero_le _
  | d :: ds, c, h => by
    obtain ⟨a, b, h1, h2, rfl⟩ := h.cons
    have := h1.pos
    have := DsG.len h2
    simp only [List.length_cons]
    omega
theorem names_ok : ∀ x ∈ NAMES, nameB x = true := by decide +kernel
theorem unlk_ok : ∀ x ∈ UNLK, nameB x = true := by decide +kernel
theorem unlk_nd : UNLK.Nodup := by decide +kernel
theorem erase_perm : ∀ (ns : List Str) (i : Nat) (l : i < ns.length), List.Perm (ns[i] :: ns.eraseIdx i) ns
  | x :: ns, 0, _ => .refl _
  | x :: ns, i + 1, l => by
    rw [List.eraseIdx_cons_succ, List.getElem_cons_succ]
    exact (List.Perm.swap _ _ _).trans (.cons x (erase_perm ns i (by simpa using l)))
theorem nd_move {xs ns : List Str} {i : Nat} (l : i < ns.length) (h : (xs ++ ns).Nodup) : ((xs ++ [ns[i]]) ++ ns.eraseIdx i).Nodup := by
  refine (List.Perm.nodup_iff ?_).mpr h
  rw [List.append_assoc]
  refine List.Perm.append_left xs ?_
  exact erase_perm ns i l
theorem rd__law_unlike : ∀ ds M Q, S__law_unlike ds M Q → as__law_unlike (endsOf Q) (slots N__law_unlike.length ds) M := by
  rintro ds M Q ⟨P, a, g, s, M0, m, rfl, rfl, ha, hs, hm, hq⟩
  show as__law_unlike (endsOf Q) [.dat (.ref a), .dat (.int m), .non, .non, .non] _
  unfold as__law_unlike
  walk_at "gw"
  refine ⟨by decide, ⟨by omega, by omega⟩, ?_⟩
  refine forR (fun i k Γ M' => i + k = m ∧ 0 ≤ i ∧ ∃ (ns xs : List Str) (g s : Int) (b : Slot), HOk g s ∧ M' = HP P a g s M0 ∧ (xs.length : Int) = i ∧ xs.length + ns.length = 11 ∧ (∀ w ∈ ns, w ∈ UNLK) ∧ (∀ w ∈ xs, w ∈ UNLK) ∧ (xs ++ ns).Nodup ∧ Γ = [.dat (.ref a), .dat (.int m), .own (.lst (ns.map .str)), .own (.lst (xs.map .str)), b]) ?_ ?_ _ ⟨by omega, by omega, UNLK, [], g, s, _, hs, rfl, rfl, rfl, fun _ h => h, fun _ h => (nomatch h), unlk_nd, rfl⟩
  · rintro i Γ M' ⟨hi, i0, ns, xs, g, s, b, hs, rfl, h1, h2, h3, h4, h5, rfl⟩
    unfold as__law_unlike_t1
    walk_at "gw"
    exact hq xs g s (by omega) (List.Nodup.sublist (List.sublist_append_left _ _) h5) h4 hs
  · rintro i k Γ M' K ⟨hi, i0, ns, xs, g, s, b, hs, rfl, h1, h2, h3, h4, h5, rfl⟩ hK
    unfold as__law_unlike_b1
    walk_at "gw"
    refine ⟨P, a, g, s, M0, _, rfl, rfl, ha, hs, by simp only [List.length_map]; omega, by simp only [List.length_map]; omega, fun d g' s' d0 d1 hs' => ?_⟩
    have d2 : d < (ns.length : Int) := by simpa using d1
    obtain ⟨x, e1, e2⟩ := atI_in (xs := ns.map D.str) d0 d1
    have e3 : seqIndex? d (ns.map D.str).length = some d.toNat := seq_ix d0 d1
    have dl : d.toNat < ns.length := by omega
    have e4 : (ns.map D.str)[d.toNat]? = some (.str ns[d.toNat]) := by rw [List.getElem?_map, List.getElem?_eq_getElem dl]; rfl
    walk_at "gw"
    refine ⟨⟨by first | omega | (simp only [List.length_map]; omega), by first | omega | (simp only [List.length_map]; omega)⟩, ?_⟩
    simp only [e3, e4]
    refine ⟨by first | omega | (simp only [List.length_map]; omega), hK _ _ ⟨by omega, by omega, ns.eraseIdx d.toNat, xs ++ [ns[d.toNat]], g', s', _, hs', rfl, by rw [List.length_append]; simp; omega, by rw [List.length_append, List.length_eraseIdx_of_lt dl]; simp; omega, fun w hw => h3 w ((List.eraseIdx_sublist _ _).subset hw), fun w hw => ?_, nd_move dl h5, by rw [List.map_append, erase_map]; rfl⟩⟩
    rcases List.mem_append.mp hw with hw | hw
    · exact h4 w hw
    · rw [List.mem_singleton.mp hw]; exact h3 _ (List.getElem_mem dl)
theorem rd__law_deeds (n : Nat) : ∀ ds M Q, R__law_deeds (n + 1) ds M Q → as__law_deeds n (endsOf Q) (slots N__law_deeds.length ds) M := by
  rintro ds M Q ⟨a, p, g, s, M0, l, v, rfl, rfl, ha, hp, hs, hl, hv, hn, hq⟩
  show as__law_deeds n (endsOf Q) [.dat (.ref a), .dat (.ref p), .dat (.int v), .non, .non] _
  unfold as__law_deeds
  walk_at "gw"
  refine ⟨by decide, [(p, potD l)], a, g, s, M0, _, rfl, rfl, ha, hs, by simp, by simp, fun d g1 s1 hd hs1 => ?_⟩
  have hd2 : ∃ k : Nat, d = .int k ∧ k ≤ 4 := by
    simp only [List.mem_cons, List.not_mem_nil, or_false] at hd
    rcases hd with rfl | rfl | rfl | rfl | rfl | rfl | rfl
    · exact ⟨0, rfl, by omega⟩
    · exact ⟨1, rfl, by omega⟩
    · exact ⟨1, rfl, by omega⟩
    · exact ⟨2, rfl, by omega⟩
    · exact ⟨2, rfl, by omega⟩
    · exact ⟨3, rfl, by omega⟩
    · exact ⟨4, rfl, by omega⟩
  obtain ⟨k, rfl, hk⟩ := hd2
  walk_at "gw"
  refine ⟨⟨by omega, by omega⟩, ?_⟩
  refine forR (fun i j Γ M' => i + j = k ∧ 0 ≤ i ∧ ∃ (es : List D) (c l' : Nat) (g s : Int) (b : Slot), HOk g s ∧ M' = PM p l' a g s M0 ∧ (es.length : Int) ≤ i ∧ DsG (v + 1) es c ∧ c + l' = l ∧ Γ = [.dat (.ref a), .dat (.ref p), .dat (.int v), .own (.lst es), b]) ?_ ?_ _ ⟨by omega, by omega, [], 0, l, g1, s1, _, hs1, rfl, by simp, .nil, by omega, rfl⟩
  · rintro i Γ M' ⟨hi, i0, es, c, l', g, s, b, hs, rfl, h1, h2, h3, rfl⟩
    unfold as__law_deeds_t1
    walk_at "gw"
    exact hq es c l' g s (by omega) h2 h3 hs
  · rintro i j Γ M' K ⟨hi, i0, es, c, l', g, s, b, hs, rfl, h1, h2, h3, rfl⟩ hK
    have lkp := pm_lkp p l' a g s M0
    unfold potD at lkp
    have hn1 := pot_left l'
    unfold pk at hn1
    unfold as__law_deeds_b1
    by_cases e : 0 < (l' : Int)
    · walk_at "gwx"
      simp only [decide_true, if_true]
      refine ⟨a, p, g, s, M0, l', v, rfl, rfl, ha_pm ha, hp, hs, by omega, by omega, hv, by omega, fun d c' l2 g2 s2 h4 h5 h6 => ?_⟩
      walk_at "gw"
      exact ⟨by omega, hK _ _ ⟨by omega, by omega, es ++ [d], c + c', l2, g2, s2, _, h6, rfl, by rw [List.length_append]; simp; omega, h2.append (.one h4), by omega, rfl⟩⟩
    · walk_at "gwx"
      simp only [decide_false, Bool.false_eq_true, if_false]
      exact hK _ _ ⟨by omega, by omega, es, c, l', g, s, _, hs, rfl, by omega, h2, h3, rfl⟩
theorem rd__law_deed (n : Nat) : ∀ ds M Q, R__law_deed (n + 1) ds M Q → as__law_deed n (endsOf Q) (slots N__law_deed.length ds) M := by
  rintro ds M Q ⟨a, p, g, s, M0, l, v, rfl, rfl, ha, hp, hs, l0, hl, hv, hn, hq⟩
  show as__law_deed n (endsOf Q) [.dat (.ref a), .dat (.ref p), .dat (.int v), .non, .non, .non, .non] _
  obtain ⟨l, rfl⟩ : ∃ k, l = k + 1 := ⟨l - 1, by omega⟩
  have rest : ∀ (ws : List Str), (∀ w ∈ ws, ∃ s, lookD FORMS w = some s ∧ (v = 0 → ("d" : Str) ∉ chs s)) → 0 < ws.length → ws.length ≤ 1000 → as__law_deed_t2 n (endsOf Q) [.dat (.ref a), .dat (.ref p), .dat (.int v), .dat (.lst (ws.map .str)), .non, .non, .non] (PM p l a g s M0) := by
    intro ws hws w0 w1
    unfold as__law_deed_t2
    walk_at "gw"
    refine ⟨[(p, potD l)], a, g, s, M0, _, rfl, rfl, ha_pm ha, hs, by simpa using w0, by simp only [List.length_map]; omega, fun d g1 s1 hd hs1 => ?_⟩
    obtain ⟨w, hw, rfl⟩ := List.mem_map.mp hd
    obtain ⟨f, hf, hd0⟩ := hws w hw
    have hgs : getA (FORMS.map fun q => (.inr q.1 : Key)) (FORMS.map fun q => D.str q.2) (.inr w) = some (.str f) := by rw [forms_get, hf]; rfl
    have cm := chs_mem hf
    walk_at "gw"
    refine ⟨by omega, rfl, ?_⟩
    unfold formsD
    walk_at "gwx"
    rw [sgD_chs]
    refine forA D.str (fun dn ls Γ M' => chs f = dn ++ ls ∧ ∃ (rs : List (Str × D × Nat)) (l' : Nat) (g s : Int) (b c : Slot), HOk g s ∧ M' = PM p l' a g s M0 ∧ rs.map (·.1) = dn ∧ rs.length ≤ 2 ∧ (∀ r ∈ rs, PartG (DeedG v) r.1 r.2.1 r.2.2) ∧ (rs.map (·.2.2)).sum + l' = l ∧
      Γ = [.dat (.ref a), .dat (.ref p), .dat (.int v), .dat (.lst (ws.map .str)), .own (.lst (.str w :: rs.map (·.2.1))), b, c]) ?_ ?_ _ [] ⟨rfl, [], l, g1, s1, _, _, hs1, rfl, rfl, by simp, fun _ h => (nomatch h), by simp, rfl⟩
    · rintro dn Γ M' ⟨e, rs, l', g, s, b, c, hs, rfl, e2, _, hr, hl', rfl⟩
      unfold as__law_deed_t1
      walk_at "gw"
      rw [List.append_nil] at e
      exact hq _ (1 + (rs.map (·.2.2)).sum) l' g s ⟨w, f, rs, rfl, hf, by rw [e, ← e2], hr, rfl⟩ (by omega) hs
    · rintro dn z ls Γ M' K ⟨e, rs, l', g, s, b, c, hs, rfl, e2, lr, hr, hl', rfl⟩ hK
      have two := forms_two hf
      rw [sgD_chs, List.length_map, e] at two
      have lr2 : rs.length + 1 ≤ 2 := by
        have := congrArg List.length e2
        simp only [List.length_map] at this
        simp only [List.length_append, List.length_cons] at two
        omega
      have hz := cm z (by rw [e]; simp)
      have go : ∀ (q : D) (k l2 : Nat) (g s : Int) (c : Slot), HOk g s → PartG (DeedG v) z q k → k + l2 = l' → K [.dat (.ref a), .dat (.ref p), .dat (.int v), .dat (.lst (ws.map .str)), .own (.lst (.str w :: rs.map (·.2.1) ++ [q])), .dat (.str z), c] (PM p l2 a g s M0) := by
        intro q k l2 g s c hs hp hl2
        refine hK _ _ ⟨by rw [e]; simp, rs ++ [(z, q, k)], l2, g, s, .dat (.str z), c, hs, rfl, by rw [List.map_append, e2]; rfl, by rw [List.length_append]; simpa using lr2, fun r h => ?_, by rw [List.map_append, List.sum_append]; simp; omega, ?_⟩
        · rcases List.mem_append.mp h with h | h
          · exact hr r h
          · rw [List.mem_singleton.mp h]; exact hp
        · rw [List.map_append, List.cons_append]; rfl
      clear hK
      unfold as__law_deed_b1
      by_cases z1 : z = ("d" : Str)
      · subst z1
        walk_at "gw"
        have v0 : v ≠ 0 := fun h => hd0 h (by rw [e]; simp)
        obtain ⟨v', rfl⟩ : ∃ k, v = k + 1 := ⟨v - 1, by omega⟩
        refine ⟨a, p, g, s, M0, l', v', by rw [show ((v' + 1 : Nat) : Int) - 1 = (v' : Int) by omega], rfl, ha_pm ha, hp, hs, by omega, by omega, by omega, fun es c' l2 g2 s2 h4 h5 h6 h7 => ?_⟩
        walk_at "gw"
        exact ⟨by simp only [List.length_cons, List.length_map]; omega, go _ c' l2 g2 s2 _ h7 (.inl ⟨rfl, es, rfl, h4, h5⟩) h6⟩
      · walk_at "gw"
        simp only [z1, decide_false, Bool.false_eq_true, if_false]
        by_cases z2 : z = ("w" : Str)
        · subst z2
          walk_at "gw"
          simp only [decide_true, if_true]
          refine ⟨[(p, potD l')], a, g, s, M0, _, rfl, rfl, ha_pm ha, hs, by decide, by decide, fun m g2 s2 m0 m1 hs2 => ?_⟩
          walk_at "gw"
          refine ⟨⟨by omega, by omega⟩, ?_⟩
          refine lcR (fun i k acc Γ M' => i + k = 1 + m ∧ 0 ≤ i ∧ ∃ (xs : List Str) (g s : Int), HOk g s ∧ M' = PM p l' a g s M0 ∧ (xs.length : Int) = i ∧ (∀ x ∈ xs, x ∈ NAMES) ∧ acc = xs.map .str ∧ Γ = [.dat (.ref a), .dat (.ref p), .dat (.int v), .dat (.lst (ws.map .str)), .own (.lst (.str w :: rs.map (·.2.1))), .dat (.str "w"), .non]) ?_ ?_ _ _ ⟨by omega, by omega, [], g2, s2, hs2, rfl, rfl, fun _ h => (nomatch h), rfl, rfl⟩
          · rintro i acc Γ M' ⟨hi, i0, xs, g, s, hs, rfl, h1, h2, rfl, rfl⟩
            walk_at "gw"
            exact ⟨by simp only [List.length_cons, List.length_map]; omega, go _ 0 l' g s _ hs (.inr ⟨by decide, rfl, .inr (.inr (.inr ⟨rfl, xs, by omega, by omega, fun x hx => names_ok x (h2 x hx), rfl⟩))⟩) (by omega)⟩
          · rintro i k acc Γ M' K' ⟨hi, i0, xs, g, s, hs, rfl, h1, h2, rfl, rfl⟩ hK'
            unfold as__law_deed_e1
            walk_at "gw"
            refine ⟨a, p, l', g, s, M0, rfl, rfl, ha_pm ha, hs, fun x g' s' hx hs' => ?_⟩
            walk_at "gw"
            refine ⟨by rw [List.length_map]; omega, hK' _ _ _ ⟨by omega, by omega, xs ++ [x], g', s', hs', rfl, by rw [List.length_append]; simp; omega, fun y hy => ?_, by rw [List.map_append]; rfl, rfl⟩⟩
            rcases List.mem_append.mp hy with hy | hy
            · exact h2 y hy
            · rw [List.mem_singleton.mp hy]; exact hx
        · simp only [z2, decide_false, Bool.false_eq_true, if_false]
          refine ⟨a, p, l', g, s, M0, rfl, rfl, ha_pm ha, hs, fun x g2 s2 hx hs2 => ?_⟩
          walk_at "gw"
          refine ⟨[(p, potD l')], a, g2, s2, M0, _, rfl, rfl, ha_pm ha, hs2, by decide, by decide, fun j g3 s3 j0 j1 hs3 => ?_⟩
          walk_at "gw"
          refine ⟨[(p, potD l')], a, g3, s3, M0, _, rfl, rfl, ha_pm ha, hs3, by decide, by decide, fun t g4 s4 t0 t1 hs4 => ?_⟩
          walk_at "gw"
          have hz3 : z = ("n" : Str) ∨ z = ("j" : Str) ∨ z = ("t" : Str) := by
            simp only [List.mem_cons, List.not_mem_nil, or_false] at hz
            rcases hz with h | h | h | h | h
            · exact .inl h
            · exact .inr (.inl h)
            · exact .inr (.inr h)
            · exact (z1 h).elim
            · exact (z2 h).elim
          have ln : (List.map (fun r : Str × D × Nat => r.2.1) rs).length < 16777215 := by rw [List.length_map]; omega
          have fin : ∀ q, GoodP z q → K [.dat (.ref a), .dat (.ref p), .dat (.int v), .dat (.lst (ws.map .str)), .own (.lst (.str w :: rs.map (·.2.1) ++ [q])), .dat (.str z), c] (PM p l' a g4 s4 M0) := fun q hq => go q 0 l' g4 s4 c hs4 (.inr ⟨z1, rfl, hq⟩) (by omega)
          clear hz go
          rcases hz3 with rfl | rfl | rfl
          · exact ⟨by decide, ⟨by omega, fin (.str x) (.inl ⟨rfl, x, names_ok x hx, rfl⟩)⟩⟩
          · exact ⟨by decide, ⟨by omega, fin (.int (1 + j)) (.inr (.inl ⟨rfl, _, by omega, by omega, rfl⟩))⟩⟩
          · exact ⟨by decide, ⟨by omega, fin (.int t) (.inr (.inr (.inl ⟨rfl, _, by omega, by omega, rfl⟩)))⟩⟩
  have lkp := pm_lkp p (l + 1 : Nat) a g s M0
  have lkp2 := pm_lkp p l a g s M0
  have put := pm_put (ha_pm ha) hp (l + 1 : Nat) g s l
  have hn1 := pot_left (l + 1 : Nat)
  have hn2 := pot_left l
  have hp1 := pot_put (l + 1 : Nat) l
  unfold potD at lkp put lkp2
  unfold pk at hn1 hn2 hp1
  have hl1 : ((l + 1 : Nat) : Int) - 1 = l := by omega
  have flat : ∀ w ∈ FLAT, ∃ s, lookD FORMS w = some s ∧ (v = 0 → ("d" : Str) ∉ chs s) := fun w hw => by
    obtain ⟨s, h1, h2⟩ := flat_look w hw
    exact ⟨s, h1, fun _ => h2⟩
  unfold as__law_deed
  walk_at "gwx"
  refine ⟨by decide, by decide, ?_⟩
  have one : as__law_deed_t2 n (endsOf Q) [.dat (.ref a), .dat (.ref p), .dat (.int v), .dat (.lst (FLAT.map .str)), .non, .non, .non] (PM p l a g s M0) := rest FLAT flat (by decide) (by decide)
  by_cases e1 : 0 < (v : Int)
  · simp only [e1, decide_true, if_true]
    by_cases e2 : 0 < (l : Int)
    · simp only [e2, decide_true, if_true]
      refine ⟨by decide, by decide, by decide, ?_⟩
      refine rest (FLAT ++ (DEEP ++ DEEP)) (fun w hw => ?_) (by decide) (by decide)
      rcases List.mem_append.mp hw with hw | hw
      · exact flat w hw
      · have hw2 : w ∈ DEEP := (List.mem_append.mp hw).elim id id
        obtain ⟨s, h⟩ := deep_look w hw2
        exact ⟨s, h, fun z => by omega⟩
    · simp only [e2, decide_false, Bool.false_eq_true, if_false]
      exact one
  · simp only [e1, decide_false, Bool.false_eq_true, if_false]
    exact one
def BoG (bo : List Bo) : Prop := ∀ b ∈ bo, nameB b.n = true ∧ NsG b.ws
theorem nsG_of {ws : List Str} {m : Nat} (l : ws.length = m) (l1 : 1 ≤ m) (l5 : m ≤ 5) (nd : ws.Nodup) (h : ∀ w ∈ ws, w ∈ UNLK) : NsG ws := ⟨by omega, by omega, fun w hw => unlk_ok w (h w hw), nd⟩
theorem take_succ_get {α : Type} {xs : List α} {i : Nat} (h : i < xs.length) : xs.take (i + 1) = xs.take i ++ [xs[i]] := by rw [List.take_succ, List.getElem?_eq_getElem h]; rfl
theorem rd__law_formed : ∀ ds M Q, S__law_formed ds M Q → as__law_formed (endsOf (wk Q)) (slots N__law_formed.length ds) M := by
  rintro ds M Q ⟨a, g, s, M0, n, rfl, rfl, ha, hs, hn, hq⟩
  show as__law_formed (endsOf (wk Q)) [.dat (.ref a), .dat (.int n), .non, .non, .non, .non, .non] _
  unfold as__law_formed
  walk_at "gw"
  refine ⟨by decide, by decide, fun p hp => ?_⟩
  obtain ⟨pa, pm⟩ := dom_hp hp
  have ha2 : ∀ l, HA [(p, potD l)] a M0 := fun l => ⟨fun z => pa (List.mem_singleton.mp z).symm, ha.m⟩
  refine ⟨[(p, potD n)], a, g, s, M0, 8, rfl, rfl, ha2 _, hs, by omega, fun names g1 s1 nl nnd nm hs1 => ?_⟩
  walk_at "gw"
  refine ⟨by decide, [(p, potD n)], a, g1, s1, M0, _, rfl, rfl, ha2 _, hs1, by simp, by simp, fun d g2 s2 hd hs2 => ?_⟩
  have hd2 : ∃ k : Nat, d = .int k ∧ k ≤ 8 := by
    simp only [List.mem_cons, List.not_mem_nil, or_false] at hd
    rcases hd with rfl | rfl | rfl | rfl | rfl | rfl
    · exact ⟨0, rfl, by omega⟩
    · exact ⟨0, rfl, by omega⟩
    · exact ⟨1, rfl, by omega⟩
    · exact ⟨2, rfl, by omega⟩
    · exact ⟨3, rfl, by omega⟩
    · exact ⟨8, rfl, by omega⟩
  obtain ⟨k, rfl, hk⟩ := hd2
  walk_at "gw"
  refine ⟨⟨by omega, by omega⟩, ?_⟩
  refine forR (fun i j Γ M' => i + j = k ∧ 0 ≤ i ∧ ∃ (bo : List Bo) (cs : List Nat) (l : Nat) (g s : Int) (b : Slot), HOk g s ∧ M' = PM p l a g s M0 ∧ (bo.length : Int) = i ∧ Paired (DsG 6) (bo.map (·.ds)) cs ∧ cs.sum + l = n ∧ BoG bo ∧ bo.map (·.n) = names.take i.toNat ∧
    Γ = [.dat (.ref a), .dat (.int n), .dat (.ref p), .own (.lst (bo.map boG)), .dat (.tup (names.map .str)), b, .non]) ?_ ?_ _ ⟨by omega, by omega, [], [], n, g2, s2, _, hs2, rfl, rfl, .nil, by simp, fun _ h => (nomatch h), rfl, rfl⟩
  · rintro i Γ M' ⟨hi, i0, bo, cs, l, g, s, b, hs, rfl, h1, h2, h3, hbn, hnm, rfl⟩
    unfold as__law_formed_t2
    walk_at "gw"
    refine ⟨[(p, potD l)], a, g, s, M0, _, rfl, rfl, ha2 _, hs, by decide, by decide, fun m g3 s3 m0 m1 hs3 => ?_⟩
    walk_at "gw"
    refine ⟨⟨by omega, by omega⟩, ?_⟩
    refine forR (fun i j Γ M' => i + j = m ∧ 0 ≤ i ∧ ∃ (es : List D) (c l : Nat) (g s : Int) (b : Slot), HOk g s ∧ M' = PM p l a g s M0 ∧ (es.length : Int) ≤ 4 * i ∧ DsG 6 es c ∧ cs.sum + c + l = n ∧
      Γ = [.dat (.ref a), .dat (.int n), .dat (.ref p), .own (.lst (bo.map boG)), .dat (.tup (names.map .str)), b, .dat (.tup es)]) ?_ ?_ _ ⟨by omega, by omega, [], 0, l, g3, s3, _, hs3, rfl, by simp, .nil, by omega, rfl⟩
    · rintro i Γ M' ⟨hi, i0, es, c, l, g, s, b, hs, rfl, h4, h5, h6, rfl⟩
      unfold as__law_formed_t1
      walk_at "gw"
      refine ⟨[(p, potD l)], a, g, s, M0, _, rfl, rfl, ha2 _, hs, by decide, by decide, fun m g4 s4 m0 m1 hs4 => ?_⟩
      walk_at "gw"
      refine ⟨[(p, potD l)], a, g4, s4, M0, (1 + m).toNat, by rw [Int.toNat_of_nonneg (by omega)], rfl, ha2 _, hs4, by omega, fun ws g5 s5 wl wnd wm hs5 => ?_⟩
      walk_at "gw"
      refine ⟨by omega, ?_⟩
      exact wk_tail (hq ⟨ws, bo, es⟩ g5 s5 ⟨nsG_of wl (by omega) (by omega) wnd wm, by simp only; omega, by rw [hnm]; exact nnd.sublist (List.take_sublist _ _), hbn, cs ++ [c], paired_snoc h5 h2, by rw [List.sum_append]; simp; omega⟩ hs5)
    · rintro i j Γ M' K ⟨hi, i0, es, c, l, g, s, b, hs, rfl, h4, h5, h6, rfl⟩ hK
      unfold as__law_formed_b2
      walk_at "gw"
      refine ⟨[(p, potD l)], a, g, s, M0, _, rfl, rfl, ha2 _, hs, by decide, by decide, fun v g4 s4 v0 v1 hs4 => ?_⟩
      walk_at "gw"
      refine ⟨a, p, g4, s4, M0, l, v.toNat, by rw [Int.toNat_of_nonneg v0], rfl, ha2 _, pm, hs4, by omega, by omega, by omega, fun fs c' l2 g5 s5 h7 h8 h9 hs5 => ?_⟩
      walk_at "gw"
      have h8' := DsG.mono h8 (show v.toNat + 1 ≤ 6 by omega)
      exact ⟨by omega, hK _ _ ⟨by omega, by omega, es ++ fs, c + c', l2, g5, s5, _, hs5, rfl, by rw [List.length_append]; omega, h5.append h8', by omega, rfl⟩⟩
  · rintro i j Γ M' K ⟨hi, i0, bo, cs, l, g, s, b, hs, rfl, h1, h2, h3, hbn, hnm, rfl⟩ hK
    unfold as__law_formed_b1
    have il : i.toNat < names.length := by omega
    obtain ⟨x, e1, e2⟩ := atI_in (xs := names.map D.str) (i := i) i0 (by simp only [List.length_map]; omega)
    rw [List.getElem?_map, List.getElem?_eq_getElem il] at e2
    obtain rfl : .str names[i.toNat] = x := by simpa using e2
    have xm := nm _ (List.getElem_mem il)
    have xe : names[i.toNat] = names[i.toNat] := rfl
    revert e1 e2 xm xe
    generalize hx : names[i.toNat] = x
    intro e1 e2 xm xe
    clear xe
    have xe := hx
    clear hx
    walk_at "gw"
    simp only [e1]
    first | walk_at "gw" | skip
    refine ⟨[(p, potD l)], a, g, s, M0, _, rfl, rfl, ha2 _, hs, by decide, by decide, fun m g3 s3 m0 m1 hs3 => ?_⟩
    walk_at "gw"
    refine ⟨[(p, potD l)], a, g3, s3, M0, (1 + m).toNat, by rw [Int.toNat_of_nonneg (by omega)], rfl, ha2 _, hs3, by omega, fun ws g4 s4 wl wnd wm hs4 => ?_⟩
    walk_at "gw"
    refine ⟨[(p, potD l)], a, g4, s4, M0, _, rfl, rfl, ha2 _, hs4, by decide, by decide, fun v g5 s5 v0 v1 hs5 => ?_⟩
    walk_at "gw"
    refine ⟨a, p, g5, s5, M0, l, v.toNat, by rw [Int.toNat_of_nonneg v0], rfl, ha2 _, pm, hs5, by omega, by omega, by omega, fun fs c' l2 g6 s6 h7 h8 h9 hs6 => ?_⟩
    walk_at "gw"
    have h8' := DsG.mono h8 (show v.toNat + 1 ≤ 6 by omega)
    refine ⟨by omega, by rw [List.length_map]; omega, hK _ _ ⟨by omega, by omega, bo ++ [⟨x, ws, fs⟩], cs ++ [c'], l2, g6, s6, _, hs6, rfl, by rw [List.length_append]; simp; omega, by rw [List.map_append]; exact paired_snoc h8' h2, by rw [List.sum_append]; simp; omega, fun b hb => ?_, ?_, by rw [List.map_append]; rfl⟩⟩
    · rcases List.mem_append.mp hb with hb | hb
      · exact hbn b hb
      · rw [List.mem_singleton.mp hb]; exact ⟨unlk_ok x xm, nsG_of wl (by omega) (by omega) wnd wm⟩
    · rw [List.map_append, hnm, show (i + 1).toNat = i.toNat + 1 by omega, take_succ_get il, xe]
      rfl
theorem gdp : G_DEED_PARTS = FORMS := rfl
theorem zip_maps {α β γ : Type} (f : α → β) (g : α → γ) : ∀ rs : List α, (rs.map f).zip (rs.map g) = rs.map fun r => (f r, g r)
  | [] => rfl
  | r :: rs => by simp only [List.map_cons, List.zip_cons_cons, zip_maps f g rs]
structure DZ (n : Nat) (d : D) (c : Nat) (w s : Str) (ps : List D) (rs : List (Str × D × Nat)) : Prop where
  e : d = .tup (.str w :: ps)
  l : lookD FORMS w = some s
  ps : ps = rs.map (·.2.1)
  cs : chs s = rs.map (·.1)
  ok : ∀ r ∈ rs, PartG (DeedG (n - 1)) r.1 r.2.1 r.2.2
  c : c = 1 + (rs.map (·.2.2)).sum
theorem DeedG.dz {n : Nat} {d : D} {c : Nat} (h : DeedG n d c) : ∃ w s ps rs, DZ n d c w s ps rs := by
  cases n with
  | zero => exact h.elim
  | succ n =>
    obtain ⟨w, s, rs, e1, e2, e3, h, e4⟩ := h
    exact ⟨w, s, _, rs, e1, e2, rfl, e3, h, e4⟩
theorem DZ.zs {n : Nat} {d : D} {c : Nat} {w s : Str} {ps : List D} {rs : List (Str × D × Nat)} (h : DZ n d c w s ps rs) : zsD d = rs.map fun r => (r.1, r.2.1) := by
  rw [h.e, zsD, h.l]
  simp only
  rw [h.cs, h.ps, zip_maps]
theorem DZ.zip {n : Nat} {d : D} {c : Nat} {w s : Str} {ps : List D} {rs : List (Str × D × Nat)} (h : DZ n d c w s ps rs) : zipD (sgD s) ps = (rs.map fun r => (r.1, r.2.1)).map rowE := by
  rw [sgD_chs, zip_rows, h.cs, h.ps, zip_maps]
theorem DZ.wd {n : Nat} {d : D} {c : Nat} {w s : Str} {ps : List D} {rs : List (Str × D × Nat)} (h : DZ n d c w s ps rs) : wdD d = w := by rw [h.e]; rfl
theorem DZ.two {n : Nat} {d : D} {c : Nat} {w s : Str} {ps : List D} {rs : List (Str × D × Nat)} (h : DZ n d c w s ps rs) : rs.length ≤ 2 := by
  have := forms_two h.l
  rw [sgD_chs, List.length_map, h.cs, List.length_map] at this
  exact this
theorem words_ok : ∀ w ∈ FORMS.map (·.1), w.length ≤ 8 := by decide +kernel
theorem word_len {w s : Str} (h : lookD FORMS w = some s) : w.length ≤ 8 := words_ok w (List.mem_map.mpr ⟨_, forms_mem h, rfl⟩)
theorem name_len {x : Str} (h : nameB x = true) : x.length ≤ 8 := by
  unfold nameB at h
  simp only [Bool.and_eq_true, decide_eq_true_eq] at h
  exact h.2.1
theorem dig_len : ∀ i : Int, 0 ≤ i → i ≤ 9 → (strW (.int i)).length ≤ 8 := by
  intro i h0 h1
  have : i = 0 ∨ i = 1 ∨ i = 2 ∨ i = 3 ∨ i = 4 ∨ i = 5 ∨ i = 6 ∨ i = 7 ∨ i = 8 ∨ i = 9 := by omega
  rcases this with rfl | rfl | rfl | rfl | rfl | rfl | rfl | rfl | rfl | rfl <;> decide +kernel
theorem dig_log (i : Int) (h0 : 0 ≤ i) (h1 : i ≤ 9) : i.natAbs.log2 < 1920 := by
  have : i.natAbs < 10 := by omega
  generalize i.natAbs = m at *
  have : m = 0 ∨ m = 1 ∨ m = 2 ∨ m = 3 ∨ m = 4 ∨ m = 5 ∨ m = 6 ∨ m = 7 ∨ m = 8 ∨ m = 9 := by omega
  rcases this with rfl | rfl | rfl | rfl | rfl | rfl | rfl | rfl | rfl | rfl <;> decide +kernel
theorem good_words {ch : Str} {p : D} (h : GoodP ch p) : (wordsP (ch, p)).length ≤ 5 ∧ ∀ x ∈ wordsP (ch, p), x.length ≤ 8 := by
  rcases h with ⟨rfl, x, hx, rfl⟩ | ⟨rfl, i, h1, h2, rfl⟩ | ⟨rfl, i, h1, h2, rfl⟩ | ⟨rfl, xs, h1, h2, h3, rfl⟩
  · show [x].length ≤ 5 ∧ ∀ y ∈ [x], y.length ≤ 8
    exact ⟨by simp, fun y hy => by rw [List.mem_singleton.mp hy]; exact name_len hx⟩
  · show [strW (.int i)].length ≤ 5 ∧ ∀ y ∈ [strW (.int i)], y.length ≤ 8
    exact ⟨by simp, fun y hy => by rw [List.mem_singleton.mp hy]; exact dig_len i (by omega) (by omega)⟩
  · show [strW (.int i)].length ≤ 5 ∧ ∀ y ∈ [strW (.int i)], y.length ≤ 8
    exact ⟨by simp, fun y hy => by rw [List.mem_singleton.mp hy]; exact dig_len i (by omega) (by omega)⟩
  · show ((xs.map D.str).map txtOf).length ≤ 5 ∧ ∀ y ∈ (xs.map D.str).map txtOf, y.length ≤ 8
    rw [List.map_map, show (txtOf ∘ D.str) = id from rfl, List.map_id]
    exact ⟨h2, fun y hy => name_len (h3 y hy)⟩
theorem part_words {P : D → Nat → Prop} {ch : Str} {p : D} {k : Nat} (h : PartG P ch p k) : (wordsP (ch, p)).length ≤ 5 ∧ ∀ x ∈ wordsP (ch, p), x.length ≤ 8 := by
  rcases h with ⟨rfl, _, _⟩ | ⟨_, _, h⟩
  · exact ⟨by show [].length ≤ 5; simp, fun x hx => (nomatch (show x ∈ [] from hx))⟩
  · exact good_words h
theorem sum_le {α : Type} {f : α → Nat} {k : Nat} : ∀ {xs : List α}, (∀ x ∈ xs, f x ≤ k) → (xs.map f).sum ≤ k * xs.length
  | [], _ => by simp
  | x :: xs, h => by
    have h1 := h x List.mem_cons_self
    have h2 := sum_le (xs := xs) (fun y hy => h y (List.mem_cons_of_mem _ hy))
    simp only [List.map_cons, List.sum_cons, List.length_cons]
    rw [Nat.mul_succ]
    omega
theorem head_few {n : Nat} {d : D} {c : Nat} (h : DeedG n d c) : (headWs d).length ≤ 11 ∧ ∀ x ∈ headWs d, x.length ≤ 8 := by
  obtain ⟨w, s, ps, rs, z⟩ := h.dz
  unfold headWs
  rw [z.zs, z.wd, List.map_map]
  have two := z.two
  have hp : ∀ r ∈ rs, _ := fun r hr => part_words (z.ok r hr)
  constructor
  · rw [List.length_cons, List.length_flatten, List.map_map]
    have := sum_le (f := fun r : Str × D × Nat => (wordsP (r.1, r.2.1)).length) (k := 5) (xs := rs) fun r hr => (hp r hr).1
    have e : (rs.map (List.length ∘ (wordsP ∘ fun r => (r.1, r.2.1)))).sum ≤ 5 * rs.length := this
    omega
  · intro x hx
    rcases List.mem_cons.mp hx with rfl | hx
    · exact word_len z.l
    · obtain ⟨l, hl, hx⟩ := List.mem_flatten.mp hx
      obtain ⟨r, hr, rfl⟩ := List.mem_map.mp hl
      exact (hp r hr).2 x hx
theorem rd_head_of : ∀ ds M Q, S_head_of ds M Q → as_head_of (endsOf Q) (slots N_head_of.length ds) M := by
  rintro ds M Q ⟨d, n, c, rfl, hd, hq⟩
  obtain ⟨hl1, hl2⟩ := head_few hd
  obtain ⟨w, s, ps, rs, z⟩ := hd.dz
  have wd := z.wd
  have zz := z.zip
  have zs := z.zs
  have two := z.two
  have hok := z.ok
  have lk := z.l
  unfold headD at hq
  unfold headWs at hq hl1 hl2
  rw [zs, wd] at hq hl1 hl2
  obtain rfl := z.e
  clear hd zs wd
  show as_head_of (endsOf Q) [.dat (.tup (.str w :: ps)), .non, .non, .non, .non, .non] _
  have pl : ps.length ≤ 2 := by rw [z.ps, List.length_map]; exact two
  unfold as_head_of
  rw [gdp]
  walk_at "gsx"
  refine ⟨by omega, ?_⟩
  rw [show ps.length + 1 + 1 - 2 = ps.length by omega, List.drop_length, List.take_length, zz]
  simp only
  refine forA rowE (fun dn ls Γ M' => dn ++ ls = rs.map (fun r => (r.1, r.2.1)) ∧ M' = M ∧ ∃ b c, Γ = [.dat (.tup (.str w :: ps)), .dat (.str w), .dat (.lst ps), .own (.lst ((w :: (dn.map wordsP).flatten).map .str)), b, c]) ?_ ?_ _ [] ⟨rfl, rfl, _, _, rfl⟩
  · rintro dn Γ M' ⟨e, rfl, b, c, rfl⟩
    rw [List.append_nil] at e
    subst e
    unfold as_head_of_t1
    walk_at "gw"
    rw [show (D.str w :: (List.map D.str (List.map wordsP (List.map (fun r : Str × D × Nat => (r.1, r.2.1)) rs)).flatten)) = (w :: (List.map wordsP (List.map (fun r : Str × D × Nat => (r.1, r.2.1)) rs)).flatten).map D.str from rfl, strsD_map]
    refine ⟨?_, hq⟩
    have := sum_le (f := fun x : Str => x.length) (k := 8) hl2
    have e1 : (" " : Str).length = 1 := rfl
    rw [e1]
    omega
  · rintro dn q ls Γ M' K ⟨e, rfl, b, c, rfl⟩ hK
    have hm : q ∈ rs.map fun r => (r.1, r.2.1) := by rw [← e]; simp
    obtain ⟨r, hr, rfl⟩ := List.mem_map.mp hm
    have hp := hok r hr
    have dl : (dn.map wordsP).flatten.length + (wordsP (r.1, r.2.1)).length ≤ 10 := by
      rw [← e] at hl1
      simp only [List.map_append, List.map_cons, List.flatten_append, List.flatten_cons, List.length_cons, List.length_append] at hl1
      omega
    have go : ∀ b c xs, xs = wordsP (r.1, r.2.1) → K [.dat (.tup (.str w :: ps)), .dat (.str w), .dat (.lst ps), .own (.lst ((w :: (dn.map wordsP).flatten).map .str ++ xs.map .str)), b, c] M' := by
      rintro b c xs rfl
      refine hK _ _ ⟨by rw [List.append_assoc]; exact e, rfl, b, c, ?_⟩
      simp only [List.map_append, List.map_cons, List.map_nil, List.flatten_append, List.flatten_cons, List.flatten_nil, List.append_nil, List.cons_append]
    clear hK
    unfold as_head_of_b1 rowE
    rcases hp with ⟨e1, es, e2, _, _⟩ | ⟨nd, _, hg⟩
    · rw [e1, e2]
      rw [e1] at go
      walk_at "gw"
      rw [if_neg (by decide), if_neg (by simp)]
      have := go (.dat (.str "d")) (.dat (.tup es)) [] (by rw [e2]; rfl)
      rwa [List.map_nil, List.append_nil] at this
    · rcases hg with ⟨e1, x, hx, e2⟩ | ⟨e1, i, h1, h2, e2⟩ | ⟨e1, i, h1, h2, e2⟩ | ⟨e1, xs, h1, h2, h3, e2⟩ <;> rw [e1, e2] <;> rw [e1, e2] at go dl
      · walk_at "gw"
        rw [if_neg (by decide), if_pos (by decide)]
        exact ⟨by rw [List.length_map]; omega, go _ _ [x] rfl⟩
      · walk_at "gw"
        rw [if_neg (by decide), if_pos (by decide)]
        exact ⟨dig_log i (by omega) (by omega), by rw [List.length_map]; omega, go _ _ [strW (.int i)] rfl⟩
      · walk_at "gw"
        rw [if_neg (by decide), if_pos (by decide)]
        exact ⟨dig_log i (by omega) (by omega), by rw [List.length_map]; omega, go _ _ [strW (.int i)] rfl⟩
      · walk_at "gw"
        rw [if_pos (by simp)]
        exact ⟨by rw [List.length_map, List.length_map]; omega, go _ _ xs (by show xs = (xs.map D.str).map txtOf; rw [List.map_map, show (txtOf ∘ D.str) = id from rfl, List.map_id])⟩
theorem lots_of {P : D → Nat → Prop} : ∀ {rs : List (Str × D × Nat)}, (∀ r ∈ rs, PartG P r.1 r.2.1 r.2.2) →
    ∃ ls : List (List D × Nat), ((rs.map fun r => (r.1, r.2.1)).filter fun q : Str × D => decide (q.1 = ("d" : Str))).map (fun q => dsOf2 q.2) = ls.map (·.1) ∧ (∀ l ∈ ls, l.1.length ≤ 4 ∧ DsP P l.1 l.2) ∧ ls.length ≤ rs.length ∧ (ls.map (·.2)).sum = (rs.map (·.2.2)).sum
  | [], _ => ⟨[], rfl, fun _ h => (nomatch h), by simp, rfl⟩
  | r :: rs, h => by
    obtain ⟨ls, e1, e2, e3, e4⟩ := lots_of (rs := rs) fun x hx => h x (List.mem_cons_of_mem _ hx)
    rcases h r List.mem_cons_self with ⟨e, ds, e5, e6, e7⟩ | ⟨e, k0, _⟩
    · refine ⟨(ds, r.2.2) :: ls, ?_, fun l hl => ?_, by simp; omega, by simp only [List.map_cons, List.sum_cons]; omega⟩
      · rw [List.map_cons, List.filter_cons, if_pos (by simpa using e), List.map_cons, e1, e5]; rfl
      · rcases List.mem_cons.mp hl with rfl | hl
        · exact ⟨e6, e7⟩
        · exact e2 l hl
    · refine ⟨ls, ?_, e2, by simp; omega, by simp only [List.map_cons, List.sum_cons]; omega⟩
      rw [List.map_cons, List.filter_cons, if_neg (by simpa using e), e1]
theorem DZ.lots {n : Nat} {d : D} {c : Nat} {w s : Str} {ps : List D} {rs : List (Str × D × Nat)} (h : DZ n d c w s ps rs) : ∃ ls : List (List D × Nat), lotsD d = ls.map (·.1) ∧ (∀ l ∈ ls, l.1.length ≤ 4 ∧ DsG (n - 1) l.1 l.2) ∧ ls.length ≤ 2 ∧ 1 + (ls.map (·.2)).sum = c := by
  obtain ⟨ls, e1, e2, e3, e4⟩ := lots_of h.ok
  have := h.two
  refine ⟨ls, ?_, e2, by omega, by rw [e4, h.c]⟩
  unfold lotsD
  rw [h.zs, e1]
theorem rowsLs_len {f : D → List Int → List Row} {P : D → Nat → Prop} (hf : ∀ d k pl, P d k → (f d pl).length ≤ 3 * k) (pl : List Int) : ∀ {es : List D} {c : Nat} (b : Int), DsP P es c → (rowsLs f pl b es).length ≤ 3 * c
  | [], _, _, _ => Nat.zero_le _
  | d :: es, c, b, h => by
    obtain ⟨a, e, h1, h2, rfl⟩ := h.cons
    have i1 := hf d a (pl ++ [b]) h1
    have i2 := rowsLs_len hf pl (b + 1) h2
    rw [rowsLs, List.length_append]
    omega
theorem withR_len (j : Nat) : (withR j).length ≤ 1 := by unfold withR; split <;> simp
theorem lotsR_len {f : D → List Int → List Row} {P : D → Nat → Prop} (hf : ∀ d k pl, P d k → (f d pl).length ≤ 3 * k) (pl : List Int) : ∀ {ls : List (List D × Nat)} (j : Nat) (b : Int), (∀ l ∈ ls, DsP P l.1 l.2) → (lotsR f pl (j + 1) b (ls.map (·.1))).length ≤ ls.length + 3 * (ls.map (·.2)).sum
  | [], _, _, _ => Nat.zero_le _
  | l :: ls, j, b, h => by
    have i1 := rowsLs_len hf pl b (h l List.mem_cons_self)
    have i2 := lotsR_len hf pl (ls := ls) (j + 1) (b + l.1.length) fun x hx => h x (List.mem_cons_of_mem _ hx)
    have i3 := withR_len (j + 1)
    rw [List.map_cons, lotsR, List.length_append, List.length_append]
    simp only [List.length_cons, List.map_cons, List.sum_cons]
    omega
theorem lotsR_len0 {f : D → List Int → List Row} {P : D → Nat → Prop} (hf : ∀ d k pl, P d k → (f d pl).length ≤ 3 * k) (pl : List Int) {ls : List (List D × Nat)} (b : Int) (h : ∀ l ∈ ls, DsP P l.1 l.2) (l2 : ls.length ≤ 2) : (lotsR f pl 0 b (ls.map (·.1))).length ≤ 1 + 3 * (ls.map (·.2)).sum := by
  cases ls with
  | nil => exact Nat.zero_le _
  | cons l ls =>
    have i1 := rowsLs_len hf pl b (h l List.mem_cons_self)
    have i2 := lotsR_len hf pl (ls := ls) 0 (b + l.1.length) fun x hx => h x (List.mem_cons_of_mem _ hx)
    rw [List.map_cons, lotsR, List.length_append, List.length_append]
    simp only [List.length_cons, List.map_cons, List.sum_cons, withR, Nat.lt_irrefl, if_false, List.length_nil] at l2 ⊢
    omega
theorem endR_len (ls : List (List D)) : (endR ls).length ≤ 1 := by unfold endR; split <;> simp
theorem rowsF_len : ∀ {n : Nat} {d : D} {c : Nat} (pl : List Int), DeedG n d c → (rowsF n d pl).length ≤ 3 * c
  | 0, _, _, _, h => h.elim
  | n + 1, d, c, pl, h => by
    obtain ⟨w, s, ps, rs, z⟩ := h.dz
    obtain ⟨ls, e1, e2, e3, e4⟩ := z.lots
    rw [rowsF, List.length_cons, List.length_append, e1]
    have i1 := lotsR_len0 (fun d k pl => rowsF_len (n := n) (d := d) (c := k) pl) pl 0 (fun l hl => (e2 l hl).2) e3
    have i2 := endR_len (ls.map (·.1))
    omega
theorem rowsLs_len' {n : Nat} {es : List D} {c : Nat} (pl : List Int) (b : Int) (h : DsG n es c) : (rowsLs (rowsF n) pl b es).length ≤ 3 * c := rowsLs_len (f := rowsF n) (P := DeedG n) (fun d _ pl hd => rowsF_len pl hd) pl b h
def numD : Nat → List D → List (Nat × D)
  | _, [] => []
  | k, d :: ds => (k, d) :: numD (k + 1) ds
def numE (q : Nat × D) : D := .tup [.int q.1, q.2]
theorem enumD_num : ∀ (k : Nat) (ds : List D), enumD k ds = (numD k ds).map numE
  | _, [] => rfl
  | k, d :: ds => by rw [enumD, numD, List.map_cons, enumD_num (k + 1) ds]; rfl
theorem numD_mem {q : Nat × D} : ∀ {k : Nat} {ds : List D}, q ∈ numD k ds → q.2 ∈ ds ∧ q.1 < k + ds.length
  | k, d :: ds, h => by
    rcases List.mem_cons.mp h with rfl | h
    · exact ⟨List.mem_cons_self, by simp⟩
    · have := numD_mem h
      exact ⟨List.mem_cons_of_mem _ this.1, by simp only [List.length_cons]; omega⟩
theorem numD_rows (f : D → List Int → List Row) (pl : List Int) (b : Int) : ∀ (k : Nat) (ds : List D), (numD k ds).flatMap (fun q => f q.2 (pl ++ [b + (q.1 : Int)])) = rowsLs f pl (b + k) ds
  | _, [] => rfl
  | k, d :: ds => by
    rw [numD, List.flatMap_cons, numD_rows f pl b (k + 1) ds, rowsLs]
    congr 2
    omega
theorem DsP.mem {P : D → Nat → Prop} {es : List D} {c : Nat} (h : DsP P es c) : ∀ d ∈ es, ∃ k, P d k ∧ k ≤ c := by
  obtain ⟨qs, rfl, h1, rfl⟩ := h
  intro d hd
  obtain ⟨q, hq, rfl⟩ := List.mem_map.mp hd
  refine ⟨q.2, h1 q hq, ?_⟩
  clear h1 hd
  induction qs with
  | nil => cases hq
  | cons r qs ih =>
    rw [List.map_cons, List.sum_cons]
    rcases List.mem_cons.mp hq with rfl | hq
    · omega
    · have := ih hq; omega
theorem rd_rows_of_deeds (n : Nat) : ∀ ds M Q, R_rows_of_deeds (n + 1) ds M Q → as_rows_of_deeds n (endsOf Q) (slots N_rows_of_deeds.length ds) M := by
  rintro ds M Q ⟨es, pl, b, v, c, rfl, hd, hc, b0, b1, hp, hn, hq⟩
  show as_rows_of_deeds n (endsOf Q) [.dat (.tup es), .dat (.tup (pl.map .int)), .dat (.int b), .non, .non, .non] _
  have el := DsG.len hd
  unfold as_rows_of_deeds
  walk_at "gsx"
  rw [enumD_num]
  have fm := numD_rows (rowsF v) pl b 0 es
  rw [show b + ((0 : Nat) : Int) = b by omega] at fm
  refine lcO_A numE rwD (fun q => rowsF v q.2 (pl ++ [b + (q.1 : Int)])) (fun _ y => rwD y) (fun q => [.dat (.tup es), .dat (.tup (pl.map .int)), .dat (.int b), .dat (.int q.1), .dat q.2, .non]) (numD 0 es) [] ?_ (fun q hq P hP => ?_) (fun q hq => rfl) (fun q hq y hy P hP => ?_) ?_
  · rw [fm]
    have := rowsLs_len' pl b hd
    simp only [List.length_nil]
    omega
  · obtain ⟨h1, h2⟩ := numD_mem hq
    obtain ⟨k, h3, h4⟩ := hd.mem _ h1
    unfold numE
    walk_at "gw"
    refine ⟨by omega, by rw [List.length_map]; omega, q.2, pl ++ [b + (q.1 : Int)], v, k, by rw [List.map_append]; rfl, h3, by omega, by rw [List.length_append]; simp only [List.length_cons, List.length_nil]; omega, by omega, ?_⟩
    walk_at "gw"
    exact hP
  · unfold as_rows_of_deeds_e1
    walk_at "gw"
    exact hP
  · rw [← fm, List.map_flatMap] at hq
    walk_at "gw"
    exact hq
theorem lots_tup {P : D → Nat → Prop} : ∀ {rs : List (Str × D × Nat)}, (∀ r ∈ rs, PartG P r.1 r.2.1 r.2.2) →
    ((rs.map fun r => (r.1, r.2.1)).filter fun q : Str × D => decide (q.1 = ("d" : Str))).map (fun q => q.2) = (((rs.map fun r => (r.1, r.2.1)).filter fun q : Str × D => decide (q.1 = ("d" : Str))).map (fun q => dsOf2 q.2)).map .tup
  | [], _ => rfl
  | r :: rs, h => by
    have ih := lots_tup (rs := rs) fun x hx => h x (List.mem_cons_of_mem _ hx)
    rcases h r List.mem_cons_self with ⟨e, ds, e5, e6, e7⟩ | ⟨e, k0, _⟩
    · rw [List.map_cons, List.filter_cons, if_pos (by simpa using e), List.map_cons, List.map_cons, List.map_cons, ih, e5]; rfl
    · rw [List.map_cons, List.filter_cons, if_neg (by simpa using e), ih]
theorem rod_b1 {n v c j : Nat} {A : AEnds} {M : Mem} {es : List D} {pl : List Int} {b : Int} {rs : List Row} {s0 s2 s7 s8 : Slot} (hd : DsG v es c) (hc : c ≤ 60) (b0 : 0 ≤ b) (b1 : b ≤ 1000) (hp : pl.length + v ≤ 99) (hn : 2 * v + 1 ≤ n) (rl : rs.length ≤ 10000)
    (q : A.nx [s0, .dat (.tup (pl.map .int)), s2, .own (.lst ((rs ++ (withR j ++ rowsLs (rowsF v) pl b es)).map rwD)), .dat (.int (b + es.length)), .dat (.int j), .dat (.tup es), s7, s8] M) :
    as_rows_of_deed_b1 n A [s0, .dat (.tup (pl.map .int)), s2, .own (.lst (rs.map rwD)), .dat (.int b), .dat (.int j), .dat (.tup es), s7, s8] M := by
  have rest : ∀ rs' : List Row, rs'.length ≤ 10001 → A.nx [s0, .dat (.tup (pl.map .int)), s2, .own (.lst ((rs' ++ rowsLs (rowsF v) pl b es).map rwD)), .dat (.int (b + es.length)), .dat (.int j), .dat (.tup es), s7, s8] M → as_rows_of_deed_t1 n A [s0, .dat (.tup (pl.map .int)), s2, .own (.lst (rs'.map rwD)), .dat (.int b), .dat (.int j), .dat (.tup es), s7, s8] M := by
    intro rs' rl' q
    have l2 := rowsLs_len' pl b hd
    unfold as_rows_of_deed_t1
    walk_at "gw"
    refine ⟨es, pl, b, v, c, rfl, hd, hc, b0, b1, hp, hn, ?_⟩
    walk_at "gw"
    rw [List.map_append] at q
    exact ⟨by rw [List.length_map, List.length_map]; omega, q⟩
  unfold as_rows_of_deed_b1
  walk_at "gw"
  by_cases h : 0 < (j : Int)
  · simp only [h, decide_true, if_true]
    first | walk_at "gw" | skip
    refine ⟨by omega, by rw [List.length_map]; omega, ?_⟩
    have := rest (rs ++ [(("with", none) : Row)]) (by rw [List.length_append]; simp only [List.length_cons, List.length_nil]; omega) (by
      rw [List.append_assoc]
      rwa [withR, if_pos (by omega)] at q)
    rwa [List.map_append] at this
  · simp only [h, decide_false, Bool.false_eq_true, if_false]
    exact rest rs (by omega) (by rwa [withR, if_neg (by omega), List.nil_append] at q)
theorem rd_rows_of_deed (n : Nat) : ∀ ds M Q, R_rows_of_deed (n + 1) ds M Q → as_rows_of_deed n (endsOf Q) (slots N_rows_of_deed.length ds) M := by
  rintro ds M Q ⟨d, pl, v, c, rfl, hd, hc, hp, hn, hq⟩
  have hd0 := hd
  obtain ⟨v, rfl⟩ : ∃ k, v = k + 1 := by cases v with
    | zero => exact hd.elim
    | succ k => exact ⟨k, rfl⟩
  obtain ⟨w, s, ps, rs, z⟩ := hd.dz
  have zz := z.zip
  have hok := z.ok
  have lk := z.l
  have two := z.two
  obtain ⟨ls, e1, e2, e3, e4⟩ := z.lots
  have tup := lots_tup hok
  rw [rowsF, e1] at hq
  have e1' := e1
  unfold lotsD at e1'
  rw [z.zs] at e1'
  rw [e1'] at tup
  have hd1 : ∀ l ∈ ls, DsG v l.1 l.2 := fun l hl => (e2 l hl).2
  have ll : ∀ l ∈ ls, l.1.length ≤ 4 := fun l hl => (e2 l hl).1
  clear e2
  obtain rfl := z.e
  have pl2 : ps.length ≤ 2 := by rw [z.ps, List.length_map]; exact two
  show as_rows_of_deed n (endsOf Q) [.dat (.tup (.str w :: ps)), .dat (.tup (pl.map .int)), .non, .non, .non, .non, .non, .non, .non] _
  unfold as_rows_of_deed
  rw [gdp]
  walk_at "gsx"
  rw [cut_drop (by omega), show (1 : Int).toNat = 1 from rfl, List.drop_succ_cons, List.drop_zero, zz]
  refine lcFiltA rowE (fun q : Str × D => decide (q.1 = ("d" : Str))) (fun q => q.2) (rs.map fun r => (r.1, r.2.1)) [] (by simp; omega) (fun q hq P N hP hN => ?_) ?_
  · unfold rowE as_rows_of_deed_c1 as_rows_of_deed_e1
    walk_at "gw"
    by_cases h : q.1 = ("d" : Str)
    · rw [if_pos (by simpa using h)]
      exact hP (by simpa using h)
    · rw [if_neg (by simpa using h)]
      exact hN (by simpa using h)
  · rw [List.nil_append, tup]
    walk_at "gw"
    refine ⟨_, _, _, rfl, hd0, ?_⟩
    walk_at "gw"
    generalize headD (.tup (.str w :: ps)) = hh at hq ⊢
    have fin : ∀ (acc : List Row) (s4 s5 s6 s7 s8 : Slot), acc.length ≤ 1000 → acc = (hh, some pl) :: lotsR (rowsF v) pl 0 0 (ls.map (·.1)) → as_rows_of_deed_t2 n (endsOf Q) [.dat (.tup (.str w :: ps)), .dat (.tup (pl.map .int)), .dat (.lst ((ls.map (·.1)).map .tup)), .own (.lst (acc.map rwD)), s4, s5, s6, s7, s8] M := by
      rintro acc s4 s5 s6 s7 s8 al ea
      unfold as_rows_of_deed_t2
      walk_at "gw"
      rw [ea]
      rw [ea] at al
      cases ls with
      | nil =>
        simp only [List.map_nil, List.length_nil, beq_self_eq_true, Bool.not_true, Bool.false_eq_true, if_false, show (0 : Int).toNat = 0 from rfl, List.replicate_zero, List.flatten_nil, List.append_nil, endR, if_true] at hq ⊢
        exact ⟨by omega, by omega, ⟨by omega, by omega, by omega⟩, by simp [lotsR], hq⟩
      | cons l ls =>
        have nz : ((((l :: ls).map (·.1)).map D.tup).length == 0) = false := by simp
        rw [nz]
        simp only [Bool.not_false, if_true, show (1 : Int).toNat = 1 from rfl, List.replicate_one, List.flatten_cons, List.flatten_nil, List.append_nil]
        rw [endR, if_neg (by simp), ← List.cons_append, List.map_append] at hq
        exact ⟨by omega, by omega, ⟨by omega, by omega, by omega⟩, by rw [List.length_map]; simp only [List.length_cons, List.length_nil] at al ⊢; omega, hq⟩
    have sm : ∀ l ∈ ls, l.2 ≤ 60 := fun l hl => by
      have : l.2 ≤ (ls.map (·.2)).sum := by
        clear hd1 ll fin tup e1' e1 hq e4 e3
        induction ls with
        | nil => cases hl
        | cons r rs ih =>
          rw [List.map_cons, List.sum_cons]
          rcases List.mem_cons.mp hl with rfl | hl
          · omega
          · have := ih hl; omega
      omega
    refine ⟨by omega, by omega, ?_⟩
    unfold forW
    have tl := lotsR_len0 (f := rowsF v) (P := DeedG v) (fun d _ pl hd => rowsF_len pl hd) pl 0 hd1 e3
    match ls, e3, hd1, ll, fin, sm, tl with
    | [], _, _, _, fin, _, tl =>
      simp only [List.map_nil, enumD, aForL]
      exact fin [(hh, some pl)] _ _ _ _ _ (by simp) rfl
    | [l1], _, hd1, ll, fin, sm, tl =>
      simp only [List.map_cons, List.map_nil, enumD, aForL]
      walk_at "gw"
      have a1 := hd1 l1 List.mem_cons_self
      refine rod_b1 (n := n) (pl := pl) (v := v) (c := l1.2) (j := 0) (rs := [(hh, some pl)]) (b := 0) a1 (sm l1 List.mem_cons_self) (by omega) (by omega) (by omega) (by omega) (by simp) ?_
      refine fin _ _ _ _ _ _ ?_ ?_
      · have := rowsLs_len' pl 0 a1
        have := sm l1 List.mem_cons_self
        simp only [withR, Nat.lt_irrefl, if_false, List.nil_append, List.length_append, List.length_cons, List.length_nil]
        omega
      · simp only [List.map_cons, List.map_nil, lotsR, List.append_nil, List.cons_append, List.nil_append]
    | [l1, l2], _, hd1, ll, fin, sm, tl =>
      simp only [List.map_cons, List.map_nil, enumD, aForL]
      walk_at "gw"
      have a1 := hd1 l1 List.mem_cons_self
      have a2 := hd1 l2 (by simp)
      have b1 := ll l1 List.mem_cons_self
      have c1 := sm l1 List.mem_cons_self
      have c2 := sm l2 (by simp)
      have r1 := rowsLs_len' pl 0 a1
      have r2 := rowsLs_len' pl (0 + (l1.1.length : Int)) a2
      refine rod_b1 (n := n) (pl := pl) (v := v) (c := l1.2) (j := 0) (rs := [(hh, some pl)]) (b := 0) a1 c1 (by omega) (by omega) (by omega) (by omega) (by simp) ?_
      walk_at "gw"
      refine rod_b1 (n := n) (pl := pl) (v := v) (c := l2.2) (j := 1) (rs := (hh, some pl) :: (withR 0 ++ rowsLs (rowsF v) pl 0 l1.1)) (b := 0 + (l1.1.length : Int)) a2 c2 (by omega) (by omega) (by omega) (by omega) ?_ ?_
      · simp only [withR, Nat.lt_irrefl, if_false, List.nil_append, List.length_append, List.length_cons, List.length_nil]
        omega
      refine fin _ _ _ _ _ _ ?_ ?_
      · simp only [withR, Nat.lt_irrefl, if_false, List.nil_append, List.length_append, List.length_cons, List.length_nil, Nat.lt_succ_self, if_true, Nat.zero_lt_one]
        omega
      · simp only [List.map_cons, List.map_nil, lotsR, List.append_nil, List.cons_append, List.nil_append, List.append_assoc]
def numB : Nat → List Bo → List (Nat × Bo)
  | _, [] => []
  | k, d :: ds => (k, d) :: numB (k + 1) ds
def numF (q : Nat × Bo) : D := .tup [.int q.1, boG q.2]
theorem enumD_bo : ∀ (k : Nat) (ds : List Bo), enumD k (ds.map boG) = (numB k ds).map numF
  | _, [] => rfl
  | k, d :: ds => by rw [List.map_cons, enumD, numB, List.map_cons, enumD_bo (k + 1) ds]; rfl
theorem numB_mem {q : Nat × Bo} : ∀ {k : Nat} {ds : List Bo}, q ∈ numB k ds → q.2 ∈ ds ∧ q.1 < k + ds.length
  | k, d :: ds, h => by
    rcases List.mem_cons.mp h with rfl | h
    · exact ⟨List.mem_cons_self, by simp⟩
    · have := numB_mem h
      exact ⟨List.mem_cons_of_mem _ this.1, by simp only [List.length_cons]; omega⟩
def rowsQ (q : Nat × Bo) : List Row := (Txt.join " " ("body" :: q.2.n :: q.2.ws), none) :: (rowsLs (rowsF 6) [(q.1 : Int)] 0 q.2.ds ++ [(("end", none) : Row)])
theorem numB_rows : ∀ (k : Nat) (bs : List Bo), (numB k bs).flatMap rowsQ = rowsB k bs
  | _, [] => rfl
  | k, b :: bs => by
    rw [numB, List.flatMap_cons, numB_rows (k + 1) bs, rowsB]
    rfl
theorem paired_mem {F : List D → Nat → Prop} : ∀ {xs : List (List D)} {cs : List Nat}, Paired F xs cs → ∀ x ∈ xs, ∃ c, F x c ∧ c ≤ cs.sum
  | _, _, .nil, _, h => nomatch h
  | _, _, .cons h1 t, x, h => by
    rcases List.mem_cons.mp h with rfl | h
    · exact ⟨_, h1, by rw [List.sum_cons]; omega⟩
    · obtain ⟨c, h2, h3⟩ := paired_mem t x h
      exact ⟨c, h2, by rw [List.sum_cons]; omega⟩
theorem PrOk.ds {g : Pr} (h : PrOk g) : ∃ c, DsG 6 g.ds c ∧ c ≤ 60 := by
  obtain ⟨cs, h1, h2⟩ := h.cs
  obtain ⟨c, h3, h4⟩ := paired_mem h1 g.ds (by simp)
  exact ⟨c, h3, by omega⟩
theorem PrOk.bds {g : Pr} (h : PrOk g) : ∀ b ∈ g.bo, ∃ c, DsG 6 b.ds c ∧ c ≤ 60 := fun b hb => by
  obtain ⟨cs, h1, h2⟩ := h.cs
  obtain ⟨c, h3, h4⟩ := paired_mem h1 b.ds (List.mem_append_left _ (List.mem_map.mpr ⟨b, hb, rfl⟩))
  exact ⟨c, h3, by omega⟩
theorem names_join {ws : List Str} (h : NsG ws) : (ws.map (·.length)).sum ≤ 40 := by
  have := sum_le (f := fun x : Str => x.length) (k := 8) fun w hw => name_len (h.2.2.1 w hw)
  have := h.2.1
  omega
theorem rd_rows_shown : ∀ ds M Q, S_rows_shown ds M Q → as_rows_shown (endsOf Q) (slots N_rows_shown.length ds) M := by
  rintro ds M Q ⟨g, rfl, ok, hq⟩
  show as_rows_shown (endsOf Q) [.dat (prG g), .non, .non, .non, .non, .non, .non, .non, .non] _
  unfold prG
  unfold as_rows_shown
  walk_at "gsx"
  have wl := names_join ok.ws
  have wl2 := ok.ws.2.1
  refine ⟨by rw [List.length_map]; omega, ?_⟩
  rw [show (D.str "wires" :: g.ws.map D.str) = (("wires" : Str) :: g.ws).map D.str from rfl, strsD_map]
  refine ⟨?_, ?_⟩
  · rw [List.map_cons, List.sum_cons, show ("wires" : Str).length = 5 from rfl, show (" " : Str).length = 1 from rfl, List.length_cons]
    omega
  rw [enumD_bo]
  have nl : (numB 0 g.bo).length ≤ 8 := by
    have := enumD_len (g.bo.map boG) 0
    rw [enumD_bo, List.length_map, List.length_map] at this
    have := ok.bl
    omega
  have bds := ok.bds
  have fm := numB_rows 0 g.bo
  rw [show ((0 : Nat) : Int) = 0 from rfl] at fm
  unfold rowsG at hq
  generalize hh : Txt.join " " ("wires" :: g.ws) = ww at hq ⊢
  refine forA numF (fun dn left Γ M' => dn ++ left = numB 0 g.bo ∧ M' = M ∧ ∃ s5 s6 s7 s8, (dn.flatMap rowsQ).length ≤ 182 * dn.length ∧ Γ = [.dat (.tup [.tup (g.ws.map .str), .tup (g.bo.map boG), .tup g.ds]), .dat (.tup (g.ws.map .str)), .dat (.tup (g.bo.map boG)), .dat (.tup g.ds), .own (.lst ((((ww, none) : Row) :: dn.flatMap rowsQ).map rwD)), s5, s6, s7, s8]) ?_ ?_ _ [] ⟨rfl, rfl, _, _, _, _, by simp, rfl⟩
  · rintro dn Γ M' ⟨e, rfl, s5, s6, s7, s8, hl, rfl⟩
    rw [List.append_nil] at e
    subst e
    rw [fm] at hl ⊢
    obtain ⟨c, h1, h2⟩ := ok.ds
    have rl := rowsLs_len' [((g.bo.length : Nat) : Int)] 0 h1
    have bl := ok.bl
    unfold as_rows_shown_t1
    walk_at "gw"
    refine ⟨by omega, g.ds, [(g.bo.length : Int)], 0, 6, c, by rw [List.length_map]; rfl, h1, h2, by omega, by omega, by simp, by omega, ?_⟩
    walk_at "gw"
    rw [List.map_append] at hq
    exact ⟨by simp only [List.length_map, List.length_cons]; omega, hq⟩
  · rintro dn q left Γ M' K ⟨e, rfl, s5, s6, s7, s8, hl, rfl⟩ hK
    have hm : q ∈ numB 0 g.bo := by rw [← e]; simp
    have dl : dn.length + 1 ≤ 8 := by
      have := congrArg List.length e
      simp only [List.length_append, List.length_cons] at this
      omega
    obtain ⟨m1, m2⟩ := numB_mem hm
    obtain ⟨c, h1, h2⟩ := bds _ m1
    obtain ⟨bn, bw⟩ := ok.bo _ m1
    have nl8 := name_len bn
    have bl := names_join bw
    have bw2 := bw.2.1
    have rl := rowsLs_len' [(q.1 : Int)] 0 h1
    unfold as_rows_shown_b1 numF boG
    walk_at "gw"
    rw [show (D.str "body" :: D.str q.2.n :: q.2.ws.map D.str) = (("body" : Str) :: q.2.n :: q.2.ws).map D.str from rfl, strsD_map]
    refine ⟨by omega, by rw [List.length_map]; omega, ?_, by omega, by rw [List.length_map]; omega, by omega, q.2.ds, [(q.1 : Int)], 0, 6, c, rfl, h1, h2, by omega, by omega, by simp, by omega, ?_⟩
    · rw [List.map_cons, List.map_cons, List.sum_cons, List.sum_cons, show ("body" : Str).length = 4 from rfl, show (" " : Str).length = 1 from rfl, List.length_cons, List.length_cons]
      omega
    walk_at "gw"
    have ql : (rowsQ q).length ≤ 182 := by
      unfold rowsQ
      simp only [List.length_cons, List.length_append, List.length_nil]
      omega
    refine ⟨?_, by omega, ?_, hK _ _ ⟨by rw [List.append_assoc]; exact e, rfl, .dat (.int q.1), .dat (.str q.2.n), .dat (.tup (q.2.ws.map .str)), .dat (.tup q.2.ds), ?_, ?_⟩⟩
    · simp only [List.length_append, List.length_map, List.length_cons, List.length_nil]
      omega
    · simp only [List.length_append, List.length_map, List.length_cons, List.length_nil]
      omega
    · rw [List.flatMap_append, List.length_append, List.flatMap_cons, List.flatMap_nil, List.append_nil, List.length_append, List.length_cons, List.length_nil]
      omega
    · rw [List.flatMap_append, List.flatMap_cons, List.flatMap_nil, List.append_nil]
      simp only [rowsQ, List.map_cons, List.map_append, List.map_nil, List.append_assoc, List.cons_append, List.nil_append]
      rfl
def WdOk (w : Str) : Bool := decide (w.length ≤ 8) && w.cps.toList.all fun c => decide (33 ≤ c) && decide (c ≤ 126)
def RwOk (r : Row) : Prop := ∃ ws : List Str, r.1 = Txt.join " " ws ∧ ws ≠ [] ∧ ws.length ≤ 11 ∧ ∀ w ∈ ws, WdOk w = true
theorem wd_word : ∀ w ∈ FORMS.map (·.1), WdOk w = true := by decide +kernel
theorem wd_name {x : Str} (h : nameB x = true) : WdOk x = true := by
  have l := name_len h
  unfold nameB at h
  simp only [Bool.and_eq_true, decide_eq_true_eq, List.all_eq_true] at h
  unfold WdOk
  simp only [Bool.and_eq_true, decide_eq_true_eq, List.all_eq_true]
  exact ⟨l, fun c hc => by have := h.2.2.2 c hc; omega⟩
theorem wd_dig : ∀ i : Int, 0 ≤ i → i ≤ 9 → WdOk (strW (.int i)) = true := by
  intro i h0 h1
  have : i = 0 ∨ i = 1 ∨ i = 2 ∨ i = 3 ∨ i = 4 ∨ i = 5 ∨ i = 6 ∨ i = 7 ∨ i = 8 ∨ i = 9 := by omega
  rcases this with rfl | rfl | rfl | rfl | rfl | rfl | rfl | rfl | rfl | rfl <;> decide +kernel
theorem good_wd {ch : Str} {p : D} (h : GoodP ch p) : ∀ x ∈ wordsP (ch, p), WdOk x = true := by
  rcases h with ⟨rfl, x, hx, rfl⟩ | ⟨rfl, i, h1, h2, rfl⟩ | ⟨rfl, i, h1, h2, rfl⟩ | ⟨rfl, xs, h1, h2, h3, rfl⟩
  · show ∀ y ∈ [x], WdOk y = true
    exact fun y hy => by rw [List.mem_singleton.mp hy]; exact wd_name hx
  · show ∀ y ∈ [strW (.int i)], WdOk y = true
    exact fun y hy => by rw [List.mem_singleton.mp hy]; exact wd_dig i (by omega) (by omega)
  · show ∀ y ∈ [strW (.int i)], WdOk y = true
    exact fun y hy => by rw [List.mem_singleton.mp hy]; exact wd_dig i (by omega) (by omega)
  · show ∀ y ∈ (xs.map D.str).map txtOf, WdOk y = true
    rw [List.map_map, show (txtOf ∘ D.str) = id from rfl, List.map_id]
    exact fun y hy => wd_name (h3 y hy)
theorem head_ok {n : Nat} {d : D} {c : Nat} (h : DeedG n d c) : ∀ x ∈ headWs d, WdOk x = true := by
  obtain ⟨w, s, ps, rs, z⟩ := h.dz
  unfold headWs
  rw [z.zs, z.wd, List.map_map]
  intro x hx
  rcases List.mem_cons.mp hx with rfl | hx
  · exact wd_word _ (List.mem_map.mpr ⟨_, forms_mem z.l, rfl⟩)
  · obtain ⟨l, hl, hx⟩ := List.mem_flatten.mp hx
    obtain ⟨r, hr, rfl⟩ := List.mem_map.mp hl
    rcases z.ok r hr with ⟨e, _, _⟩ | ⟨_, _, hg⟩
    · have hx : x ∈ wordsP (r.1, r.2.1) := hx
      rw [e] at hx
      exact (nomatch (show x ∈ [] from hx))
    · exact good_wd hg x hx
theorem row_head {n : Nat} {d : D} {c : Nat} (h : DeedG n d c) (p : Option (List Int)) : RwOk (headD d, p) := ⟨headWs d, rfl, by unfold headWs; exact List.cons_ne_nil _ _, (head_few h).1, head_ok h⟩
theorem row_with : RwOk ("with", none) := ⟨["with"], rfl, by simp, by simp, by decide +kernel⟩
theorem row_end : RwOk ("end", none) := ⟨["end"], rfl, by simp, by simp, by decide +kernel⟩
theorem rowsLs_ok {f : D → List Int → List Row} {P : D → Nat → Prop} (hf : ∀ d k pl, P d k → ∀ r ∈ f d pl, RwOk r) (pl : List Int) : ∀ {es : List D} {c : Nat} (b : Int), DsP P es c → ∀ r ∈ rowsLs f pl b es, RwOk r
  | [], _, _, _, r, h => nomatch h
  | d :: es, c, b, h, r, hr => by
    obtain ⟨a, e, h1, h2, rfl⟩ := h.cons
    rw [rowsLs] at hr
    rcases List.mem_append.mp hr with hr | hr
    · exact hf _ _ _ h1 r hr
    · exact rowsLs_ok hf pl (b + 1) h2 r hr
theorem lotsR_ok {f : D → List Int → List Row} {P : D → Nat → Prop} (hf : ∀ d k pl, P d k → ∀ r ∈ f d pl, RwOk r) (pl : List Int) : ∀ {ls : List (List D × Nat)} (j : Nat) (b : Int), (∀ l ∈ ls, DsP P l.1 l.2) → ∀ r ∈ lotsR f pl j b (ls.map (·.1)), RwOk r
  | [], _, _, _, r, h => nomatch h
  | l :: ls, j, b, h, r, hr => by
    rw [List.map_cons, lotsR] at hr
    rcases List.mem_append.mp hr with hr | hr
    · rcases List.mem_append.mp hr with hr | hr
      · unfold withR at hr
        split at hr
        · rw [List.mem_singleton.mp hr]; exact row_with
        · exact nomatch hr
      · exact rowsLs_ok hf pl b (h l List.mem_cons_self) r hr
    · exact lotsR_ok hf pl (j + 1) (b + l.1.length) (fun x hx => h x (List.mem_cons_of_mem _ hx)) r hr
theorem rowsF_ok : ∀ {n : Nat} {d : D} {c : Nat} (pl : List Int), DeedG n d c → ∀ r ∈ rowsF n d pl, RwOk r
  | 0, _, _, _, h, _, _ => h.elim
  | n + 1, d, c, pl, h, r, hr => by
    obtain ⟨w, s, ps, rs, z⟩ := h.dz
    obtain ⟨ls, e1, e2, e3, e4⟩ := z.lots
    rw [rowsF, e1] at hr
    rcases List.mem_cons.mp hr with rfl | hr
    · exact row_head h _
    rcases List.mem_append.mp hr with hr | hr
    · exact lotsR_ok (P := DeedG n) (fun d k pl hd r hr => rowsF_ok (n := n) (d := d) (c := k) pl hd r hr) pl 0 0 (fun l hl => (e2 l hl).2) r hr
    · unfold endR at hr
      split at hr
      · exact nomatch hr
      · rw [List.mem_singleton.mp hr]; exact row_end
theorem rowsG_ok {g : Pr} (ok : PrOk g) : ∀ r ∈ rowsG g, RwOk r := by
  have ds : ∀ (es : List D) (c : Nat) (pl : List Int) (b : Int), DsG 6 es c → ∀ r ∈ rowsLs (rowsF 6) pl b es, RwOk r := fun es c pl b h => rowsLs_ok (P := DeedG 6) (fun d k pl hd r hr => rowsF_ok pl hd r hr) pl b h
  have bos : ∀ (bs : List Bo) (k : Int), (∀ b ∈ bs, b ∈ g.bo) → ∀ r ∈ rowsB k bs, RwOk r := by
    intro bs
    induction bs with
    | nil => intro k _ r h; exact nomatch h
    | cons b bs ih =>
      intro k hb r hr
      rw [rowsB] at hr
      have m := hb b List.mem_cons_self
      obtain ⟨bn, bw⟩ := ok.bo b m
      obtain ⟨c, h1, _⟩ := ok.bds b m
      rcases List.mem_append.mp hr with hr | hr
      · rcases List.mem_cons.mp hr with rfl | hr
        · refine ⟨"body" :: b.n :: b.ws, rfl, List.cons_ne_nil _ _, by have := bw.2.1; simp only [List.length_cons]; omega, fun w hw => ?_⟩
          rcases List.mem_cons.mp hw with rfl | hw
          · decide +kernel
          rcases List.mem_cons.mp hw with rfl | hw
          · exact wd_name bn
          · exact wd_name (bw.2.2.1 w hw)
        · rcases List.mem_append.mp hr with hr | hr
          · exact ds _ c _ _ h1 r hr
          · rw [List.mem_singleton.mp hr]; exact row_end
      · exact ih (k + 1) (fun x hx => hb x (List.mem_cons_of_mem _ hx)) r hr
  intro r hr
  unfold rowsG at hr
  obtain ⟨c, h1, _⟩ := ok.ds
  rcases List.mem_append.mp hr with hr | hr
  · rcases List.mem_cons.mp hr with rfl | hr
    · refine ⟨"wires" :: g.ws, rfl, List.cons_ne_nil _ _, by have := ok.ws.2.1; simp only [List.length_cons]; omega, fun w hw => ?_⟩
      rcases List.mem_cons.mp hw with rfl | hw
      · decide +kernel
      · exact wd_name (ok.ws.2.2.1 w hw)
    · exact bos _ 0 (fun _ h => h) r hr
  · exact ds _ c _ _ h1 r hr
theorem join_len (y : Str) : ∀ ws : List Str, (Str.join y ws).length ≤ (ws.map (·.length)).sum + ws.length * y.length
  | [] => Nat.zero_le _
  | [x] => by show x.length ≤ _; simp
  | x :: z :: r => by
    have ih := join_len y (z :: r)
    show (x ++ y ++ Str.join y (z :: r)).length ≤ _
    rw [Str.length_append, Str.length_append]
    simp only [List.map_cons, List.sum_cons, List.length_cons] at ih ⊢
    rw [Nat.succ_mul (r.length + 1)]
    omega
theorem RwOk.len {r : Row} (h : RwOk r) : r.1.length ≤ 100 := by
  obtain ⟨ws, e, _, h1, h2⟩ := h
  rw [e, show Txt.join " " ws = Str.join " " ws from TL.join_eq _ _]
  have a := join_len " " ws
  have b := sum_le (f := fun x : Str => x.length) (k := 8) (xs := ws) fun w hw => by
    have := h2 w hw
    unfold WdOk at this
    simp only [Bool.and_eq_true, decide_eq_true_eq] at this
    exact this.1
  rw [show (" " : Str).length = 1 from rfl] at a
  omega
theorem rowsG_len {g : Pr} (ok : PrOk g) : (rowsG g).length ≤ 2000 := by
  have bos : ∀ (bs : List Bo) (k : Int), (∀ b ∈ bs, b ∈ g.bo) → (rowsB k bs).length ≤ 182 * bs.length := by
    intro bs
    induction bs with
    | nil => intro k _; exact Nat.zero_le _
    | cons b bs ih =>
      intro k hb
      obtain ⟨c, h1, h2⟩ := ok.bds b (hb b List.mem_cons_self)
      have i1 := ih (k + 1) fun x hx => hb x (List.mem_cons_of_mem _ hx)
      have i2 := rowsLs_len' [k] 0 h1
      rw [rowsB]
      simp only [List.length_append, List.length_cons, List.length_nil]
      omega
  obtain ⟨c, h1, h2⟩ := ok.ds
  have i1 := bos g.bo 0 fun _ h => h
  have i2 := rowsLs_len' [((g.bo.length : Nat) : Int)] 0 h1
  have := ok.bl
  unfold rowsG
  simp only [List.length_append, List.length_cons]
  omega
theorem rd_show : ∀ ds M Q, S_show ds M Q → as_show (endsOf Q) (slots N_show.length ds) M := by
  rintro ds M Q ⟨g, rfl, ok, hq⟩
  show as_show (endsOf Q) [.dat (prG g), .non, .non] _
  have gl := rowsG_len ok
  unfold as_show
  walk_at "gw"
  refine ⟨g, rfl, ok, ?_⟩
  walk_at "gw"
  refine lcMapA rwD (fun r => .str r.1) (rowsG g) [] (by simp only [List.length_nil]; omega) (fun r hr P hP => ?_) ?_
  · unfold rwD as_show_e1
    walk_at "gw"
    exact hP
  · walk_at "gw"
    rw [show (rowsG g).map (fun r => D.str r.1) = ((rowsG g).map (·.1)).map D.str by rw [List.map_map]; rfl, strsD_map]
    refine ⟨?_, hq⟩
    have := sum_le (f := fun r : Row => r.1.length) (k := 100) fun r hr => (rowsG_ok ok r hr).len
    rw [List.map_map, List.length_map, show ("\n" : Str).length = 1 from rfl]
    have e : ((rowsG g).map ((fun x : Str => x.length) ∘ fun x => x.1)).sum = ((rowsG g).map fun r => r.1.length).sum := rfl
    omega
def numR : Nat → List Row → List (Nat × Row)
  | _, [] => []
  | k, d :: ds => (k, d) :: numR (k + 1) ds
def numRE (q : Nat × Row) : D := .tup [.int q.1, rwD q.2]
theorem enumD_row : ∀ (k : Nat) (ds : List Row), enumD k (ds.map rwD) = (numR k ds).map numRE
  | _, [] => rfl
  | k, d :: ds => by rw [List.map_cons, enumD, numR, List.map_cons, enumD_row (k + 1) ds]; rfl
theorem numR_len : ∀ (k : Nat) (ds : List Row), (numR k ds).length = ds.length
  | _, [] => rfl
  | k, d :: ds => by rw [numR, List.length_cons, List.length_cons, numR_len]
theorem numR_lines : ∀ (k : Nat) (rs : List Row), ((numR k rs).filter fun q => q.2.2.isSome).map (fun q => D.tup [.int q.1, plD q.2.2]) = linesF k rs
  | _, [] => rfl
  | k, (x, none) :: rs => by
    rw [numR, List.filter_cons, if_neg (by simp), numR_lines (k + 1) rs]; rfl
  | k, (x, some p) :: rs => by
    rw [numR, List.filter_cons, if_pos (by simp), List.map_cons, numR_lines (k + 1) rs]; rfl
theorem rd_lines_of : ∀ ds M Q, S_lines_of ds M Q → as_lines_of (endsOf Q) (slots N_lines_of.length ds) M := by
  rintro ds M Q ⟨g, rfl, ok, hq⟩
  show as_lines_of (endsOf Q) [.dat (prG g), .non, .non, .non] _
  have gl := rowsG_len ok
  unfold as_lines_of
  walk_at "gw"
  refine ⟨g, rfl, ok, ?_⟩
  walk_at "gw"
  rw [enumD_row]
  refine lcFiltA numRE (fun q => q.2.2.isSome) (fun q => D.tup [.int q.1, plD q.2.2]) (numR 0 (rowsG g)) [] (by rw [numR_len]; simp only [List.length_nil]; omega) (fun q hq P N hP hN => ?_) ?_
  · obtain ⟨i, x, p⟩ := q
    unfold numRE rwD as_lines_of_c1 as_lines_of_e1
    cases p with
    | none =>
      simp only [plD] at hP hN ⊢
      walk_at "gw"
      first | exact hN rfl | (simp only [decide_true, Bool.not_true, Bool.false_eq_true, if_false]; exact hN rfl)
    | some p =>
      simp only [plD] at hP hN ⊢
      walk_at "gw"
      first | exact hP rfl | exact ⟨by omega, hP rfl⟩
  · rw [List.nil_append, numR_lines]
    walk_at "gw"
    exact hq
theorem sign_eq {x : Str} (h : x.length = 1) : ∃ c, x = ⟨#[c]⟩ := by
  obtain ⟨a⟩ := x
  have h : a.size = 1 := h
  obtain ⟨l⟩ := a
  match l, h with
  | [c], _ => exact ⟨c, rfl⟩
theorem figs (c : Nat) : (c ∈ ("0123456789" : Str).cps.toList) ↔ 48 ≤ c ∧ c ≤ 57 := by
  rw [show ("0123456789" : Str).cps.toList = [48, 49, 50, 51, 52, 53, 54, 55, 56, 57] by decide +kernel]
  simp only [List.mem_cons, List.not_mem_nil, or_false]
  omega
theorem fig_int {c : Nat} (h : 48 ≤ c ∧ c ≤ 57) : PySem.intText? ⟨#[c]⟩ = some ((c : Int) - 48) := by
  have : c = 48 ∨ c = 49 ∨ c = 50 ∨ c = 51 ∨ c = 52 ∨ c = 53 ∨ c = 54 ∨ c = 55 ∨ c = 56 ∨ c = 57 := by omega
  rcases this with rfl | rfl | rfl | rfl | rfl | rfl | rfl | rfl | rfl | rfl <;> decide +kernel
theorem rd_part_of_word : ∀ ds M Q, S_part_of_word ds M Q → as_part_of_word (endsOf Q) (slots N_part_of_word.length ds) M := by
  rintro ds M Q ⟨ch, x, rfl, xl, hq⟩
  show as_part_of_word (endsOf Q) [.dat (.str ch), .dat (.str x), .non] _
  unfold partW at hq
  unfold as_part_of_word
  walk_at "gw"
  by_cases h : ch = ("n" : Str)
  · simp only [h, decide_true, if_true] at hq ⊢
    refine ⟨.str x, rfl, by simp only [sane, decide_eq_true_eq]; exact xl, ?_⟩
    walk_at "gw"
    rw [show isName (.str x) = nameB x from rfl]
    by_cases e : nameB x = true
    · rw [if_pos e] at hq ⊢; exact hq
    · rw [if_neg e] at hq ⊢; exact hq
  · simp only [h, decide_false, Bool.false_eq_true, if_false] at hq ⊢
    unfold as_part_of_word_t2
    walk_at "gw"
    refine ⟨by omega, ?_⟩
    by_cases l1 : x.length = 1
    · obtain ⟨c, rfl⟩ := sign_eq l1
      rw [if_neg (by simp only [Bool.not_eq_true', decide_eq_false_iff_not, Classical.not_not]; omega)]
      refine ⟨c, rfl, ?_⟩
      rw [figV] at hq
      simp only at hq
      by_cases f : 48 ≤ c ∧ c ≤ 57
      · rw [if_pos f] at hq
        rw [if_neg (by simp only [Bool.not_eq_true', decide_eq_false_iff_not, Classical.not_not]; exact (figs c).mpr f)]
        unfold as_part_of_word_t1
        walk_at "gw"
        refine ⟨_, fig_int f, by omega, ?_⟩
        simp only at hq
        by_cases a : ch = ("t" : Str)
        · rw [if_pos (.inl a)] at hq
          rw [if_pos (by simpa using a)]
          exact hq
        · rw [if_neg (by simpa using a)]
          by_cases a1 : (1 : Int) ≤ c - 48
          · rw [if_pos (by simpa using a1)]
            by_cases a2 : (c : Int) - 48 ≤ 7
            · rw [if_pos (.inr ⟨a1, a2⟩)] at hq
              rw [if_pos (by simpa using a2)]
              exact hq
            · rw [if_neg (fun z => z.elim a fun z => a2 z.2)] at hq
              rw [if_neg (by simpa using a2)]
              exact hq
          · rw [if_neg (fun z => z.elim a fun z => a1 z.1)] at hq
            rw [if_neg (by simpa using a1)]
            exact hq
      · rw [if_neg f] at hq
        rw [if_pos (by simp only [Bool.not_eq_true', decide_eq_false_iff_not]; exact fun z => f ((figs c).mp z))]
        exact hq
    · rw [if_pos (by simp only [Bool.not_eq_true', decide_eq_false_iff_not]; omega)]
      have e : figV x = none := by
        unfold figV
        split
        · rename_i c hc
          exact (l1 (by show x.cps.size = 1; rw [← Array.length_toList, hc]; rfl)).elim
        · rfl
      rw [e] at hq
      exact hq
theorem spl_words {ws : List Str} (ne : ws ≠ []) (h : ∀ w ∈ ws, WdOk w = true) : Txt.split (Txt.join " " ws) " " = ws :=
  TL.split_join (s := 32) (S := []) rfl (by decide +kernel) ne fun p hp z => by
    have := h p hp
    unfold WdOk at this
    simp only [Bool.and_eq_true, decide_eq_true_eq, List.all_eq_true] at this
    have := this.2 32 z
    omega
theorem runL_app : ∀ (a : List Str) (s : St) (b : List Str), runL s (a ++ b) = (runL s a).bind fun s' => runL s' b
  | [], s, b => rfl
  | x :: a, s, b => by
    rw [List.cons_append, runL, runL]
    cases stepL s x with
    | none => rfl
    | some s' => exact runL_app a s' b
def addM (c : Int) (s : St) : St := { s with many := s.many + c }
def putsG (es : List D) (s : St) : St := es.foldl (fun s d => putG d s) s
theorem onLast_snoc {α : Type} (f : α → α) (x : α) : ∀ l : List α, onLast f (l ++ [x]) = l ++ [f x]
  | [] => rfl
  | [y] => rfl
  | y :: z :: r => by
    show y :: onLast f (z :: r ++ [x]) = _
    rw [onLast_snoc f x (z :: r)]; rfl
theorem onLast_filt (d : D) : ∀ l : List Fr, ((onLast (putFr d) l).filter fun F => !decide (F.w = ("body" : Str))).length = (l.filter fun F => !decide (F.w = ("body" : Str))).length
  | [] => rfl
  | [y] => by
    show ([putFr d y].filter _).length = _
    unfold putFr
    simp only [List.filter_cons, List.filter_nil]
    split <;> rfl
  | y :: z :: r => by
    show ((y :: onLast (putFr d) (z :: r)).filter _).length = _
    rw [List.filter_cons, List.filter_cons (x := y)]
    split
    · rw [List.length_cons, List.length_cons, onLast_filt d (z :: r)]
    · exact onLast_filt d (z :: r)
theorem putG_m (d : D) (s : St) : (putG d s).many = s.many := by unfold putG; split <;> rfl
theorem putG_w (d : D) (s : St) : (putG d s).wi = s.wi := by unfold putG; split <;> rfl
theorem putG_d (d : D) (s : St) : deepG (putG d s) = deepG s := by
  unfold putG
  split
  · rfl
  · unfold deepG
    rw [onLast_filt]
theorem addM_put (c : Int) (d : D) (s : St) : addM c (putG d s) = putG d (addM c s) := by
  unfold putG addM
  simp only
  split <;> rfl
theorem addM_add (a b : Int) (s : St) : addM a (addM b s) = addM (b + a) s := by
  unfold addM
  simp only [Int.add_assoc]
theorem puts_open {fr : List Fr} {F : Fr} {l0 : List (List D)} : ∀ (es : List D) (l : List D) (s : St), s.fr = fr ++ [F] → F.ls = l0 ++ [l] → putsG es s = { s with fr := fr ++ [{ F with ls := l0 ++ [l ++ es] }] }
  | [], l, s, h1, h2 => by
    obtain ⟨a, b, c, d, e⟩ := s
    obtain ⟨w, p, ls⟩ := F
    simp only at h1 h2
    subst h1 h2
    show _ = _
    rw [List.append_nil]
    rfl
  | d :: es, l, s, h1, h2 => by
    have e : putG d s = { s with fr := fr ++ [{ F with ls := l0 ++ [l ++ [d]] }] } := by
      unfold putG
      rw [if_neg (by rw [h1]; simp), h1, onLast_snoc]
      congr 3
      unfold putFr
      rw [h2, onLast_snoc]
    show putsG es (putG d s) = _
    rw [e, puts_open (F := { F with ls := l0 ++ [l ++ [d]] }) es (l ++ [d]) _ rfl rfl]
    simp only [List.append_assoc, List.cons_append, List.nil_append]
theorem puts_own : ∀ (es : List D) (s : St), s.fr = [] → putsG es s = { s with own := s.own ++ es }
  | [], s, _ => by
    show s = _
    rw [List.append_nil]
  | d :: es, s, h => by
    have e : putG d s = { s with own := s.own ++ [d] } := by unfold putG; rw [if_pos h]
    show putsG es (putG d s) = _
    rw [e, puts_own es { s with own := s.own ++ [d] } h]
    simp only [List.append_assoc, List.cons_append, List.nil_append]
def ndP (rs : List (Str × D × Nat)) : List D := (rs.filter fun r => !decide (r.1 = ("d" : Str))).map (·.2.1)
theorem part_good {ch : Str} {p : D} (h : GoodP ch p) (nw : ch ≠ "w") : ch ≠ "d" ∧ wordsP (ch, p) = [strW p] ∧ partW ch (strW p) = p ∧ p ≠ .non := by
  rcases h with ⟨rfl, x, hx, rfl⟩ | ⟨rfl, i, h1, h2, rfl⟩ | ⟨rfl, i, h1, h2, rfl⟩ | ⟨rfl, _⟩
  · exact ⟨by decide, rfl, by show (if ("n" : Str) = "n" then _ else _) = _; rw [if_pos rfl]; exact if_pos hx, by intro z; cases z⟩
  · refine ⟨by decide, rfl, ?_, by intro z; cases z⟩
    have : i = 1 ∨ i = 2 ∨ i = 3 ∨ i = 4 ∨ i = 5 ∨ i = 6 ∨ i = 7 := by omega
    have f : figV (strW (.int i)) = some i := by rcases this with rfl | rfl | rfl | rfl | rfl | rfl | rfl <;> decide +kernel
    unfold partW
    rw [if_neg (by decide), f]
    exact if_pos (.inr ⟨h1, h2⟩)
  · refine ⟨by decide, rfl, ?_, by intro z; cases z⟩
    have : i = 0 ∨ i = 1 ∨ i = 2 ∨ i = 3 ∨ i = 4 ∨ i = 5 ∨ i = 6 ∨ i = 7 ∨ i = 8 ∨ i = 9 := by omega
    have f : figV (strW (.int i)) = some i := by rcases this with rfl | rfl | rfl | rfl | rfl | rfl | rfl | rfl | rfl | rfl <;> decide +kernel
    unfold partW
    rw [if_neg (by decide), f]
    exact if_pos (.inl rfl)
  · exact (nw rfl).elim
theorem head_zip {P : D → Nat → Prop} : ∀ {rs : List (Str × D × Nat)}, (∀ r ∈ rs, PartG P r.1 r.2.1 r.2.2) → (∀ r ∈ rs, r.1 ≠ ("w" : Str)) →
    ((rs.map fun r => wordsP (r.1, r.2.1)).flatten).length = ((rs.map (·.1)).filter fun c => !decide (c = ("d" : Str))).length ∧
    List.zipWith partW ((rs.map (·.1)).filter fun c => !decide (c = ("d" : Str))) (rs.map fun r => wordsP (r.1, r.2.1)).flatten = ndP rs ∧ noneIn (ndP rs) = false
  | [], _, _ => ⟨rfl, rfl, rfl⟩
  | r :: rs, h, nw => by
    obtain ⟨i1, i2, i3⟩ := head_zip (rs := rs) (fun x hx => h x (List.mem_cons_of_mem _ hx)) fun x hx => nw x (List.mem_cons_of_mem _ hx)
    unfold ndP at i2 i3 ⊢
    rcases h r List.mem_cons_self with ⟨e, ds, e5, _, _⟩ | ⟨e, k0, g⟩
    · rw [List.map_cons, List.flatten_cons, List.map_cons, List.filter_cons, if_neg (by simpa using e), List.filter_cons, if_neg (by simpa using e)]
      rw [show wordsP (r.1, r.2.1) = [] by rw [e]; rfl, List.nil_append]
      exact ⟨i1, i2, i3⟩
    · obtain ⟨g1, g2, g3, g4⟩ := part_good g (nw r List.mem_cons_self)
      rw [List.map_cons, List.flatten_cons, List.map_cons, List.filter_cons, if_pos (by simpa using e), List.filter_cons, if_pos (by simpa using e), g2]
      refine ⟨by rw [List.length_append, List.length_cons, List.length_cons, i1]; simp only [List.length_nil]; omega, ?_, ?_⟩
      · rw [List.cons_append, List.nil_append, List.zipWith_cons_cons, g3, i2, List.map_cons]
      · rw [List.map_cons]
        unfold noneIn at i3 ⊢
        rw [List.any_cons, i3]
        cases hp : r.2.1 with
        | non => exact (g4 hp).elim
        | _ => rfl
theorem forms_w : ∀ q ∈ FORMS, q.1 ≠ ("call" : Str) → ("w" : Str) ∉ chs q.2 := by decide +kernel
theorem map_one {α β : Type} {f : α → β} {a : β} : ∀ {l : List α}, l.map f = [a] → ∃ x, l = [x] ∧ f x = a
  | [x], h => ⟨x, rfl, by simpa using h⟩
theorem map_two {α β : Type} {f : α → β} {a b : β} : ∀ {l : List α}, l.map f = [a, b] → ∃ x y, l = [x, y] ∧ f x = a ∧ f y = b
  | [x, y], h => by
    simp only [List.map_cons, List.map_nil, List.cons.injEq, and_true] at h
    exact ⟨x, y, rfl, h⟩
theorem call_form : lookD FORMS "call" = some ("nw" : Str) := by decide +kernel
theorem head_ps {n : Nat} {d : D} {c : Nat} {w s : Str} {ps : List D} {rs : List (Str × D × Nat)} (z : DZ n d c w s ps rs) : headPs (headWs d) = .tup (ndP rs) := by
  unfold headWs
  rw [z.zs, z.wd, List.map_map]
  show headPs (w :: (rs.map fun r => wordsP (r.1, r.2.1)).flatten) = _
  by_cases hw : w = ("call" : Str)
  · have e := z.l
    rw [hw, call_form] at e
    obtain rfl := Option.some.inj e
    have cs := z.cs
    rw [show chs ("nw" : Str) = [("n" : Str), ("w" : Str)] by decide +kernel] at cs
    have ok := z.ok
    clear z
    obtain ⟨r1, r2, rfl, cs1, cs2⟩ := map_two cs.symm
    · obtain ⟨a1, b1, c1⟩ := r1
      obtain ⟨a2, b2, c2⟩ := r2
      simp only at cs1 cs2
      subst cs1 cs2
      have o1 : GoodP "n" b1 := by
        rcases ok ("n", b1, c1) (by simp) with ⟨e, _⟩ | ⟨_, _, o1⟩
        · exact absurd (show ("n" : Str) = "d" from e) (by decide)
        · exact o1
      have o2 : GoodP "w" b2 := by
        rcases ok ("w", b2, c2) (by simp) with ⟨e, _⟩ | ⟨_, _, o2⟩
        · exact absurd (show ("w" : Str) = "d" from e) (by decide)
        · exact o2
      obtain ⟨x, hx, e1⟩ : ∃ x, nameB x = true ∧ b1 = .str x := by
        rcases o1 with ⟨_, x, hx, e1⟩ | ⟨e, _⟩ | ⟨e, _⟩ | ⟨e, _⟩
        · exact ⟨x, hx, e1⟩
        · exact absurd e (by decide)
        · exact absurd e (by decide)
        · exact absurd e (by decide)
      obtain ⟨xs, h1, h2, h3, e2⟩ : ∃ xs : List Str, 1 ≤ xs.length ∧ xs.length ≤ 5 ∧ (∀ x ∈ xs, nameB x = true) ∧ b2 = .tup (xs.map .str) := by
        rcases o2 with ⟨e, _⟩ | ⟨e, _⟩ | ⟨e, _⟩ | ⟨_, z⟩
        · exact absurd e (by decide)
        · exact absurd e (by decide)
        · exact absurd e (by decide)
        · exact z
      subst e1 e2
      have f : (List.map (fun r : Str × D × Nat => wordsP (r.1, r.2.1)) [("n", .str x, c1), ("w", .tup (xs.map .str), c2)]).flatten = x :: xs := by
        show ([x] ++ ((xs.map D.str).map txtOf ++ [])) = _
        rw [List.map_map, show (txtOf ∘ D.str) = id from rfl, List.map_id, List.append_nil]; rfl
      rw [f, hw]
      simp only [headPs, call_form]
      rw [if_pos trivial, if_pos ⟨hx, h1, h2, List.all_eq_true.mpr h3⟩]
      rfl
  · have nw : ∀ r ∈ rs, r.1 ≠ ("w" : Str) := fun r hr e => by
      have := forms_w _ (forms_mem z.l) hw
      rw [show chs (w, s).2 = rs.map (·.1) from z.cs] at this
      exact this (List.mem_map.mpr ⟨r, hr, e⟩)
    obtain ⟨i1, i2, i3⟩ := head_zip z.ok nw
    simp only [headPs, z.l]
    rw [if_neg hw, z.cs, if_pos i1, i2, i3]
    rfl
theorem forms_no : ∀ q ∈ FORMS, q.1 ≠ ("body" : Str) ∧ q.1 ≠ ("end" : Str) ∧ q.1 ≠ ("with" : Str) := by decide +kernel
theorem forms_d : ∀ q ∈ FORMS, (("d" : Str) ∉ chs q.2 ∧ hasD q.1 = false) ∨ (hasD q.1 = true ∧ ((q.1 ≠ ("around" : Str) ∧ (chs q.2 = [("d" : Str)] ∨ chs q.2 = [("n" : Str), ("d" : Str)] ∨ chs q.2 = [("t" : Str), ("d" : Str)])) ∨ (q.1 = ("around" : Str) ∧ chs q.2 = [("d" : Str), ("d" : Str)]))) := by decide +kernel
theorem step_head {n : Nat} {d : D} {c : Nat} (h : DeedG n d c) {w s : Str} {ps : List D} {rs : List (Str × D × Nat)} (z : DZ n d c w s ps rs) {t : St} {ws : List Str} (hw : t.wi = some ws) (hd : deepG t ≤ 6) (hm : t.many + 1 ≤ 60) :
    stepL t (headD d) = if hasD w = true then some { t with fr := t.fr ++ [⟨w, ndP rs, [[]]⟩], many := t.many + 1 } else some (putG (.tup (.str w :: ndP rs)) (addM 1 t)) := by
  have e : headWs d = w :: ((zsD d).map wordsP).flatten := by unfold headWs; rw [z.wd]
  have hp := head_ps z
  obtain ⟨n1, n2, n3⟩ := forms_no _ (forms_mem z.l)
  have e2 : stepL t (headD d) = stepD t (headWs d) := by
    unfold stepL headD
    rw [spl_words (by rw [e]; simp) (head_ok h), e]
    simp only
    rw [hw]
    simp only
    rw [if_neg n1, if_neg (fun q => q.elim n2 n3)]
  rw [e2]
  unfold stepD
  rw [hp, e]
  simp only
  rw [if_pos ⟨hd, hm⟩]
  rfl
theorem split_one {x : Str} (h : WdOk x = true) : Txt.split x " " = [x] := spl_words (ws := [x]) (by simp) fun w hw => by rw [List.mem_singleton.mp hw]; exact h
theorem getLast_snoc {α : Type} (l : List α) (x : α) : (l ++ [x]).getLast? = some x := by simp
theorem stepT_end {t : St} {fr : List Fr} {F : Fr} (h : t.fr = fr ++ [F]) (nw : ¬ (F.w = ("around" : Str) ∧ F.ls.length = 1)) (nb : F.w ≠ ("body" : Str)) : stepT t "end" = some (putG (.tup (.str F.w :: toldG F)) { t with fr := fr }) := by
  unfold stepT
  rw [h, getLast_snoc]
  simp only
  rw [if_neg (by decide), if_neg nw, if_neg nb, List.dropLast_concat]
theorem stepT_body {t : St} {fr : List Fr} {F : Fr} (h : t.fr = fr ++ [F]) (nb : F.w = ("body" : Str)) : stepT t "end" = some { t with fr := fr, bo := t.bo ++ [.tup (toldG F)] } := by
  unfold stepT
  rw [h, getLast_snoc]
  simp only
  rw [if_neg (by decide), if_neg (by rw [nb]; intro z; exact absurd z.1 (by decide)), if_pos nb, List.dropLast_concat]
theorem stepT_with {t : St} {fr : List Fr} {F : Fr} (h : t.fr = fr ++ [F]) (nw : F.w = ("around" : Str) ∧ F.ls.length = 1) : stepT t "with" = some { t with fr := fr ++ [{ F with ls := F.ls ++ [[]] }] } := by
  unfold stepT
  rw [h, getLast_snoc]
  simp only
  rw [if_pos trivial, if_pos nw, onLast_snoc]
theorem stepL_end {t : St} {ws : List Str} (hw : t.wi = some ws) : stepL t "end" = stepT t "end" := by
  unfold stepL
  rw [split_one (by decide +kernel)]
  simp only
  rw [hw]
  simp only
  rw [if_neg (by decide), if_pos (.inl trivial), if_pos trivial]
theorem stepL_with {t : St} {ws : List Str} (hw : t.wi = some ws) : stepL t "with" = stepT t "with" := by
  unfold stepL
  rw [split_one (by decide +kernel)]
  simp only
  rw [hw]
  simp only
  rw [if_neg (by decide), if_pos (.inr trivial), if_pos trivial]
theorem deep_open {t : St} {F : Fr} (nb : F.w ≠ ("body" : Str)) (m : Int) : deepG { t with fr := t.fr ++ [F], many := m } = deepG t + 1 := by
  unfold deepG
  simp only
  rw [List.filter_append, List.length_append, List.filter_cons, if_pos (by simpa using nb)]
  rfl
theorem run_deeds {n : Nat} (hf : ∀ {d : D} {c : Nat} (pl : List Int) {t : St} {ws : List Str}, DeedG n d c → t.wi = some ws → deepG t + n ≤ 7 → t.many + c ≤ 60 → runL t ((rowsF n d pl).map (·.1)) = some (putG d (addM c t))) (pl : List Int) :
    ∀ {es : List D} {c : Nat} (b : Int) {t : St} {ws : List Str}, DsG n es c → t.wi = some ws → deepG t + n ≤ 7 → t.many + c ≤ 60 → runL t ((rowsLs (rowsF n) pl b es).map (·.1)) = some (putsG es (addM c t))
  | [], c, b, t, ws, h, _, _, _ => by
    obtain ⟨qs, e, _, rfl⟩ := h
    cases qs with
    | cons q qs => cases e
    | nil =>
      show some t = some (addM _ t)
      unfold addM
      simp
  | d :: es, c, b, t, ws, h, hw, hd, hm => by
    obtain ⟨a, e, h1, h2, rfl⟩ := h.cons
    rw [rowsLs, List.map_append, runL_app, hf (pl ++ [b]) h1 hw hd (by omega)]
    show runL (putG d (addM a t)) _ = _
    have e1 : (addM a t).many = t.many + a := rfl
    rw [run_deeds hf pl (b + 1) (t := putG d (addM a t)) (ws := ws) h2 (by rw [putG_w]; exact hw) (by rw [putG_d]; exact hd) (by rw [putG_m, e1]; omega)]
    show some (putsG es _) = some (putsG es (putG d _))
    rw [addM_put, addM_add]
    rfl
theorem nd_all : ∀ {rs : List (Str × D × Nat)}, (∀ r ∈ rs, r.1 ≠ ("d" : Str)) → ndP rs = rs.map (·.2.1)
  | [], _ => rfl
  | r :: rs, h => by
    have ih := nd_all (rs := rs) fun x hx => h x (List.mem_cons_of_mem _ hx)
    unfold ndP at ih ⊢
    rw [List.filter_cons, if_pos (by simpa using h r List.mem_cons_self), List.map_cons, List.map_cons, ih]
theorem nd_zero {P : D → Nat → Prop} : ∀ {rs : List (Str × D × Nat)}, (∀ r ∈ rs, PartG P r.1 r.2.1 r.2.2) → (∀ r ∈ rs, r.1 ≠ ("d" : Str)) → (rs.map (·.2.2)).sum = 0
  | [], _, _ => rfl
  | r :: rs, h, hn => by
    have ih := nd_zero (rs := rs) (fun x hx => h x (List.mem_cons_of_mem _ hx)) fun x hx => hn x (List.mem_cons_of_mem _ hx)
    rw [List.map_cons, List.sum_cons, ih]
    rcases h r List.mem_cons_self with ⟨e, _⟩ | ⟨_, k0, _⟩
    · exact (hn r List.mem_cons_self e).elim
    · omega
theorem lots_nil : ∀ {rs : List (Str × D × Nat)}, (∀ r ∈ rs, r.1 ≠ ("d" : Str)) → ((rs.map fun r => (r.1, r.2.1)).filter fun q : Str × D => decide (q.1 = ("d" : Str))) = []
  | [], _ => rfl
  | r :: rs, h => by
    rw [List.map_cons, List.filter_cons, if_neg (by simpa using h r List.mem_cons_self), lots_nil fun x hx => h x (List.mem_cons_of_mem _ hx)]
theorem deed_split {n : Nat} {d : D} {c : Nat} {w s : Str} {ps : List D} {rs : List (Str × D × Nat)} (z : DZ n d c w s ps rs) :
    (hasD w = false ∧ lotsD d = [] ∧ d = .tup (.str w :: ndP rs) ∧ c = 1) ∨
    (hasD w = true ∧ w ≠ ("around" : Str) ∧ ∃ es k, lotsD d = [es] ∧ d = .tup (.str w :: (ndP rs ++ [.tup es])) ∧ DsG (n - 1) es k ∧ c = 1 + k) ∨
    (hasD w = true ∧ w = ("around" : Str) ∧ ndP rs = [] ∧ ∃ es k fs m, lotsD d = [es, fs] ∧ d = .tup (.str w :: [.tup es, .tup fs]) ∧ DsG (n - 1) es k ∧ DsG (n - 1) fs m ∧ c = 1 + (k + m)) := by
  rcases forms_d _ (forms_mem z.l) with ⟨h1, h2⟩ | ⟨h1, h2⟩
  · refine .inl ⟨h2, ?_⟩
    have hn : ∀ r ∈ rs, r.1 ≠ ("d" : Str) := fun r hr e => h1 (by rw [show chs (w, s).2 = rs.map (·.1) from z.cs]; exact List.mem_map.mpr ⟨r, hr, e⟩)
    refine ⟨?_, by rw [nd_all hn, z.e, z.ps], by rw [z.c, nd_zero z.ok hn]⟩
    unfold lotsD
    rw [z.zs, lots_nil hn]
    rfl
  · have cs : chs s = rs.map (·.1) := z.cs
    rcases h2 with ⟨na, h2⟩ | ⟨na, h2⟩
    · have sp : ∃ r0 r, rs = r0 ++ [r] ∧ (∀ x ∈ r0, x.1 ≠ ("d" : Str)) ∧ r.1 = ("d" : Str) := by
        rcases h2 with h2 | h2 | h2 <;> rw [show chs (w, s).2 = rs.map (·.1) from cs] at h2
        · obtain ⟨r, rfl, h3⟩ := map_one h2
          exact ⟨[], r, rfl, fun _ h => (nomatch h), h3⟩
        · obtain ⟨q, r, rfl, h3⟩ := map_two h2
          exact ⟨[q], r, rfl, fun x h => by rw [List.mem_singleton.mp h, h3.1]; decide, h3.2⟩
        · obtain ⟨q, r, rfl, h3⟩ := map_two h2
          exact ⟨[q], r, rfl, fun x h => by rw [List.mem_singleton.mp h, h3.1]; decide, h3.2⟩
      obtain ⟨r0, r, rfl, hn, hr⟩ := sp
      rcases z.ok r (by simp) with ⟨_, es, e1, _, e2⟩ | ⟨e, _⟩
      · refine .inr (.inl ⟨h1, na, es, r.2.2, ?_, ?_, e2, ?_⟩)
        · unfold lotsD
          rw [z.zs, List.map_append, List.filter_append, lots_nil hn, List.map_cons, List.map_nil, List.filter_cons, if_pos (by simpa using hr), List.nil_append, List.filter_nil, List.map_cons, List.map_nil, e1]
          rfl
        · rw [z.e, z.ps, List.map_append, List.map_cons, List.map_nil, e1]
          congr 3
          rw [← nd_all hn]
          unfold ndP
          rw [List.filter_append, List.filter_cons, if_neg (by simpa using hr), List.filter_nil, List.append_nil]
        · rw [z.c, List.map_append, List.sum_append, nd_zero (fun x hx => z.ok x (List.mem_append_left _ hx)) hn]
          simp
      · exact (e hr).elim
    · rw [show chs (w, s).2 = rs.map (·.1) from cs] at h2
      have e := z.e
      have ep := z.ps
      have zs := z.zs
      have zc := z.c
      have ok := z.ok
      clear z cs
      obtain ⟨q, r, rfl, h3⟩ := map_two h2
      · have oq := ok q (by simp)
        have o2 := ok r (by simp)
        rcases oq with ⟨_, es, e1, _, e2⟩ | ⟨e, _⟩
        case inr => exact (e h3.1).elim
        rcases o2 with ⟨_, fs, f1, _, f2⟩ | ⟨e, _⟩
        case inr => exact (e h3.2).elim
        refine .inr (.inr ⟨h1, na, ?_, es, q.2.2, fs, r.2.2, ?_, ?_, e2, f2, ?_⟩)
        · unfold ndP
          rw [List.filter_cons, if_neg (by simpa using h3.1), List.filter_cons, if_neg (by simpa using h3.2)]
          rfl
        · unfold lotsD
          rw [zs, List.map_cons, List.map_cons, List.map_nil, List.filter_cons, if_pos (by simpa using h3.1), List.filter_cons, if_pos (by simpa using h3.2), List.filter_nil, List.map_cons, List.map_cons, List.map_nil, e1, f1]
          rfl
        · rw [e, ep, List.map_cons, List.map_cons, List.map_nil, e1, f1]
        · rw [zc]
          simp
theorem run_end {ws : List Str} {bo own : List D} {fr : List Fr} {F : Fr} {m : Int} (nw : ¬ (F.w = ("around" : Str) ∧ F.ls.length = 1)) (nb : F.w ≠ ("body" : Str)) : runL ⟨some ws, bo, own, fr ++ [F], m⟩ ["end"] = some (putG (.tup (.str F.w :: toldG F)) ⟨some ws, bo, own, fr, m⟩) := by
  rw [runL, stepL_end (t := ⟨some ws, bo, own, fr ++ [F], m⟩) (ws := ws) rfl, stepT_end (t := ⟨some ws, bo, own, fr ++ [F], m⟩) (fr := fr) (F := F) rfl nw nb]
  rfl
theorem run_body {ws : List Str} {bo own : List D} {fr : List Fr} {F : Fr} {m : Int} (nb : F.w = ("body" : Str)) : runL ⟨some ws, bo, own, fr ++ [F], m⟩ ["end"] = some ⟨some ws, bo ++ [.tup (toldG F)], own, fr, m⟩ := by
  rw [runL, stepL_end (t := ⟨some ws, bo, own, fr ++ [F], m⟩) (ws := ws) rfl, stepT_body (t := ⟨some ws, bo, own, fr ++ [F], m⟩) (fr := fr) (F := F) rfl nb]
  rfl
theorem run_with {ws : List Str} {bo own : List D} {fr : List Fr} {F : Fr} {m : Int} {rs : List Str} (nw : F.w = ("around" : Str) ∧ F.ls.length = 1) : runL ⟨some ws, bo, own, fr ++ [F], m⟩ ("with" :: rs) = runL ⟨some ws, bo, own, fr ++ [{ F with ls := F.ls ++ [[]] }], m⟩ rs := by
  rw [runL, stepL_with (t := ⟨some ws, bo, own, fr ++ [F], m⟩) (ws := ws) rfl, stepT_with (t := ⟨some ws, bo, own, fr ++ [F], m⟩) (fr := fr) (F := F) rfl nw]
theorem puts_fr {ws : List Str} {bo own : List D} {fr : List Fr} {w : Str} {p : List D} {l0 : List (List D)} {m : Int} (es : List D) (c : Int) : putsG es (addM c ⟨some ws, bo, own, fr ++ [⟨w, p, l0 ++ [[]]⟩], m⟩) = ⟨some ws, bo, own, fr ++ [⟨w, p, l0 ++ [es]⟩], m + c⟩ := by
  rw [puts_open (fr := fr) (F := ⟨w, p, l0 ++ [[]]⟩) (l0 := l0) es [] _ rfl rfl]
  rfl
theorem run_deed : ∀ (n : Nat) {d : D} {c : Nat} (pl : List Int) {t : St} {ws : List Str}, DeedG n d c → t.wi = some ws → deepG t + n ≤ 7 → t.many + c ≤ 60 → runL t ((rowsF n d pl).map (·.1)) = some (putG d (addM c t))
  | 0, _, _, _, _, _, h, _, _, _ => h.elim
  | n + 1, d, c, pl, ⟨wi, bo, own, fr, many⟩, ws, h, hw, hd, hm => by
    obtain rfl : wi = some ws := hw
    have hm : many + c ≤ 60 := hm
    obtain ⟨w, s, ps, rs, z⟩ := h.dz
    obtain ⟨nb, _, _⟩ := forms_no _ (forms_mem z.l)
    have nb : w ≠ ("body" : Str) := nb
    have pos := h.pos
    have hh := step_head h z (t := ⟨some ws, bo, own, fr, many⟩) rfl (by omega) (by show many + 1 ≤ 60; omega)
    have rd : ∀ {es : List D} {k : Nat} (b : Int) {bo own : List D} {fr : List Fr} {many : Int}, DsG n es k → deepG ⟨some ws, bo, own, fr, many⟩ + n ≤ 7 → many + k ≤ 60 → runL ⟨some ws, bo, own, fr, many⟩ ((rowsLs (rowsF n) pl b es).map (·.1)) = some (putsG es (addM k ⟨some ws, bo, own, fr, many⟩)) := fun {es} {k} b {bo} {own} {fr} {many} h1 h3 h4 => run_deeds (fun {d} {c} pl {t} {ws} h5 h6 h7 h8 => run_deed n pl h5 h6 h7 h8) pl b (ws := ws) h1 rfl h3 h4
    have dp : ∀ (F : Fr) (m : Int), F.w = w → deepG ⟨some ws, bo, own, fr ++ [F], m⟩ + n ≤ 7 := fun F m e => by
      have := deep_open (t := ⟨some ws, bo, own, fr, many⟩) (F := F) (by rw [e]; exact nb) m
      simp only at this
      rw [this]
      omega
    rw [rowsF, List.map_cons, runL, hh]
    rcases deed_split z with ⟨h1, h2, h3, h4⟩ | ⟨h1, na, es, k, h2, h3, h4, h5⟩ | ⟨h1, na, np, es, k, fs, m, h2, h3, h4, h4', h5⟩
    · rw [h1, h2, if_neg (by decide)]
      show some _ = some _
      rw [← h3, h4]
      rfl
    · rw [h1, h2, if_pos rfl]
      have er : List.map (fun r : Row => r.1) ((withR 0 ++ rowsLs (rowsF n) pl 0 es ++ []) ++ endR [es]) = (rowsLs (rowsF n) pl 0 es).map (·.1) ++ [("end" : Str)] := by
        rw [show withR 0 = [] from rfl, List.nil_append, List.append_nil, show endR [es] = [(("end", none) : Row)] from rfl, List.map_append]
        rfl
      refine (congrArg (runL ⟨some ws, bo, own, fr ++ [⟨w, ndP rs, [] ++ [[]]⟩], many + 1⟩) er).trans ?_
      rw [runL_app, rd 0 h4 (dp _ _ rfl) (by omega), puts_fr]
      show runL _ ["end"] = _
      rw [run_end (fun q => na q.1) nb, h3, h5]
      show some _ = some _
      congr 2
      unfold addM
      simp only [St.mk.injEq, true_and]
      omega
    · rw [h1, h2, if_pos rfl]
      have er : List.map (fun r : Row => r.1) ((withR 0 ++ rowsLs (rowsF n) pl 0 es ++ (withR 1 ++ rowsLs (rowsF n) pl (0 + es.length) fs ++ [])) ++ endR [es, fs]) = ((rowsLs (rowsF n) pl 0 es).map (·.1) ++ (("with" : Str) :: (rowsLs (rowsF n) pl (0 + es.length) fs).map (·.1))) ++ [("end" : Str)] := by
        rw [show withR 0 = [] from rfl, List.nil_append, List.append_nil, show endR [es, fs] = [(("end", none) : Row)] from rfl, show withR 1 = [(("with", none) : Row)] from rfl, List.map_append, List.map_append, List.map_append]
        rfl
      refine (congrArg (runL ⟨some ws, bo, own, fr ++ [⟨w, ndP rs, [] ++ [[]]⟩], many + 1⟩) er).trans ?_
      rw [runL_app, runL_app, rd 0 h4 (dp _ _ rfl) (by omega), puts_fr]
      show (runL _ ("with" :: _)).bind _ = _
      rw [run_with ⟨na, rfl⟩]
      show (runL ⟨some ws, bo, own, fr ++ [⟨w, ndP rs, [es] ++ [[]]⟩], many + 1 + k⟩ _).bind _ = _
      rw [rd _ h4' (dp _ _ rfl) (by omega), puts_fr]
      show runL _ ["end"] = _
      rw [run_end (fun q => absurd q.2 (by show ¬ ([es] ++ [fs]).length = 1; simp)) nb, h3, h5]
      show some _ = some _
      unfold toldG
      rw [np]
      congr 2
      unfold addM
      simp only [St.mk.injEq, true_and]
      omega
theorem joinL_mem {S : List Nat} {c : Nat} : ∀ {ls : List (List Nat)}, c ∈ TL.joinL S ls → c ∈ S ∨ ∃ l ∈ ls, c ∈ l
  | [p], h => .inr ⟨p, List.mem_singleton.mpr rfl, h⟩
  | p :: q :: r, h => by
    have h : c ∈ p ++ (S ++ TL.joinL S (q :: r)) := h
    rcases List.mem_append.mp h with h | h
    · exact .inr ⟨p, List.mem_cons_self, h⟩
    rcases List.mem_append.mp h with h | h
    · exact .inl h
    rcases joinL_mem h with h | ⟨l, hl, h⟩
    · exact .inl h
    · exact .inr ⟨l, List.mem_cons_of_mem _ hl, h⟩
theorem row_signs {r : Row} (h : RwOk r) : ∀ c ∈ TL.tl r.1, 32 ≤ c ∧ c ≤ 126 := by
  obtain ⟨ws, e, _, _, hw⟩ := h
  rw [e, TL.join_eq, TL.tl_join]
  intro c hc
  rcases joinL_mem hc with h | ⟨l, hl, h⟩
  · rw [show TL.tl (" " : Str) = [32] by decide +kernel] at h
    rw [List.mem_singleton.mp h]
    omega
  · obtain ⟨w, hw2, rfl⟩ := List.mem_map.mp hl
    have := hw w hw2
    unfold WdOk at this
    simp only [Bool.and_eq_true, decide_eq_true_eq, List.all_eq_true] at this
    have := this.2 c h
    omega
theorem rows_split {rs : List Row} (ne : rs ≠ []) (h : ∀ r ∈ rs, RwOk r) : Txt.split (Txt.join "\n" (rs.map (·.1))) "\n" = rs.map (·.1) :=
  TL.split_join (s := 10) (S := []) rfl (by decide +kernel) (by simpa using ne) fun p hp z => by
    obtain ⟨r, hr, rfl⟩ := List.mem_map.mp hp
    have := row_signs (h r hr) 10 z
    omega
theorem areNs_of {ws : List Str} (h : NsG ws) : areNs ws = true := by
  obtain ⟨h1, h2, h3, h4⟩ := h
  unfold areNs areN
  simp only [Bool.and_eq_true, decide_eq_true_eq, List.all_eq_true, List.length_map]
  refine ⟨by omega, by omega, fun d hd => ?_⟩
  obtain ⟨w, hw, rfl⟩ := List.mem_map.mp hd
  exact h3 w hw
theorem unl_of {ws : List Str} (h : ws.Nodup) : unl ws = true := by
  unfold unl
  rw [once_self ws [] (by rw [List.nil_append]; exact h)]
  simp
theorem step_wires {ws : List Str} (h : NsG ws) : stepL st0 (Txt.join " " ("wires" :: ws)) = some { st0 with wi := some ws } := by
  unfold stepL
  rw [spl_words (by simp) fun w hw => by
    rcases List.mem_cons.mp hw with rfl | hw
    · decide +kernel
    · exact wd_name (h.2.2.1 w hw)]
  simp only [st0]
  rw [if_pos trivial]
  unfold stepW
  rw [if_pos ⟨areNs_of h, unl_of h.2.2.2⟩]
theorem step_body {ws own : List Str} {bo : List D} {m : Int} {n : Str} (h : NsG own) (hn : nameB n = true) (bl : bo.length ≠ 8) (nn : n ∉ bo.map nmOf) :
    stepL ⟨some ws, bo, [], [], m⟩ (Txt.join " " ("body" :: n :: own)) = some ⟨some ws, bo, [], [⟨"body", [.str n, .tup (own.map .str)], [[]]⟩], m⟩ := by
  unfold stepL
  rw [spl_words (by simp) fun w hw => by
    rcases List.mem_cons.mp hw with rfl | hw
    · decide +kernel
    rcases List.mem_cons.mp hw with rfl | hw
    · exact wd_name hn
    · exact wd_name (h.2.2.1 w hw)]
  simp only
  rw [if_pos trivial]
  unfold stepB
  simp only
  rw [if_pos ⟨trivial, trivial, bl, hn, nn, areNs_of h, unl_of h.2.2.2⟩]
  rfl
theorem run_ds {ws : List Str} {bo own : List D} {fr : List Fr} {m : Int} {es : List D} {c : Nat} (pl : List Int) (b : Int) (h : DsG 6 es c) (d : deepG ⟨some ws, bo, own, fr, m⟩ ≤ 1) (hm : m + c ≤ 60) :
    runL ⟨some ws, bo, own, fr, m⟩ ((rowsLs (rowsF 6) pl b es).map (·.1)) = some (putsG es (addM c ⟨some ws, bo, own, fr, m⟩)) :=
  run_deeds (fun {d} {c} pl {t} {ws} h5 h6 h7 h8 => run_deed 6 pl h5 h6 h7 h8) pl b (ws := ws) h rfl (by omega) hm
theorem run_bodies {ws : List Str} : ∀ (bs : List Bo) (k : Int) {m : Int} {cs : List Nat} {bs0 : List Bo}, ((bs0 ++ bs).map (·.n)).Nodup → bs0.length + bs.length ≤ 8 → (∀ b ∈ bs, nameB b.n = true ∧ NsG b.ws) →
    Paired (DsG 6) (bs.map (·.ds)) cs → m + cs.sum ≤ 60 → runL ⟨some ws, bs0.map boG, [], [], m⟩ ((rowsB k bs).map (·.1)) = some ⟨some ws, (bs0 ++ bs).map boG, [], [], m + cs.sum⟩
  | [], k, m, cs, bs0, _, _, _, hp, _ => by
    cases hp
    rw [List.append_nil]
    show some _ = some _
    simp
  | b :: bs, k, m, cs, bs0, nd, hl, ok, hp, hm => by
    cases hp with
    | cons h1 h2 =>
    rename_i c cs
    obtain ⟨o1, o2⟩ := ok b List.mem_cons_self
    have nn : b.n ∉ (bs0.map boG).map nmOf := by
      rw [List.map_map, show (nmOf ∘ boG) = fun b : Bo => b.n from rfl]
      rw [List.map_append, List.nodup_append] at nd
      exact fun z => nd.2.2 b.n z b.n (by simp) rfl
    rw [List.sum_cons] at hm
    simp only [List.length_cons] at hl
    have er : (rowsB k (b :: bs)).map (fun r : Row => r.1) = Txt.join " " ("body" :: b.n :: b.ws) :: (((rowsLs (rowsF 6) [k] 0 b.ds).map (·.1) ++ [("end" : Str)]) ++ (rowsB (k + 1) bs).map (·.1)) := by
      rw [rowsB, List.map_append, List.map_cons, List.map_append]
      rfl
    refine (congrArg (runL _) er).trans ?_
    rw [runL, step_body o2 o1 (by rw [List.length_map]; omega) nn]
    show runL ⟨some ws, bs0.map boG, [], [] ++ [⟨"body", [.str b.n, .tup (b.ws.map .str)], [] ++ [[]]⟩], m⟩ _ = _
    rw [runL_app, runL_app, run_ds [k] 0 h1 (by unfold deepG; simp) (by omega), puts_fr]
    show ((runL _ ["end"]).bind _) = _
    rw [run_body rfl]
    show runL _ _ = _
    have ih := run_bodies (ws := ws) bs (k + 1) (m := m + c) (cs := cs) (bs0 := bs0 ++ [b]) (by rw [List.append_assoc]; exact nd) (by rw [List.length_append]; simp only [List.length_cons, List.length_nil]; omega) (fun x hx => ok x (List.mem_cons_of_mem _ hx)) h2 (by omega)
    rw [List.append_assoc, List.map_append] at ih
    refine Eq.trans ?_ (ih.trans ?_)
    · rfl
    · congr 1
      simp only [St.mk.injEq, true_and, List.sum_cons, List.cons_append, List.nil_append, and_self]
      omega
theorem read_show {g : Pr} (ok : PrOk g) : readG (showG g) = some (prG g) := by
  unfold readG showG
  rw [rows_split (by unfold rowsG; simp) (rowsG_ok ok)]
  obtain ⟨cs, h1, h2⟩ := ok.cs
  have sp : ∃ ca c, cs = ca ++ [c] ∧ Paired (DsG 6) (g.bo.map (·.ds)) ca ∧ DsG 6 g.ds c := by
    clear h2
    generalize g.bo.map (·.ds) = xs at h1
    induction xs generalizing cs with
    | nil =>
      cases h1 with
      | cons a b => cases b; exact ⟨[], _, rfl, .nil, a⟩
    | cons x xs ih =>
      cases h1 with
      | cons a b =>
        obtain ⟨ca, c, rfl, i1, i2⟩ := ih _ b
        exact ⟨_ :: ca, c, rfl, .cons a i1, i2⟩
  obtain ⟨ca, c, rfl, p1, p2⟩ := sp
  rw [List.sum_append] at h2
  simp only [List.sum_cons, List.sum_nil] at h2
  have st : runL st0 ((rowsG g).map (·.1)) = some { wi := some g.ws, bo := g.bo.map boG, own := g.ds, fr := [], many := 0 + (ca.sum : Int) + c } := by
    have er : (rowsG g).map (fun r : Row => r.1) = Txt.join " " ("wires" :: g.ws) :: ((rowsB 0 g.bo).map (·.1) ++ (rowsLs (rowsF 6) [(g.bo.length : Int)] 0 g.ds).map (·.1)) := by
      unfold rowsG
      rw [List.cons_append, List.map_cons, List.map_append]
    refine (congrArg (runL _) er).trans ?_
    rw [runL, step_wires ok.ws]
    show runL ⟨some g.ws, ([] : List Bo).map boG, [], [], 0⟩ _ = _
    rw [runL_app, run_bodies g.bo 0 (cs := ca) (bs0 := []) ok.bn (by have := ok.bl; simp only [List.length_nil]; omega) ok.bo p1 (by omega)]
    show runL _ _ = _
    rw [run_ds _ 0 p2 (by unfold deepG; simp) (by omega), puts_own _ _ rfl]
    rfl
  rw [st]
  rfl
theorem lkP_same {M : Mem} {a : Addr} {c c0 : Cell} (h : M.lookup a = some c0) : (mput M a c).lookup a = some c := by
  induction M with
  | nil => cases h
  | cons p M ih =>
    show List.lookup a ((if p.1 = a then (a, c) else p) :: mput M a c) = _
    by_cases e : p.1 = a
    · rw [if_pos e, List.lookup_cons]; simp
    · rw [if_neg e, List.lookup_cons, show (a == p.1) = false from by simpa using fun z => e z.symm]
      rw [List.lookup_cons, show (a == p.1) = false from by simpa using fun z => e z.symm] at h
      exact ih h
theorem lkP_ne {M : Mem} {a b : Addr} {c : Cell} (h : b ≠ a) : (mput M a c).lookup b = M.lookup b := by
  induction M with
  | nil => rfl
  | cons p M ih =>
    show List.lookup b ((if p.1 = a then (a, c) else p) :: mput M a c) = _
    rw [List.lookup_cons, List.lookup_cons]
    by_cases e : p.1 = a
    · rw [if_pos e, show (b == a) = false from by simpa using h, show (b == p.1) = false from by rw [e]; simpa using h]
      exact ih
    · rw [if_neg e]
      cases (b == p.1) with
      | true => rfl
      | false => exact ih
theorem lk_dom {M : Mem} {a : Addr} {c : Cell} (h : M.lookup a = some c) : a ∈ dom M := List.mem_map.mpr ⟨_, lookup_mem h, rfl⟩
theorem Own.put {A B : Mem} {a : Addr} {c0 c : Cell} {M0 M : Mem} (h : Own (A ++ (a, c0) :: B) M0 M) : Own (A ++ (a, c) :: B) M0 (mput M a c) := by
  have na : a ∉ dom M0 := h.no (a, c0) (by simp)
  have nd := h.nd
  rw [List.map_append, List.map_cons, List.nodup_append, List.nodup_cons] at nd
  refine ⟨?_, fun q hq => ?_, ?_, fun q hq => ?_⟩
  · obtain ⟨N, e⟩ := h.ex
    refine ⟨mput N a c, ?_⟩
    rw [e]
    show List.map _ (N ++ M0) = _
    rw [List.map_append]
    congr 1
    exact mput_no na
  · rcases List.mem_append.mp hq with hq | hq
    · have ne : q.1 ≠ a := nd.2.2 q.1 (List.mem_map.mpr ⟨q, hq, rfl⟩) a (by simp)
      rw [lkP_ne ne]
      exact h.at_ q (List.mem_append_left _ hq)
    rcases List.mem_cons.mp hq with rfl | hq
    · exact lkP_same (h.at_ (a, c0) (by simp))
    · have ne : q.1 ≠ a := fun e => nd.2.1.1 (List.mem_map.mpr ⟨q, hq, e⟩)
      rw [lkP_ne ne]
      exact h.at_ q (List.mem_append_right _ (List.mem_cons_of_mem _ hq))
  · have := h.nd
    rw [List.map_append, List.map_cons] at this ⊢
    exact this
  · rcases List.mem_append.mp hq with hq | hq
    · exact h.no q (List.mem_append_left _ hq)
    rcases List.mem_cons.mp hq with rfl | hq
    · exact na
    · exact h.no q (List.mem_append_right _ (List.mem_cons_of_mem _ hq))
theorem Own.new {A B : Mem} {a : Addr} {c : Cell} {M0 M : Mem} (h : Own (A ++ B) M0 M) (na : a ∉ dom M) : Own (A ++ (a, c) :: B) M0 ((a, c) :: M) := by
  have old : ∀ q ∈ A ++ B, q.1 ≠ a := fun q hq e => na (e ▸ lk_dom (h.at_ q hq))
  have at' : ∀ q ∈ A ++ B, List.lookup q.1 ((a, c) :: M) = some q.2 := fun q hq => by
    rw [List.lookup_cons, show (q.1 == a) = false from by simpa using old q hq]
    exact h.at_ q hq
  obtain ⟨N, e⟩ := h.ex
  refine ⟨⟨(a, c) :: N, by rw [e]; rfl⟩, fun q hq => ?_, ?_, fun q hq => ?_⟩
  · rcases List.mem_append.mp hq with hq | hq
    · exact at' q (List.mem_append_left _ hq)
    rcases List.mem_cons.mp hq with rfl | hq
    · rw [List.lookup_cons]; simp
    · exact at' q (List.mem_append_right _ hq)
  · have nd := h.nd
    rw [List.map_append] at nd
    rw [List.map_append, List.map_cons, List.perm_middle.nodup_iff, List.nodup_cons]
    refine ⟨fun z => ?_, nd⟩
    rw [← List.map_append] at z
    obtain ⟨q, hq, e⟩ := List.mem_map.mp z
    exact old q hq e
  · rcases List.mem_append.mp hq with hq | hq
    · exact h.no q (List.mem_append_left _ hq)
    rcases List.mem_cons.mp hq with rfl | hq
    · exact fun z => na (by rw [e]; unfold dom at z ⊢; rw [List.map_append]; exact List.mem_append_right _ z)
    · exact h.no q (List.mem_append_right _ hq)
theorem Own.sub {C C' : Mem} {M0 M : Mem} (h : Own C M0 M) (s : List.Sublist C' C) : Own C' M0 M :=
  ⟨h.ex, fun q hq => h.at_ q (s.subset hq), h.nd.sublist (s.map _), fun q hq => h.no q (s.subset hq)⟩
theorem Own.dm {C : Mem} {M0 M : Mem} (h : Own C M0 M) {q : Addr × Cell} (hq : q ∈ C) : q.1 ∈ dom M := lk_dom (h.at_ q hq)
section
variable {L : LA} {M0 M : Mem}
theorem Own.ca (h : Own (cells L) M0 M) : M.lookup L.a = some (.ins "Lines" lF [wiD L.wi, .ref L.b, .ref L.o, .ref L.f, .int L.many]) := h.at_ (cellA L) (by simp [cells])
theorem Own.cb (h : Own (cells L) M0 M) : M.lookup L.b = some (.lst L.bo) := h.at_ (L.b, .lst L.bo) (by simp [cells])
theorem Own.co (h : Own (cells L) M0 M) : M.lookup L.o = some (.lst L.own) := h.at_ (L.o, .lst L.own) (by simp [cells])
theorem Own.cf (h : Own (cells L) M0 M) : M.lookup L.f = some (.lst (L.fs.map fun F => .ref F.x)) := h.at_ (L.f, .lst _) (by simp [cells])
theorem mem_cells {F : FA} (hF : F ∈ L.fs) {q : Addr × Cell} (hq : q ∈ cellF F) : q ∈ cells L := by
  unfold cells
  refine List.mem_cons_of_mem _ (List.mem_cons_of_mem _ (List.mem_cons_of_mem _ (List.mem_cons_of_mem _ ?_)))
  exact List.mem_flatten.mpr ⟨_, List.mem_map.mpr ⟨F, hF, rfl⟩, hq⟩
theorem Own.cx (h : Own (cells L) M0 M) {F : FA} (hF : F ∈ L.fs) : M.lookup F.x = some (.ins "Opened" oF [.str F.w, .tup F.ps, .ref F.y]) := h.at_ (F.x, .ins "Opened" oF [.str F.w, .tup F.ps, .ref F.y]) (mem_cells hF (by simp [cellF]))
theorem Own.cy (h : Own (cells L) M0 M) {F : FA} (hF : F ∈ L.fs) : M.lookup F.y = some (.lst (F.zs.map fun z => .ref z.1)) := h.at_ (F.y, .lst _) (mem_cells hF (by simp [cellF]))
theorem Own.cz (h : Own (cells L) M0 M) {F : FA} (hF : F ∈ L.fs) {z : Addr × List D} (hz : z ∈ F.zs) : M.lookup z.1 = some (.lst z.2) := h.at_ (z.1, .lst z.2) (mem_cells hF (by unfold cellF; refine List.mem_cons_of_mem _ (List.mem_cons_of_mem _ (List.mem_map.mpr ⟨z, hz, rfl⟩))))
end
theorem fL1 (a b c d e : D) : fldD "wires" lF [a, b, c, d, e] = some a := rfl
theorem fL2 (a b c d e : D) : fldD "bodies" lF [a, b, c, d, e] = some b := rfl
theorem fL3 (a b c d e : D) : fldD "own_deeds" lF [a, b, c, d, e] = some c := rfl
theorem fL4 (a b c d e : D) : fldD "opened" lF [a, b, c, d, e] = some d := rfl
theorem fL5 (a b c d e : D) : fldD "many" lF [a, b, c, d, e] = some e := rfl
theorem fO1 (a b c : D) : fldD "word" oF [a, b, c] = some a := rfl
theorem fO2 (a b c : D) : fldD "parts" oF [a, b, c] = some b := rfl
theorem fO3 (a b c : D) : fldD "lots" oF [a, b, c] = some c := rfl
theorem atI_last {α : Type} (l : List α) (x : α) : atI (l ++ [x]) (-1) = some x := by
  unfold atI ixN
  rw [if_neg (by omega), if_pos (by simp only [List.length_append, List.length_cons, List.length_nil]; omega)]
  simp only [List.length_append, List.length_cons, List.length_nil, Option.bind_some]
  rw [show (-1 + ((l.length + (0 + 1) : Nat) : Int)).toNat = l.length by omega]
  simp
theorem forms_rep : ∀ q ∈ FORMS, chs (Txt.replace q.2 "d" "") = ((chs q.2).filter fun c => !decide (c = ("d" : Str))) ∧ q.2.length ≤ 2 := by decide +kernel
theorem sane_strs {xs : List Str} (h1 : xs.length ≤ 10000) (h2 : ∀ x ∈ xs, x.length ≤ 1000) : sane (.tup (xs.map .str)) = true := by
  rw [sane_tup]
  refine ⟨by rw [List.length_map]; exact h1, fun d hd => ?_⟩
  obtain ⟨x, hx, rfl⟩ := List.mem_map.mp hd
  simp only [sane, decide_eq_true_eq]
  exact h2 x hx
theorem areN_strs (xs : List Str) : areN (.tup (xs.map .str)) 1 5 = decide (1 ≤ xs.length ∧ xs.length ≤ 5 ∧ xs.all nameB = true) := by
  show (decide ((1 : Int) ≤ ((xs.map D.str).length : Int)) && (decide (((xs.map D.str).length : Int) ≤ 5) && (xs.map D.str).all isName)) = _
  rw [List.length_map, List.all_map, show (isName ∘ D.str) = nameB from rfl]
  rw [Bool.eq_iff_iff]
  simp only [Bool.and_eq_true, decide_eq_true_eq]
  constructor
  · rintro ⟨a, b, c⟩; exact ⟨by omega, by omega, c⟩
  · rintro ⟨a, b, c⟩; exact ⟨by omega, by omega, c⟩
theorem zip_strs (cs os : List Str) : (cs.zip (os.map D.str)).map (fun q => partW q.1 (txtOf q.2)) = List.zipWith partW cs os := by
  rw [List.zip_map_right, List.map_map, List.zip_eq_zipWith, List.map_zipWith]
  rfl
theorem part_flat (c x : Str) : flatD (partW c x) = true ∧ eqD (partW c x) .non = (match partW c x with | .non => true | _ => false) := by
  have h : (∃ y, partW c x = .str y) ∨ (∃ i, partW c x = .int i) ∨ partW c x = .non := by
    unfold partW
    split
    · split
      · exact .inl ⟨x, rfl⟩
      · exact .inr (.inr rfl)
    · split
      · exact .inr (.inr rfl)
      · rename_i k _
        split
        · exact .inr (.inl ⟨k, rfl⟩)
        · exact .inr (.inr rfl)
  rcases h with ⟨y, h⟩ | ⟨i, h⟩ | h <;> rw [h] <;> refine ⟨rfl, ?_⟩ <;> simp [eqD, toPy, PyData.eqv]
theorem zip_in {cs os : List Str} {d : D} (h : d ∈ List.zipWith partW cs os) : ∃ c x, d = partW c x := by
  rw [← List.map_uncurry_zip_eq_zipWith] at h
  obtain ⟨q, _, rfl⟩ := List.mem_map.mp h
  exact ⟨q.1, q.2, rfl⟩
theorem inD_none : ∀ {ds : List D}, (∀ d ∈ ds, ∃ c x, d = partW c x) → inD .non ds = noneIn ds
  | [], _ => rfl
  | d :: ds, h => by
    have ih := inD_none (ds := ds) fun x hx => h x (List.mem_cons_of_mem _ hx)
    unfold inD noneIn at ih ⊢
    rw [List.any_cons, List.any_cons, ih]
    obtain ⟨c, x, rfl⟩ := h d List.mem_cons_self
    rw [(part_flat c x).2] <;> rfl
theorem rd_head_parts : ∀ ds M Q, S_head_parts ds M Q → as_head_parts (endsOf Q) (slots N_head_parts.length ds) M := by
  rintro ds M Q ⟨ws, rfl, ne, wl, w8, hq⟩
  show as_head_parts (endsOf Q) [.dat (.lst (ws.map .str)), .non, .non, .non, .non, .non, .non, .non] _
  cases ws with
  | nil => exact (ne rfl).elim
  | cons w os =>
    unfold as_head_parts
    rw [gdp]
    walk_at "gs"
    refine ⟨by simp only [List.length_map, List.length_cons] at wl ⊢; omega, ?_⟩
    rw [show (os.map D.str).length + 1 + 1 - 2 = (os.map D.str).length by omega, List.drop_length, List.take_length]
    simp only
    cases hl : lookD FORMS w with
    | none =>
      simp only [headPs, hl] at hq
      simp only [Option.isSome_none, Bool.not_false, if_true]
      exact hq
    | some s =>
      simp only [headPs, hl] at hq
      simp only [Option.isSome_some, Bool.not_true, Bool.false_eq_true, if_false]
      unfold as_head_parts_t3
      rw [gdp]
      walk_at "gwx"
      obtain ⟨er, sl⟩ := forms_rep _ (forms_mem hl)
      have er : chs (Txt.replace s "d" "") = ((chs s).filter fun c => !decide (c = ("d" : Str))) := er
      have sl : s.length ≤ 2 := sl
      have el : (Txt.replace s "d" "").length = ((chs s).filter fun c => !decide (c = ("d" : Str))).length := by rw [← chs_len, er]
      refine ⟨by rw [show ("" : Str).length = 0 from rfl]; omega, ?_⟩
      by_cases hw : w = ("call" : Str)
      · rw [if_pos (by simpa using hw)]
        rw [if_pos hw] at hq
        cases os with
        | nil => exact hq
        | cons a r =>
          walk_at "gs"
          rw [if_pos (by simp)]
          have al : a.length ≤ 1000 := w8 a (by simp)
          have rl : r.length ≤ 1000 := by simp only [List.length_cons] at wl; omega
          refine ⟨_, rfl, by simp only [sane, decide_eq_true_eq]; exact al, ?_⟩
          walk_at "gs"
          simp only at hq
          have dr : cutD (D.str a :: r.map D.str) (some 1) none = r.map D.str := by rw [cut_drop (by omega)]; rfl
          rw [show isName (.str a) = nameB a from rfl, dr]
          by_cases na : nameB a = true
          · rw [if_pos na]
            refine ⟨_, _, _, rfl, sane_strs (by omega) (fun x hx => w8 x (by simp [hx])), by omega, ?_⟩
            rw [areN_strs]
            walk_at "gs"
            by_cases c : 1 ≤ r.length ∧ r.length ≤ 5 ∧ r.all nameB = true
            · rw [if_pos ⟨na, c⟩] at hq
              rw [if_pos (by simpa using c)]
              rw [dr]
              exact hq
            · rw [if_neg (fun z => c z.2)] at hq
              rw [if_neg (by simpa using c)]
              exact hq
          · rw [if_neg na]
            rw [if_neg (fun z => na z.1)] at hq
            exact hq
      · rw [if_neg (by simpa using hw)]
        rw [if_neg hw] at hq
        unfold as_head_parts_t2
        walk_at "gw"
        rw [el, List.length_map]
        have fl : ((chs s).filter fun c => !decide (c = ("d" : Str))).length ≤ 2 := by
          have := List.length_filter_le (fun c => !decide (c = ("d" : Str))) (chs s)
          rw [chs_len] at this
          omega
        refine ⟨by omega, ?_⟩
        by_cases le : os.length = ((chs s).filter fun c => !decide (c = ("d" : Str))).length
        · rw [if_pos le] at hq
          rw [if_neg (by simp [le])]
          unfold as_head_parts_t1
          walk_at "gw"
          rw [sgD_chs, er, zip_rows]
          refine lcMapA rowE (fun q => partW q.1 (txtOf q.2)) _ [] (by simp only [List.length_nil, List.length_zip, List.length_map]; omega) (fun q hq2 P hP => ?_) ?_
          · obtain ⟨y, hy, hy2⟩ := List.mem_map.mp (List.of_mem_zip hq2).2
            unfold rowE as_head_parts_e1
            rw [← hy2] at hP ⊢
            walk_at "gw"
            refine ⟨_, _, rfl, w8 y (List.mem_cons_of_mem _ hy), ?_⟩
            walk_at "gw"
            exact hP
          · rw [List.nil_append, zip_strs]
            walk_at "gw"
            have fs : ∀ d ∈ List.zipWith partW ((chs s).filter fun c => !decide (c = ("d" : Str))) os, ∃ c x, d = partW c x := fun d hd => zip_in hd
            refine ⟨rfl, List.all_eq_true.mpr fun d hd => (by obtain ⟨c, x, rfl⟩ := fs d hd; exact (part_flat c x).1), ?_⟩
            rw [inD_none fs]
            by_cases hn : noneIn (List.zipWith partW ((chs s).filter fun c => !decide (c = ("d" : Str))) os) = true
            · rw [if_pos hn] at hq ⊢
              exact hq
            · rw [if_neg hn] at hq ⊢
              exact hq
        · rw [if_neg le] at hq
          rw [if_pos (by simp only [Bool.not_eq_true', decide_eq_false_iff_not]; omega)]
          exact hq
theorem putN_ne {f n : Str} {ns : List Str} (h : n ≠ f) : putN f (n :: ns) = n :: putN f ns := by rw [putN, if_neg h]
theorem putO_ne {f n : Str} {ns : List Str} {d e : D} {ds : List D} (h : n ≠ f) : putO f d (n :: ns) (e :: ds) = e :: putO f d ns ds := by rw [putO, if_neg h]
theorem putN_eq {f : Str} {ns : List Str} : putN f (f :: ns) = f :: ns := by rw [putN, if_pos rfl]
theorem putO_eq {f : Str} {ns : List Str} {d e : D} {ds : List D} : putO f d (f :: ns) (e :: ds) = d :: ds := by rw [putO, if_pos rfl]
theorem putN_nil {f : Str} : putN f [] = [f] := rfl
theorem putO_nil {f : Str} {d : D} : putO f d [] [] = [d] := rfl
abbrev oF1 : List Str := ["word"]
abbrev oF2 : List Str := ["word", "parts"]
theorem oN1 : putN "word" [] = oF1 := rfl
theorem oN2 : putN "parts" oF1 = oF2 := by rw [putN_ne (by decide), putN_nil]
theorem oN3 : putN "lots" oF2 = oF := by rw [putN_ne (by decide), putN_ne (by decide), putN_nil]; rfl
theorem oO1 (a : D) : putO "word" a [] [] = [a] := rfl
theorem oO2 (a b : D) : putO "parts" b oF1 [a] = [a, b] := by rw [putO_ne (by decide), putO_nil]
theorem oO3 (a b c : D) : putO "lots" c oF2 [a, b] = [a, b, c] := by rw [putO_ne (by decide), putO_ne (by decide), putO_nil]
abbrev lF1 : List Str := ["wires"]
abbrev lF2 : List Str := ["wires", "bodies"]
abbrev lF3 : List Str := ["wires", "bodies", "own_deeds"]
abbrev lF4 : List Str := ["wires", "bodies", "own_deeds", "opened"]
theorem lN1 : putN "wires" [] = lF1 := rfl
theorem lN2 : putN "bodies" lF1 = lF2 := by rw [putN_ne (by decide), putN_nil]
theorem lN3 : putN "own_deeds" lF2 = lF3 := by rw [putN_ne (by decide), putN_ne (by decide), putN_nil]
theorem lN4 : putN "opened" lF3 = lF4 := by rw [putN_ne (by decide), putN_ne (by decide), putN_ne (by decide), putN_nil]
theorem lN5 : putN "many" lF4 = lF := by rw [putN_ne (by decide), putN_ne (by decide), putN_ne (by decide), putN_ne (by decide), putN_nil]; rfl
theorem lO1 (a : D) : putO "wires" a [] [] = [a] := rfl
theorem lO2 (a b : D) : putO "bodies" b lF1 [a] = [a, b] := by rw [putO_ne (by decide), putO_nil]
theorem lO3 (a b c : D) : putO "own_deeds" c lF2 [a, b] = [a, b, c] := by rw [putO_ne (by decide), putO_ne (by decide), putO_nil]
theorem lO4 (a b c d : D) : putO "opened" d lF3 [a, b, c] = [a, b, c, d] := by rw [putO_ne (by decide), putO_ne (by decide), putO_ne (by decide), putO_nil]
theorem lO5 (a b c d e : D) : putO "many" e lF4 [a, b, c, d] = [a, b, c, d, e] := by rw [putO_ne (by decide), putO_ne (by decide), putO_ne (by decide), putO_ne (by decide), putO_nil]
theorem lP1 : putN "wires" lF = lF := by unfold lF; rw [putN_eq]
theorem lP5 : putN "many" lF = lF := by
  unfold lF; rw [putN_ne (by decide), putN_ne (by decide), putN_ne (by decide), putN_ne (by decide), putN_eq]
theorem lQ1 (a b c d e x : D) : putO "wires" x lF [a, b, c, d, e] = [x, b, c, d, e] := by unfold lF; rw [putO_eq]
theorem lQ5 (a b c d e x : D) : putO "many" x lF [a, b, c, d, e] = [a, b, c, d, x] := by
  unfold lF; rw [putO_ne (by decide), putO_ne (by decide), putO_ne (by decide), putO_ne (by decide), putO_eq]
theorem lk_n {a b : Addr} {c : Cell} {M : Mem} (h : b ≠ a) : List.lookup b ((a, c) :: M) = List.lookup b M := by rw [List.lookup_cons, show (b == a) = false from by simpa using h]
theorem not_dom {a b : Addr} {c : Cell} {M : Mem} (h : a ∉ dom ((b, c) :: M)) : a ≠ b ∧ a ∉ dom M := by
  unfold dom at h ⊢
  rw [List.map_cons, List.mem_cons, not_or] at h
  exact h
theorem rd_Opened___init__ : ∀ ds M Q, S_Opened___init__ ds M Q → as_Opened___init__ (endsOf Q) (slots N_Opened___init__.length ds) M := by
  rintro ds M Q ⟨x, w, ps, M0, rfl, rfl, hx, hq⟩
  show as_Opened___init__ (endsOf Q) [.dat (.ref x), .dat (.str w), .dat (.tup ps)] _
  unfold as_Opened___init__
  walk_at "gs"
  simp only [mput_self hx, lk_self, oN1, oO1, oN2, oO2]
  refine ⟨trivial, by decide, fun z hz y hy => ?_⟩
  obtain ⟨hz1, hz2⟩ := not_dom hz
  obtain ⟨hy1, hy'⟩ := not_dom hy
  obtain ⟨hy2, hy3⟩ := not_dom hy'
  simp only [lk_n hz1.symm, lk_n hy2.symm, lk_self, mput_ne hz1, mput_ne hy2, mput_self hx, oN3, oO3]
  exact ⟨trivial, by decide, hq y z hy3 hz2 hy2.symm hz1.symm hy1⟩
theorem rd_Opened_wants_with : ∀ ds M Q, S_Opened_wants_with ds M Q → as_Opened_wants_with (endsOf Q) (slots N_Opened_wants_with.length ds) M := by
  rintro ds M Q ⟨x, y, w, ps, zs, rfl, hx, hy, zl, hq⟩
  show as_Opened_wants_with (endsOf Q) [.dat (.ref x)] _
  unfold as_Opened_wants_with
  walk_at "gs"
  simp only [hx, fO1, fO3, hy]
  refine ⟨trivial, ?_⟩
  by_cases e : w = ("around" : Str)
  · rw [if_pos (by simpa using e)]
    rw [show decide (w = ("around" : Str)) = true by simpa using e, Bool.true_and] at hq
    rw [show decide (zs.length = 1) = decide ((zs.length : Int) = 1) by rw [decide_eq_decide]; omega] at hq
    exact ⟨trivial, hq⟩
  · rw [if_neg (by simpa using e)]
    rw [show decide (w = ("around" : Str)) = false by simpa using e, Bool.false_and] at hq
    exact hq
theorem rd_Lines___init__ : ∀ ds M Q, S_Lines___init__ ds M Q → as_Lines___init__ (endsOf Q) (slots N_Lines___init__.length ds) M := by
  rintro ds M Q ⟨a, M0, rfl, rfl, ha, hq⟩
  show as_Lines___init__ (endsOf Q) [.dat (.ref a)] _
  unfold as_Lines___init__
  walk_at "gs"
  simp only [mput_self ha, lk_self, lN1, lO1]
  intro b hb
  obtain ⟨hb1, hb2⟩ := not_dom hb
  simp only [lk_n hb1.symm, lk_self, mput_ne hb1, mput_self ha, lN2, lO2]
  refine ⟨trivial, by decide, fun o ho => ?_⟩
  obtain ⟨ho1, ho'⟩ := not_dom ho
  obtain ⟨ho2, ho3⟩ := not_dom ho'
  simp only [lk_n ho2.symm, lk_n hb1.symm, lk_self, mput_ne hb1, mput_ne ho2, mput_self ha, lN3, lO3]
  refine ⟨trivial, by decide, fun f hf => ?_⟩
  obtain ⟨hf1, hf'⟩ := not_dom hf
  obtain ⟨hf2, hf''⟩ := not_dom hf'
  obtain ⟨hf3, hf4⟩ := not_dom hf''
  simp only [lk_n hf3.symm, lk_n ho2.symm, lk_n hb1.symm, lk_self, mput_ne hb1, mput_ne ho2, mput_ne hf3, mput_self ha, lN4, lO4, lN5, lO5]
  refine ⟨trivial, by decide, trivial, by decide, ?_⟩
  refine hq ⟨a, b, o, f, none, [], [], [], 0⟩ _ rfl rfl ⟨⟨[(f, .lst []), (o, .lst []), (b, .lst []), (a, _)], rfl⟩, ?_, ?_, ?_⟩
  · intro q hq
    simp only [cells, cellA, List.map_nil, List.flatten_nil, List.mem_cons, List.not_mem_nil, or_false] at hq
    rcases hq with rfl | rfl | rfl | rfl
    · simp only [lk_n hf3.symm, lk_n ho2.symm, lk_n hb1.symm, lk_self]; rfl
    · simp only [lk_n hf2.symm, lk_n ho1.symm, lk_self]
    · simp only [lk_n hf1.symm, lk_self]
    · simp only [lk_self]
  · show [a, b, o, f].Nodup
    simp [hb1.symm, ho2.symm, hf3.symm, ho1.symm, hf2.symm, hf1.symm]
  · intro q hq
    simp only [cells, cellA, List.map_nil, List.flatten_nil, List.mem_cons, List.not_mem_nil, or_false] at hq
    rcases hq with rfl | rfl | rfl | rfl
    · exact ha
    · exact hb2
    · exact ho3
    · exact hf4
theorem FOk.up {k : Nat} {F : FA} (h : FOk k F) : FOk (k + 1) F := ⟨h.ne, Nat.le_succ_of_le h.zl, by have := h.ps; omega, fun z hz => Nat.le_succ_of_le (h.ls z hz), h.nm⟩
theorem LOk.up {k : Nat} {L : LA} (h : LOk k L) : LOk (k + 1) L := ⟨by have := h.bl; omega, by have := h.ol; omega, by have := h.fl; omega, h.m0, by have := h.mn; omega, h.bo, fun F hF => (h.fs F hF).up⟩
theorem snoc_of {α : Type} : ∀ {l : List α}, l ≠ [] → ∃ a x, l = a ++ [x]
  | [], h => (h rfl).elim
  | [x], _ => ⟨[], x, rfl⟩
  | x :: y :: r, _ => by
    obtain ⟨a, z, e⟩ := snoc_of (l := y :: r) (by simp)
    exact ⟨x :: a, z, by rw [e]; rfl⟩
theorem rd_Lines_put : ∀ ds M Q, S_Lines_put ds M Q → as_Lines_put (endsOf Q) (slots N_Lines_put.length ds) M := by
  rintro ds M Q ⟨L, k, M0, d, rfl, hk, ok, own, hq⟩
  show as_Lines_put (endsOf Q) [.dat (.ref L.a), .dat d, .non] _
  unfold as_Lines_put
  walk_at "gs"
  simp only [own.ca, fL4, own.cf]
  refine ⟨trivial, ?_⟩
  by_cases hf : L.fs = []
  · rw [if_neg (by simp [hf])]
    simp only [fL3, own.co]
    have ol := ok.ol
    refine ⟨trivial, rfl, by omega, ?_⟩
    refine hq { L with own := L.own ++ [d] } _ ?_ rfl ?_ ?_
    · unfold stO putG
      rw [if_pos (by simp [hf])]
    · have := ok.up
      exact ⟨this.bl, by rw [List.length_append]; simp only [List.length_cons, List.length_nil]; omega, this.fl, this.m0, this.mn, this.bo, this.fs⟩
    · exact Own.put (A := [cellA L, (L.b, .lst L.bo)]) (B := (L.f, .lst (L.fs.map fun F => .ref F.x)) :: (L.fs.map cellF).flatten) (a := L.o) (c0 := .lst L.own) (c := .lst (L.own ++ [d])) own
  · obtain ⟨fs0, F, hfs⟩ := snoc_of hf
    have hF : F ∈ L.fs := by rw [hfs]; simp
    obtain ⟨zs0, z, hzs⟩ := snoc_of (ok.fs F hF).ne
    have hz : z ∈ F.zs := by rw [hzs]; simp
    rw [if_pos (by simp [hf])]
    have a1 : atI (L.fs.map fun F => D.ref F.x) (-1) = some (.ref F.x) := by rw [hfs, List.map_append]; exact atI_last _ _
    have a2 : atI (F.zs.map fun z => D.ref z.1) (-1) = some (.ref z.1) := by rw [hzs, List.map_append]; exact atI_last _ _
    have zl := (ok.fs F hF).ls z hz
    simp only [a1, own.cx hF, fO3, own.cy hF, a2, own.cz hF hz]
    refine ⟨trivial, trivial, rfl, by omega, ?_⟩
    refine hq { L with fs := fs0 ++ [{ F with zs := zs0 ++ [(z.1, z.2 ++ [d])] }] } _ ?_ rfl ?_ ?_
    · unfold stO putG
      simp only [hfs, List.map_append, List.map_cons, List.map_nil]
      rw [if_neg (by simp), onLast_snoc]
      unfold putFr frO
      simp only [hzs, List.map_append, List.map_cons, List.map_nil, onLast_snoc]
    · have up := ok.up
      have fo := up.fs F hF
      refine ⟨up.bl, up.ol, by have := up.fl; rw [hfs] at this; simpa using this, up.m0, up.mn, up.bo, fun G hG => ?_⟩
      rcases List.mem_append.mp hG with hG | hG
      · exact up.fs G (by rw [hfs]; exact List.mem_append_left _ hG)
      · rw [List.mem_singleton.mp hG]
        refine ⟨by simp, by have := fo.zl; rw [hzs] at this; simpa using this, fo.ps, fun y hy => ?_, fo.nm⟩
        rcases List.mem_append.mp hy with hy | hy
        · exact fo.ls y (by rw [hzs]; exact List.mem_append_left _ hy)
        · rw [List.mem_singleton.mp hy, List.length_append]
          simp only [List.length_cons, List.length_nil]
          omega
    · have e1 : cells L = (cellA L :: (L.b, .lst L.bo) :: (L.o, .lst L.own) :: (L.f, .lst (L.fs.map fun F => .ref F.x)) :: ((fs0.map cellF).flatten ++ (F.x, .ins "Opened" oF [.str F.w, .tup F.ps, .ref F.y]) :: (F.y, .lst (F.zs.map fun z => .ref z.1)) :: zs0.map fun z => (z.1, .lst z.2))) ++ (z.1, .lst z.2) :: [] := by
        simp [cells, hfs, cellF, hzs]
      rw [e1] at own
      have := own.put (c := .lst (z.2 ++ [d]))
      refine cast ?_ this
      congr 1
      simp [cells, cellA, hfs, cellF, hzs]
theorem lcMFiltA {α : Type} (enc : α → D) (pp : α → Bool) (f : α → D) {p : Addr} {es : List D} {g : AG} {tt : AT} {ae : AE} {vs : List Nat} {k : List D → Sl → Mem → Prop} {Γ : Sl} {M : Mem} (hp : M.lookup p = some (.lst es)) : ∀ (xs : List α) (acc : List D), acc.length + xs.length ≤ 16777216 →
    (∀ x ∈ xs, ∀ (P : D → Sl → Mem → Prop) (N : Sl → Mem → Prop), (pp x = true → P (f x) Γ M) → (pp x = false → N Γ M) → g (enc x) Γ fun Γ1 => tt Γ1 M fun b Γ2 M2 => if b = true then ae Γ2 M2 fun r Γ3 M3 => frz r Γ3 fun y Γ4 => P y (wipeS Γ4 vs) M3 else N (wipeS Γ2 vs) M2) →
    k (acc ++ (xs.filter pp).map f) Γ M → aLcML p es g tt ae vs k (xs.map enc) acc Γ M
  | [], acc, _, _, h => ⟨hp, by simpa using h⟩
  | x :: xs, acc, hl, hs, h => by
    rw [List.map_cons]
    refine ⟨hp, ?_⟩
    refine hs x List.mem_cons_self (fun y Γ' M' => acc.length < sizeLine ∧ aLcML p es g tt ae vs k (xs.map enc) (acc ++ [y]) Γ' M') (fun Γ' M' => aLcML p es g tt ae vs k (xs.map enc) acc Γ' M') (fun e => ⟨by rw [size_val]; simp at hl; omega, ?_⟩) (fun e => ?_)
    · refine lcMFiltA enc pp f hp xs (acc ++ [f x]) (by simp at hl ⊢; omega) (fun e he => hs e (List.mem_cons_of_mem _ he)) ?_
      rw [List.filter_cons, if_pos e] at h
      simpa using h
    · refine lcMFiltA enc pp f hp xs acc (by simp at hl ⊢; omega) (fun e he => hs e (List.mem_cons_of_mem _ he)) ?_
      rw [List.filter_cons, if_neg (by rw [e]; decide)] at h
      exact h
theorem stepB_cons (s : St) (n : Str) (own : List Str) : stepB s (n :: own) = if s.fr = [] ∧ s.own = [] ∧ s.bo.length ≠ 8 ∧ nameB n = true ∧ n ∉ s.bo.map nmOf ∧ areNs own = true ∧ unl own = true then some { s with fr := s.fr ++ [⟨"body", [.str n, .tup (own.map .str)], [[]]⟩] } else none := rfl
theorem filter_all {α : Type} (l : List α) : l.filter (fun _ => true) = l := by simp
theorem ans_yes {L L' : LA} {k : Nat} {M0 M' : Mem} {r : Option St} {Q : Ret → Mem → Prop} (h : Ans L k M0 r Q) (e : r = some (stO L')) (ea : L'.a = L.a) (ok : LOk (k + 1) L') (ow : Own (cells L') M0 M') : Q (.dat (.bl true)) M' := h.1 _ L' M' e rfl ea ok ow
theorem ans_no {L : LA} {C : Mem} {k : Nat} {M0 M' : Mem} {r : Option St} {Q : Ret → Mem → Prop} (h : Ans L k M0 r Q) (e : r = none) (ow : Own C M0 M') : Q (.dat (.bl false)) M' := by
  obtain ⟨N, rfl⟩ := ow.ex
  exact h.2 e N
theorem Own.wires {L : LA} {M0 M : Mem} (own : Own (cells L) M0 M) (wi : Option (List Str)) : Own (cells { L with wi := wi }) M0 (mput M L.a (.ins "Lines" lF [wiD wi, .ref L.b, .ref L.o, .ref L.f, .int L.many])) :=
  Own.put (A := []) (B := (L.b, .lst L.bo) :: (L.o, .lst L.own) :: (L.f, .lst (L.fs.map fun F : FA => D.ref F.x)) :: (L.fs.map cellF).flatten) (a := L.a) (c0 := .ins "Lines" lF [wiD L.wi, .ref L.b, .ref L.o, .ref L.f, .int L.many]) own
theorem Own.more {L : LA} {M0 M : Mem} (own : Own (cells L) M0 M) (m : Int) : Own (cells { L with many := m }) M0 (mput M L.a (.ins "Lines" lF [wiD L.wi, .ref L.b, .ref L.o, .ref L.f, .int m])) :=
  Own.put (A := []) (B := (L.b, .lst L.bo) :: (L.o, .lst L.own) :: (L.f, .lst (L.fs.map fun F : FA => D.ref F.x)) :: (L.fs.map cellF).flatten) (a := L.a) (c0 := .ins "Lines" lF [wiD L.wi, .ref L.b, .ref L.o, .ref L.f, .int L.many]) own
theorem Own.opened {L : LA} {M0 M : Mem} (own : Own (cells L) M0 M) {x y z : Addr} {w : Str} {ps : List D} (hx : x ∉ dom M) (hy : y ∉ dom M) (hz : z ∉ dom M) (xy : x ≠ y) (xz : x ≠ z) (yz : y ≠ z) :
    Own (cells { L with fs := L.fs ++ [⟨x, y, w, ps, [(z, [])]⟩] }) M0 ((y, .lst [.ref z]) :: (z, .lst []) :: (x, .ins "Opened" oF [.str w, .tup ps, .ref y]) :: mput M L.f (.lst ((L.fs.map fun F : FA => D.ref F.x) ++ [.ref x]))) := by
  have o1 := Own.put (A := [cellA L, (L.b, .lst L.bo), (L.o, .lst L.own)]) (B := (L.fs.map cellF).flatten) (a := L.f) (c0 := .lst (L.fs.map fun F : FA => D.ref F.x)) (c := .lst ((L.fs.map fun F : FA => D.ref F.x) ++ [.ref x])) own
  have dm : dom (mput M L.f (.lst ((L.fs.map fun F : FA => D.ref F.x) ++ [.ref x]))) = dom M := dom_mput _ _ _
  rw [← List.append_nil ([cellA L, (L.b, .lst L.bo), (L.o, .lst L.own)] ++ _)] at o1
  have o2 := Own.new (a := x) (c := .ins "Opened" oF [.str w, .tup ps, .ref y]) o1 (by rw [dm]; exact hx)
  rw [← List.append_nil (_ ++ (x, _) :: [])] at o2
  have nz : z ∉ dom ((x, .ins "Opened" oF [.str w, .tup ps, .ref y]) :: mput M L.f (.lst ((L.fs.map fun F : FA => D.ref F.x) ++ [.ref x]))) := by
    unfold dom at dm ⊢
    rw [List.map_cons, List.mem_cons, not_or, dm]
    exact ⟨xz.symm, hz⟩
  have o3 := Own.new (a := z) (c := .lst []) o2 nz
  have ny : y ∉ dom ((z, .lst []) :: (x, .ins "Opened" oF [.str w, .tup ps, .ref y]) :: mput M L.f (.lst ((L.fs.map fun F : FA => D.ref F.x) ++ [.ref x]))) := by
    unfold dom at dm ⊢
    rw [List.map_cons, List.mem_cons, not_or, List.map_cons, List.mem_cons, not_or, dm]
    exact ⟨yz, xy.symm, hy⟩
  have o4 := Own.new (a := y) (c := .lst [.ref z]) o3 ny
  refine cast ?_ o4
  congr 1
  simp [cells, cellA, cellF]
theorem LOk.opened {k : Nat} {L : LA} (ok : LOk k L) {x y z : Addr} {w : Str} {ps : List D} (k1 : 1 ≤ k) (pl : ps.length ≤ k + 2) (nm : w = "body" → ∃ n r, ps = .str n :: r) : LOk (k + 1) { L with fs := L.fs ++ [⟨x, y, w, ps, [(z, [])]⟩] } := by
  have up := ok.up
  refine ⟨up.bl, up.ol, by have := ok.fl; rw [List.length_append]; simp only [List.length_cons, List.length_nil]; omega, up.m0, up.mn, up.bo, fun F hF => ?_⟩
  rcases List.mem_append.mp hF with hF | hF
  · exact up.fs F hF
  · rw [List.mem_singleton.mp hF]
    exact ⟨by simp, by simp, by simp only; omega, fun q hq => by rw [List.mem_singleton.mp hq]; exact Nat.zero_le _, nm⟩
theorem areNs_eq (ws : List Str) : areN (.tup (ws.map .str)) 1 5 = areNs ws := rfl
theorem rd_Lines_takes_wires : ∀ ds M Q, S_Lines_takes_wires ds M Q → as_Lines_takes_wires (endsOf Q) (slots N_Lines_takes_wires.length ds) M := by
  rintro ds M Q ⟨L, k, M0, ws, rfl, hk, ok, own, wl, w8, hq⟩
  show as_Lines_takes_wires (endsOf Q) [.dat (.ref L.a), .dat (.tup (ws.map .str))] _
  unfold as_Lines_takes_wires
  walk_at "gs"
  simp only [own.ca, lP1, lQ1]
  refine ⟨trivial, by decide, _, _, _, rfl, sane_strs (by omega) w8, by omega, ?_⟩
  rw [areNs_eq]
  walk_at "gs"
  have own2 := own.wires (some ws)
  unfold stepW at hq
  by_cases e : areNs ws = true
  · rw [if_pos e]
    refine ⟨ws, .inl rfl, wl, ?_⟩
    walk_at "gs"
    by_cases u : unl ws = true
    · rw [u]
      rw [if_pos ⟨e, u⟩] at hq
      exact ans_yes (L' := { L with wi := some ws }) hq rfl rfl (by have := ok.up; exact ⟨this.bl, this.ol, this.fl, this.m0, this.mn, this.bo, this.fs⟩) own2
    · rw [if_neg (fun z => u z.2)] at hq
      rw [Bool.not_eq_true] at u
      rw [u]
      exact ans_no hq rfl own2
  · rw [if_neg e]
    rw [if_neg (fun z => e z.1)] at hq
    exact ans_no hq rfl own2
theorem rd_Lines_takes_body : ∀ ds M Q, S_Lines_takes_body ds M Q → as_Lines_takes_body (endsOf Q) (slots N_Lines_takes_body.length ds) M := by
  rintro ds M Q ⟨L, k, M0, ws, rfl, hk1, hk, ok, own, wl, w8, hq⟩
  show as_Lines_takes_body (endsOf Q) [.dat (.ref L.a), .dat (.lst (ws.map .str)), .non, .non, .non] _
  unfold as_Lines_takes_body
  walk_at "gs"
  simp only [own.ca, fL4, own.cf, fL3, own.co, fL2, own.cb]
  refine ⟨trivial, ?_⟩
  by_cases f : L.fs = []
  case neg =>
    rw [if_pos (by simpa using f)]
    cases ws with
    | nil => exact ans_no hq rfl own
    | cons n own' =>
      rw [stepB_cons] at hq
      rw [if_neg (fun z => f (by have := z.1; simpa [stO] using this))] at hq
      exact ans_no hq rfl own
  rw [if_neg (by simpa using f)]
  refine ⟨trivial, ?_⟩
  by_cases o : L.own = []
  case neg =>
    rw [if_pos (by simpa using o)]
    cases ws with
    | nil => exact ans_no hq rfl own
    | cons n own' =>
      rw [stepB_cons] at hq
      rw [if_neg (fun z => o z.2.1)] at hq
      exact ans_no hq rfl own
  rw [if_neg (by simpa using o)]
  refine ⟨trivial, ?_⟩
  by_cases b : L.bo.length = 8
  case pos =>
    rw [if_pos (by simp only [decide_eq_true_eq]; omega)]
    cases ws with
    | nil => exact ans_no hq rfl own
    | cons n own' =>
      rw [stepB_cons] at hq
      rw [if_neg (fun z => z.2.2.1 b)] at hq
      exact ans_no hq rfl own
  rw [if_neg (by simp only [decide_eq_true_eq]; omega)]
  cases ws with
  | nil => exact ans_no hq rfl own
  | cons n ns =>
  rw [if_neg (by simp)]
  rw [stepB_cons] at hq
  unfold as_Lines_takes_body_t2
  walk_at "gs"
  simp only [List.length_cons] at wl
  refine ⟨by simp only [List.length_map]; omega, ?_⟩
  rw [show (ns.map D.str).length + 1 + 1 - 2 = (ns.map D.str).length by omega, List.drop_length, List.take_length]
  simp only
  have ok2 := ok.up
  have sn : sane (.str n) = true := by simp only [sane, decide_eq_true_eq]; exact w8 n (by simp)
  have s8 : ∀ w ∈ ns, w.length ≤ 1000 := fun w hw => w8 w (by simp [hw])
  refine ⟨_, rfl, sn, ?_⟩
  rw [show isName (.str n) = nameB n from rfl]
  walk_at "gs"
  by_cases hn : nameB n = true
  case neg =>
    rw [if_neg (fun z => hn z.2.2.2.1)] at hq
    rw [if_pos (by simpa using hn)]
    exact ans_no hq rfl own
  rw [if_neg (by simpa using hn)]
  simp only [own.ca, fL2, own.cb]
  refine ⟨trivial, ?_⟩
  have names := lcMFiltA (p := L.b) (es := L.bo) (g := agN 4) (tt := aYes) (ae := as_Lines_takes_body_e1) (vs := [4]) (k := fun acc Γ2 M2 => aIn id (.dat (.str n)) (.tmp (.lst acc)) Γ2 M2 fun r Γ1 M1 => match r with
    | .dat (.bl b) => if b = true then aRet (aC (.bl false)) { nx := as_Lines_takes_body_t1 (endsOf Q), rt := (endsOf Q).rt, bk := (endsOf Q).bk, ct := (endsOf Q).ct } Γ1 M1 else aNext { nx := as_Lines_takes_body_t1 (endsOf Q), rt := (endsOf Q).rt, bk := (endsOf Q).bk, ct := (endsOf Q).ct } Γ1 M1
    | _ => False) (Γ := [.dat (.ref L.a), .dat (.lst (.str n :: ns.map .str)), .dat (.str n), .dat (.lst (ns.map .str)), .non]) id (fun _ => true) (fun b => .str (nmOf b)) own.cb L.bo [] (by have := ok.bl; simp only [List.length_nil]; omega) (fun b hb P N hP _ => by
      obtain ⟨x, r, rfl⟩ := ok.bo b hb
      unfold as_Lines_takes_body_e1
      walk_at "gs"
      exact hP rfl) ?_
  · rw [List.map_id] at names
    exact names
  rw [filter_all, List.nil_append, show (L.bo.map fun b => D.str (nmOf b)) = (L.bo.map nmOf).map D.str by rw [List.map_map]; rfl]
  walk_at "gs"
  refine ⟨rfl, by rw [List.all_map, List.all_eq_true]; intro _ _; rfl, ?_⟩
  rw [inD_strs]
  by_cases nn : n ∈ L.bo.map nmOf
  · rw [if_neg (fun z => z.2.2.2.2.1 nn)] at hq
    rw [if_pos (by simpa using nn)]
    exact ans_no hq rfl own
  rw [if_neg (by simpa using nn)]
  unfold as_Lines_takes_body_t1
  walk_at "gs"
  simp only [own.ca, fL4, own.cf]
  refine ⟨trivial, rfl, fun x hx => ⟨x, _, _, M, rfl, rfl, hx, fun y z hy hz xy xz yz => ?_⟩⟩
  have df : L.f ∈ dom M := lk_dom own.cf
  have fy : L.f ≠ y := fun e => hy (e ▸ df)
  have fz : L.f ≠ z := fun e => hz (e ▸ df)
  have fx : L.f ≠ x := fun e => hx (e ▸ df)
  walk_at "gs"
  simp only [lk_n fy, lk_n fz, lk_n fx, own.cf, mput_ne fy.symm, mput_ne fz.symm, mput_ne fx.symm]
  refine ⟨by rw [List.length_map]; have := ok.fl; omega, _, _, _, rfl, sane_strs (by omega) s8, by omega, ?_⟩
  have own2 := own.opened (w := "body") (ps := [.str n, .tup (ns.map .str)]) hx hy hz xy xz yz
  rw [areNs_eq]
  walk_at "gs"
  by_cases e : areNs ns = true
  · rw [if_pos e]
    refine ⟨ns, .inr rfl, by omega, ?_⟩
    walk_at "gs"
    by_cases u : unl ns = true
    · rw [u]
      rw [if_pos ⟨by simp [stO, f], o, b, hn, nn, e, u⟩] at hq
      refine ans_yes (L' := { L with fs := L.fs ++ [⟨x, y, "body", [.str n, .tup (ns.map .str)], [(z, [])]⟩] }) hq ?_ rfl (ok.opened hk1 (by simp only [List.length_cons, List.length_nil]; omega) fun _ => ⟨n, _, rfl⟩) own2
      simp [stO, frO]
    · rw [if_neg (fun z => u z.2.2.2.2.2.2)] at hq
      rw [Bool.not_eq_true] at u
      rw [u]
      exact ans_no hq rfl own2
  · rw [if_neg e]
    rw [if_neg (fun z => e z.2.2.2.2.2.1)] at hq
    exact ans_no hq rfl own2
theorem Own.popped {L : LA} {M0 M : Mem} (own : Own (cells L) M0 M) {fs0 : List FA} {F : FA} (hfs : L.fs = fs0 ++ [F]) : Own (cells { L with fs := fs0 }) M0 (mput M L.f (.lst (fs0.map fun F : FA => D.ref F.x))) := by
  have o1 := Own.put (A := [cellA L, (L.b, .lst L.bo), (L.o, .lst L.own)]) (B := (L.fs.map cellF).flatten) (a := L.f) (c0 := .lst (L.fs.map fun F : FA => D.ref F.x)) (c := .lst (fs0.map fun F : FA => D.ref F.x)) own
  refine o1.sub ?_
  rw [hfs]
  simp only [cells, List.map_append, List.flatten_append, List.cons_append, List.nil_append]
  exact .cons_cons _ (.cons_cons _ (.cons_cons _ (.cons_cons _ (List.sublist_append_left _ _))))
theorem Own.lot {L : LA} {M0 M : Mem} (own : Own (cells L) M0 M) {fs0 : List FA} {F : FA} (hfs : L.fs = fs0 ++ [F]) {p : Addr} (hp : p ∉ dom M) : Own (cells { L with fs := fs0 ++ [{ F with zs := F.zs ++ [(p, [])] }] }) M0 ((p, .lst []) :: mput M F.y (.lst ((F.zs.map fun z => D.ref z.1) ++ [.ref p]))) := by
  have e1 : cells L = (cellA L :: (L.b, .lst L.bo) :: (L.o, .lst L.own) :: (L.f, .lst (L.fs.map fun F : FA => D.ref F.x)) :: ((fs0.map cellF).flatten ++ [(F.x, .ins "Opened" oF [.str F.w, .tup F.ps, .ref F.y])])) ++ (F.y, .lst (F.zs.map fun z => D.ref z.1)) :: F.zs.map fun z => (z.1, .lst z.2) := by
    simp [cells, hfs, cellF]
  rw [e1] at own
  have o1 := own.put (c := .lst ((F.zs.map fun z => D.ref z.1) ++ [.ref p]))
  rw [← List.append_nil (_ ++ (F.y, _) :: _)] at o1
  have o2 := Own.new (a := p) (c := .lst []) o1 (by rw [dom_mput]; exact hp)
  refine cast ?_ o2
  congr 1
  simp [cells, cellA, cellF, hfs]
theorem Own.ne {A B : Mem} {a : Addr} {c : Cell} {M0 M : Mem} (h : Own (A ++ (a, c) :: B) M0 M) {q : Addr × Cell} (hq : q ∈ A ++ B) : q.1 ≠ a := by
  have nd := h.nd
  rw [List.map_append, List.map_cons, List.perm_middle.nodup_iff, List.nodup_cons, ← List.map_append] at nd
  exact fun e => nd.1 (List.mem_map.mpr ⟨q, hq, e⟩)
theorem Own.nf {L : LA} {M0 M : Mem} (own : Own (cells L) M0 M) {q : Addr × Cell} (hq : q ∈ [cellA L, (L.b, .lst L.bo), (L.o, .lst L.own)] ++ (L.fs.map cellF).flatten) : q.1 ≠ L.f :=
  Own.ne (A := [cellA L, (L.b, .lst L.bo), (L.o, .lst L.own)]) (B := (L.fs.map cellF).flatten) (a := L.f) (c := .lst (L.fs.map fun F : FA => D.ref F.x)) own hq
theorem mem_flat {fs : List FA} {F : FA} (hF : F ∈ fs) {q : Addr × Cell} (hq : q ∈ cellF F) : q ∈ (fs.map cellF).flatten := List.mem_flatten.mpr ⟨_, List.mem_map.mpr ⟨F, hF, rfl⟩, hq⟩
theorem stepT_snoc {s : St} {fr : List Fr} {F : Fr} (h : s.fr = fr ++ [F]) (w : Str) : stepT s w = if w = "with" then (if F.w = ("around" : Str) ∧ F.ls.length = 1 then some { s with fr := fr ++ [{ F with ls := F.ls ++ [[]] }] } else none)
    else if F.w = ("around" : Str) ∧ F.ls.length = 1 then none
    else if F.w = ("body" : Str) then some { s with fr := fr, bo := s.bo ++ [.tup (toldG F)] }
    else some (putG (.tup (.str F.w :: toldG F)) { s with fr := fr }) := by
  unfold stepT
  rw [h, getLast_snoc]
  simp only
  rw [onLast_snoc, List.dropLast_concat]
theorem rd_Lines_takes_turn : ∀ ds M Q, S_Lines_takes_turn ds M Q → as_Lines_takes_turn (endsOf Q) (slots N_Lines_takes_turn.length ds) M := by
  rintro ds M Q ⟨L, k, M0, w, rfl, hw, hk, ok, nf, own, hq⟩
  show as_Lines_takes_turn (endsOf Q) [.dat (.ref L.a), .dat (.str w), .non, .non, .non] _
  obtain ⟨fs0, F, hfs⟩ := snoc_of nf
  have hF : F ∈ L.fs := by rw [hfs]; simp
  have fo := ok.fs F hF
  have up := ok.up
  have a1 : atI (L.fs.map fun F : FA => D.ref F.x) (-1) = some (.ref F.x) := by rw [hfs, List.map_append]; exact atI_last _ _
  have xy : F.x ≠ F.y := fun e => by have := own.cx hF; rw [e, own.cy hF] at this; cases this
  have ax : L.a ≠ F.y := fun e => by have := own.ca; rw [e, own.cy hF] at this; cases this
  have fx : F.x ≠ L.f := fun e => by have := own.cx hF; rw [e, own.cf] at this; cases this
  have fa : L.a ≠ L.f := fun e => by have := own.ca; rw [e, own.cf] at this; cases this
  have hs : (stO L).fr = fs0.map frO ++ [frO F] := by unfold stO; simp only [hfs, List.map_append, List.map_cons, List.map_nil]
  rw [stepT_snoc hs] at hq
  have l2 : (frO F).ls.length = F.zs.length := by unfold frO; simp
  have zl := fo.zl
  unfold as_Lines_takes_turn
  rcases hw with rfl | rfl
  · walk_at "gs"
    simp only [own.ca, fL4, own.cf, a1]
    rw [if_neg (by decide)] at hq
    rw [if_neg (by decide)]
    simp only [own.cx hF]
    refine ⟨trivial, trivial, by decide, F.x, F.y, F.w, F.ps, F.zs.map (fun z => D.ref z.1), rfl, own.cx hF, own.cy hF, by rw [List.length_map]; omega, ?_⟩
    walk_at "gs"
    by_cases c : F.w = ("around" : Str) ∧ F.zs.length = 1
    · rw [if_pos (by rw [List.length_map]; simpa using c)]
      rw [if_pos ⟨c.1, by rw [l2]; exact c.2⟩] at hq
      simp only [own.cx hF, fO3, own.cy hF]
      refine ⟨trivial, rfl, fun p hp => ?_⟩
      have yp : F.y ≠ p := fun e => hp (e ▸ lk_dom (own.cy hF))
      simp only [lk_n yp, own.cy hF, mput_ne yp.symm]
      refine ⟨by rw [List.length_map]; omega, ?_⟩
      rw [if_neg (by decide)]
      exact ans_no hq rfl (own.lot hfs hp)
    · rw [if_neg (by rw [List.length_map]; simpa using c)]
      rw [if_neg (by rw [l2]; exact c)] at hq
      unfold as_Lines_takes_turn_t2
      walk_at "gs"
      have g1 : (L.fs.map fun F : FA => D.ref F.x)[(L.fs.map fun F : FA => D.ref F.x).length - 1]? = some (.ref F.x) := by rw [hfs]; simp
      have g2 : (L.fs.map fun F : FA => D.ref F.x).dropLast = fs0.map fun F : FA => D.ref F.x := by rw [hfs, List.map_append]; exact List.dropLast_concat
      have yf : F.y ≠ L.f := own.nf (q := (F.y, .lst (F.zs.map fun z => D.ref z.1))) (List.mem_append_right _ (mem_flat hF (by simp [cellF])))
      have zf : ∀ z ∈ F.zs, z.1 ≠ L.f := fun z hz => own.nf (q := (z.1, .lst z.2)) (List.mem_append_right _ (mem_flat hF (by unfold cellF; exact List.mem_cons_of_mem _ (List.mem_cons_of_mem _ (List.mem_map.mpr ⟨z, hz, rfl⟩)))))
      have bf : L.b ≠ L.f := own.nf (q := (L.b, .lst L.bo)) (by simp)
      have own1 := own.popped hfs
      simp only [own.ca, fL4, own.cf, g1, g2, lkP_ne fx, lkP_ne yf, own.cx hF, own.cy hF, fO2, fO3]
      refine ⟨trivial, trivial, trivial, ?_⟩
      refine lcMFiltA (fun z : Addr × List D => .ref z.1) (fun _ => true) (fun z => .tup z.2) (by rw [lkP_ne yf]; exact own.cy hF) F.zs [] (by simp only [List.length_nil]; omega) (fun z hz P N hP _ => ?_) ?_
      · unfold as_Lines_takes_turn_e1
        walk_at "gs"
        simp only [lkP_ne (zf z hz), own.cz hF hz]
        exact hP rfl
      rw [filter_all, List.nil_append]
      walk_at "gs"
      simp only [lkP_ne fx, own.cx hF, fO1, own1.ca, own1.cb, fL2]
      have pl := fo.ps
      refine ⟨by rw [List.length_map]; omega, trivial, ?_⟩
      have et : toldG (frO F) = F.ps ++ F.zs.map fun z => D.tup z.2 := by
        unfold toldG frO
        rw [List.map_map]
        rfl
      have ok1 : LOk k { L with fs := fs0 } := ⟨ok.bl, ok.ol, by have := ok.fl; rw [hfs, List.length_append] at this; simp only; omega, ok.m0, ok.mn, ok.bo, fun G hG => ok.fs G (by rw [hfs]; exact List.mem_append_left _ hG)⟩
      rw [et, show (frO F).w = F.w from rfl] at hq
      by_cases nb : F.w = ("body" : Str)
      · rw [if_pos (by simpa using nb)]
        rw [if_pos nb] at hq
        have bl := ok.bl
        refine ⟨trivial, rfl, by omega, ?_⟩
        unfold as_Lines_takes_turn_t1
        walk_at "gs"
        have own2 := Own.put (A := [cellA { L with fs := fs0 }]) (B := (L.o, .lst L.own) :: (L.f, .lst (fs0.map fun F : FA => D.ref F.x)) :: (fs0.map cellF).flatten) (a := L.b) (c0 := .lst L.bo) (c := .lst (L.bo ++ [.tup (F.ps ++ F.zs.map fun z => D.tup z.2)])) own1
        refine ans_yes (L' := { L with fs := fs0, bo := L.bo ++ [.tup (F.ps ++ F.zs.map fun z => D.tup z.2)] }) hq ?_ rfl ?_ own2
        · rfl
        · have u1 := ok1.up
          refine ⟨by rw [List.length_append]; simp only [List.length_cons, List.length_nil]; omega, u1.ol, u1.fl, u1.m0, u1.mn, fun b hb => ?_, u1.fs⟩
          rcases List.mem_append.mp hb with hb | hb
          · exact ok.bo b hb
          · obtain ⟨n, r, e⟩ := fo.nm nb
            rw [List.mem_singleton.mp hb, e]
            exact ⟨n, _, rfl⟩
      · rw [if_neg (by simpa using nb)]
        rw [if_neg nb] at hq
        walk_at "gs"
        refine ⟨by decide, by rw [List.length_append, List.length_map]; omega, { L with fs := fs0 }, k, M0, _, rfl, hk, ok1, own1, fun L' M' e ea ok' ow => ?_⟩
        unfold as_Lines_takes_turn_t1
        walk_at "gs"
        exact ans_yes (L' := L') hq (by rw [e]; rfl) ea ok' ow
  · walk_at "gs"
    simp only [own.ca, fL4, own.cf, a1]
    rw [if_pos rfl] at hq
    simp only [decide_true, if_true, own.cx hF, fO3, own.cy hF]
    refine ⟨trivial, trivial, rfl, fun p hp => ?_⟩
    have yp : F.y ≠ p := fun e => hp (e ▸ lk_dom (own.cy hF))
    have xp : F.x ≠ p := fun e => hp (e ▸ lk_dom (own.cx hF))
    simp only [lk_n yp, lk_n xp, own.cy hF, own.cx hF, mput_ne yp.symm, lkP_ne xy, lkP_same (own.cy hF), fO1, fO3]
    refine ⟨by rw [List.length_map]; omega, trivial, ?_⟩
    have own1 := own.lot hfs hp
    by_cases c : F.w = ("around" : Str)
    · rw [if_pos (by simpa using c)]
      refine ⟨trivial, ?_⟩
      by_cases e : F.zs.length = 1
      · rw [if_pos ⟨c, by rw [l2]; exact e⟩] at hq
        rw [show decide ((((F.zs.map fun z => D.ref z.1) ++ [D.ref p]).length : Int) = 2) = true by rw [decide_eq_true_eq, List.length_append, List.length_map]; simp only [List.length_cons, List.length_nil]; omega]
        refine ans_yes (L' := { L with fs := fs0 ++ [{ F with zs := F.zs ++ [(p, [])] }] }) hq ?_ rfl ?_ own1
        · unfold stO frO
          simp
        · refine ⟨up.bl, up.ol, by have := up.fl; rw [hfs] at this; simpa using this, up.m0, up.mn, up.bo, fun G hG => ?_⟩
          rcases List.mem_append.mp hG with hG | hG
          · exact up.fs G (by rw [hfs]; exact List.mem_append_left _ hG)
          · rw [List.mem_singleton.mp hG]
            have fu := fo.up
            refine ⟨by simp, by rw [List.length_append]; simp only [List.length_cons, List.length_nil]; omega, fu.ps, fun y hy => ?_, fu.nm⟩
            rcases List.mem_append.mp hy with hy | hy
            · exact fu.ls y hy
            · rw [List.mem_singleton.mp hy]
              exact Nat.zero_le _
      · rw [if_neg (fun z => e (by rw [← l2]; exact z.2))] at hq
        rw [show decide ((((F.zs.map fun z => D.ref z.1) ++ [D.ref p]).length : Int) = 2) = false by rw [decide_eq_false_iff_not, List.length_append, List.length_map]; simp only [List.length_cons, List.length_nil]; omega]
        exact ans_no hq rfl own1
    · rw [if_neg (by simpa using c)]
      rw [if_neg (fun z => c z.1)] at hq
      exact ans_no hq rfl own1
theorem spl_ne (S : List Nat) : ∀ (x : List Nat) (k : Nat) (acc : List Nat), TL.spl S k acc x ≠ []
  | [], k, acc => by rw [TL.spl_nil]; simp
  | c :: r, 0, acc => by
    unfold TL.spl
    split
    · simp
    · exact spl_ne S r 0 _
  | c :: r, k + 1, acc => by
    unfold TL.spl
    exact spl_ne S r k acc
theorem split_ne (x : Str) : Txt.split x " " ≠ [] := fun e => by
  have := TL.split_spl x " " (by decide +kernel) (TL.kind_ok (by decide +kernel))
  rw [e] at this
  exact spl_ne _ _ _ _ this.symm
theorem head_cases (w : Str) (os : List Str) : headPs (w :: os) = .non ∨ ∃ ps s, headPs (w :: os) = .tup ps ∧ lookD FORMS w = some s ∧ ps.length ≤ 2 := by
  cases hl : lookD FORMS w with
  | none => simp only [headPs, hl]; exact .inl trivial
  | some s =>
    simp only [headPs, hl]
    split
    · cases os with
      | nil => exact .inl rfl
      | cons a r =>
        simp only
        split
        · exact .inr ⟨_, s, rfl, rfl, by simp⟩
        · exact .inl rfl
    · split
      · split
        · exact .inl rfl
        · refine .inr ⟨_, s, rfl, rfl, ?_⟩
          rw [List.length_zipWith]
          have h1 := (forms_rep _ (forms_mem hl)).2
          have h2 := List.length_filter_le (fun c => !decide (c = ("d" : Str))) (chs s)
          rw [chs_len] at h2
          simp only at h1
          omega
      · exact .inl rfl
theorem has_d {w s : Str} (h : lookD FORMS w = some s) : decide ((100 : Nat) ∈ s.cps.toList) = hasD w := by
  unfold hasD
  rw [h]
theorem deep_filt (l : List FA) : ((l.map frO).filter fun F => !decide (F.w = ("body" : Str))).length = (l.filter fun F => !decide (F.w = ("body" : Str))).length := by
  rw [List.filter_map, List.length_map]
  rfl
theorem stepD_tup {s : St} {w : Str} {os : List Str} {ps : List D} (h : headPs (w :: os) = .tup ps) : stepD s (w :: os) = if deepG s ≤ 6 ∧ s.many + 1 ≤ 60 then (if hasD w = true then some { s with fr := s.fr ++ [⟨w, ps, [[]]⟩], many := s.many + 1 } else some (putG (.tup (.str w :: ps)) { s with many := s.many + 1 })) else none := by
  unfold stepD
  rw [h]
theorem stepD_non {s : St} {w : Str} {os : List Str} (h : headPs (w :: os) = .non) : stepD s (w :: os) = none := by
  unfold stepD
  rw [h]
theorem rd_Lines_takes_deed : ∀ ds M Q, S_Lines_takes_deed ds M Q → as_Lines_takes_deed (endsOf Q) (slots N_Lines_takes_deed.length ds) M := by
  rintro ds M Q ⟨L, k, M0, ws, rfl, hk1, hk, ok, own, ne, wl, w8, hq⟩
  show as_Lines_takes_deed (endsOf Q) [.dat (.ref L.a), .dat (.lst (ws.map .str)), .non, .non, .non] _
  unfold as_Lines_takes_deed
  walk_at "gs"
  refine ⟨ws, rfl, ne, by omega, w8, ?_⟩
  walk_at "gs"
  simp only [own.ca, fL4, own.cf]
  refine ⟨trivial, ?_⟩
  refine lcMFiltA (fun F : FA => .ref F.x) (fun F => !decide (F.w = ("body" : Str))) (fun F => .ref F.x) own.cf L.fs [] (by have := ok.fl; simp only [List.length_nil]; omega) (fun F hF P N hP hN => ?_) ?_
  · unfold as_Lines_takes_deed_e1 as_Lines_takes_deed_c1
    walk_at "gs"
    simp only [own.cx hF, fO1]
    refine ⟨trivial, ?_⟩
    by_cases e : F.w = ("body" : Str)
    · rw [if_neg (by simpa using e)]
      exact hN (by simpa using e)
    · rw [if_pos (by simpa using e)]
      exact hP (by simpa using e)
  rw [List.nil_append]
  walk_at "gs"
  have own1 := own.more (L.many + 1)
  have mn := ok.mn
  have fl := ok.fl
  have c1 : List.lookup L.a (mput M L.a (.ins "Lines" lF [wiD L.wi, .ref L.b, .ref L.o, .ref L.f, .int (L.many + 1)])) = some (.ins "Lines" lF [wiD L.wi, .ref L.b, .ref L.o, .ref L.f, .int (L.many + 1)]) := own1.ca
  simp only [own.ca, fL5, lP5, lQ5, c1]
  refine ⟨trivial, trivial, by decide, ?_⟩
  have dg : deepG (stO L) = (L.fs.filter fun F => !decide (F.w = ("body" : Str))).length + 1 := by
    unfold deepG stO
    rw [deep_filt]
  cases ws with
  | nil => exact (ne rfl).elim
  | cons w os =>
  rcases head_cases w os with hp | ⟨ps, s, hp, hl, pl⟩
  · rw [hp]
    rw [stepD_non hp] at hq
    rw [if_pos (show Gw.isNon .non = true from rfl)]
    exact ans_no hq rfl own1
  rw [hp]
  rw [stepD_tup hp, dg] at hq
  rw [if_neg (show ¬ Gw.isNon (.tup ps) = true from fun z => (nomatch (show false = true from z))), List.length_map]
  by_cases h1 : (L.fs.filter fun F => !decide (F.w = ("body" : Str))).length + 1 ≤ 6
  case neg =>
    rw [if_pos (by simp only [decide_eq_true_eq]; omega)]
    rw [if_neg (fun z => h1 z.1)] at hq
    exact ans_no hq rfl own1
  rw [if_neg (by simp only [decide_eq_true_eq]; omega)]
  refine ⟨trivial, ?_⟩
  by_cases h2 : L.many + 1 ≤ 60
  case neg =>
    rw [if_pos (by simp only [decide_eq_true_eq]; omega)]
    rw [if_neg (fun z => h2 z.2)] at hq
    exact ans_no hq rfl own1
  rw [if_neg (by simp only [decide_eq_true_eq]; omega)]
  rw [if_pos ⟨h1, h2⟩] at hq
  have ok1 : LOk k { L with many := L.many + 1 } := ⟨ok.bl, ok.ol, ok.fl, by have := ok.m0; simp only; omega, h2, ok.bo, ok.fs⟩
  have cf1 := own1.cf
  unfold as_Lines_takes_deed_t2
  rw [gdp]
  walk_at "gs"
  simp only [hl]
  refine ⟨100, rfl, ?_⟩
  rw [has_d hl]
  have nb : w ≠ ("body" : Str) := (forms_no _ (forms_mem hl)).1
  by_cases hd : hasD w = true
  · rw [if_pos hd] at hq ⊢
    simp only [c1, fL4, cf1]
    refine ⟨trivial, rfl, fun x hx => ⟨x, _, _, _, rfl, rfl, hx, fun y z hy hz xy xz yz => ?_⟩⟩
    have df : L.f ∈ dom (mput M L.a (.ins "Lines" lF [wiD L.wi, .ref L.b, .ref L.o, .ref L.f, .int (L.many + 1)])) := lk_dom cf1
    have fy : L.f ≠ y := fun e => hy (e ▸ df)
    have fz : L.f ≠ z := fun e => hz (e ▸ df)
    have fx : L.f ≠ x := fun e => hx (e ▸ df)
    have own2 := own1.opened (w := w) (ps := ps) hx hy hz xy xz yz
    walk_at "gs"
    simp only [lk_n fy, lk_n fz, lk_n fx, cf1, mput_ne fy.symm, mput_ne fz.symm, mput_ne fx.symm]
    refine ⟨by rw [List.length_map]; omega, ?_⟩
    unfold as_Lines_takes_deed_t1
    walk_at "gs"
    refine ans_yes (L' := { L with many := L.many + 1, fs := L.fs ++ [⟨x, y, w, ps, [(z, [])]⟩] }) hq ?_ rfl (ok1.opened hk1 (by omega) fun e => (nb e).elim) own2
    simp [stO, frO]
  · rw [if_neg hd] at hq ⊢
    simp only [c1]
    refine ⟨trivial, by decide, by omega, { L with many := L.many + 1 }, k, M0, _, rfl, hk, ok1, own1, fun L' M' e ea ok' ow => ?_⟩
    unfold as_Lines_takes_deed_t1
    walk_at "gs"
    exact ans_yes (L' := L') hq (by rw [e]; rfl) ea ok' ow
theorem rd_Lines_takes_line : ∀ ds M Q, S_Lines_takes_line ds M Q → as_Lines_takes_line (endsOf Q) (slots N_Lines_takes_line.length ds) M := by
  rintro ds M Q ⟨L, k, M0, line, rfl, hk1, hk, ok, own, ⟨l1, l2, l3⟩, hq⟩
  show as_Lines_takes_line (endsOf Q) [.dat (.ref L.a), .dat (.str line), .non, .non] _
  have hne := split_ne line
  unfold stepL at hq
  unfold as_Lines_takes_line
  walk_at "gs"
  refine ⟨rfl, by omega, ?_⟩
  revert l2 l3 hq hne
  generalize Txt.split line " " = ws
  intro hq l2 l3 hne
  cases ws with
  | nil => exact (hne rfl).elim
  | cons w os =>
  simp only [List.length_cons] at l2
  have l3' := l3
  have l3 : ∀ x ∈ os, x.length ≤ 1000 := fun x hx => l3 x (List.mem_cons_of_mem _ hx)
  have pass : ∀ {r : Option St} {Γ : Sl}, Ans L k M0 r Q → Ans L k M0 r (fun r M => (endsOf Q).rt r Γ M) := fun h => ⟨fun s L' M' a b c d => h.1 s L' M' a b c d, fun e N => h.2 e N⟩
  refine ⟨by simp, by simp only [List.length_map, List.length_cons]; omega, ?_⟩
  rw [show List.take 1 ((w :: os).map D.str) ++ [D.lst (List.take (((w :: os).map D.str).length + 1 - 2) (List.drop 1 ((w :: os).map D.str)))] ++ List.drop (((w :: os).map D.str).length + 1 - 2) (List.drop 1 ((w :: os).map D.str)) = [D.str w, D.lst (os.map .str)] by
    rw [List.map_cons, List.length_cons, show (os.map D.str).length + 1 + 1 - 2 = (os.map D.str).length by omega]
    simp only [List.drop_succ_cons, List.drop_zero, List.take_length, List.drop_length, List.take_succ_cons, List.take_zero, List.append_nil]
    rfl]
  simp only [own.ca, fL1]
  refine ⟨trivial, ?_⟩
  have ew : (stO L).wi = L.wi := rfl
  rw [ew] at hq
  cases hwi : L.wi with
  | none =>
    rw [hwi] at hq
    simp only at hq
    rw [if_pos (show Gw.isNon (wiD none) = true from rfl)]
    by_cases e : w = ("wires" : Str)
    · rw [if_pos e] at hq
      rw [if_pos (by simpa using e)]
      exact ⟨trivial, by decide, L, k, M0, os, rfl, hk, ok, own, by omega, l3, pass hq⟩
    · rw [if_neg e] at hq
      rw [if_neg (by simpa using e)]
      exact ans_no hq rfl own
  | some wi =>
    rw [hwi] at hq
    simp only at hq
    rw [if_neg (show ¬ Gw.isNon (wiD (some wi)) = true from fun z => (nomatch (show false = true from z)))]
    unfold as_Lines_takes_line_t3
    walk_at "gs"
    by_cases e : w = ("body" : Str)
    · rw [if_pos e] at hq
      rw [if_pos (by simpa using e)]
      simp only [own.ca]
      exact ⟨trivial, by decide, L, k, M0, os, rfl, hk1, hk, ok, own, by omega, l3, pass hq⟩
    rw [if_neg e] at hq
    rw [if_neg (by simpa using e)]
    unfold as_Lines_takes_line_t2
    walk_at "gs"
    simp only [own.ca, fL4, own.cf]
    have turn : (w = ("end" : Str) ∨ w = ("with" : Str)) → (if ((os.map D.str).length == 0) = true then
        (("Lines" : Str) = "Lines" ∧ if (!(L.fs.map fun F : FA => D.ref F.x).length == 0) = true then ("Lines" : Str) = "Lines" ∧ ("takes_turn" : Str) ∉ lF ∧ ap S_Lines_takes_turn [.ref L.a, .str w] M (fun r M3 => (endsOf Q).rt r [.dat (.ref L.a), .dat (.str line), .dat (.str w), .dat (.lst (os.map .str))] M3) ⟨⟩ else Q (.dat (.bl false)) M)
        else Q (.dat (.bl false)) M) := fun hw => by
      rw [if_pos hw] at hq
      by_cases eo : os = []
      · rw [if_pos eo] at hq
        rw [if_pos (by simp [eo])]
        refine ⟨rfl, ?_⟩
        by_cases ef : L.fs = []
        · rw [if_neg (by simp [ef])]
          refine ans_no hq ?_ own
          unfold stepT
          rw [show (stO L).fr = [] by unfold stO; simp [ef]]
          rfl
        · rw [if_pos (by simp [ef])]
          exact ⟨rfl, by decide, L, k, M0, w, rfl, hw, hk, ok, ef, own, pass hq⟩
      · rw [if_neg eo] at hq
        rw [if_neg (by simpa using eo)]
        exact ans_no hq rfl own
    by_cases e1 : w = ("end" : Str)
    · have := turn (.inl e1)
      simp only [true_and] at this
      rw [if_pos (by simpa using e1)]
      simp only [true_and]
      exact this
    rw [if_neg (by simpa using e1)]
    by_cases e2 : w = ("with" : Str)
    · have := turn (.inr e2)
      simp only [true_and] at this
      rw [if_pos (by simpa using e2)]
      simp only [true_and]
      exact this
    rw [if_neg (by simpa using e2)]
    rw [if_neg (fun z => z.elim e1 e2)] at hq
    unfold as_Lines_takes_line_t1
    walk_at "gs"
    simp only [own.ca]
    exact ⟨trivial, by decide, by rw [List.length_map]; omega, L, k, M0, w :: os, rfl, hk1, hk, ok, own, List.cons_ne_nil _ _, by simp only [List.length_cons]; omega, l3', pass hq⟩
def numS : Nat → List Str → List (Nat × Str)
  | _, [] => []
  | k, d :: ds => (k, d) :: numS (k + 1) ds
def numSE (q : Nat × Str) : D := .tup [.int q.1, .str q.2]
theorem enumD_str : ∀ (k : Nat) (ds : List Str), enumD k (ds.map D.str) = (numS k ds).map numSE
  | _, [] => rfl
  | k, d :: ds => by rw [List.map_cons, enumD, numS, List.map_cons, enumD_str (k + 1) ds]; rfl
theorem numS_snd : ∀ (k : Nat) (ds : List Str), (numS k ds).map (·.2) = ds
  | _, [] => rfl
  | k, d :: ds => by rw [numS, List.map_cons, numS_snd]
theorem numS_fst : ∀ (k : Nat) (ds : List Str), ∀ q ∈ numS k ds, q.1 < k + ds.length
  | k, d :: ds, q, h => by
    rcases List.mem_cons.mp h with rfl | h
    · simp
    · have := numS_fst (k + 1) ds q h
      simp only [List.length_cons]
      omega
theorem rd_read : ∀ ds M Q Z, S_read ds M Q Z → as_read (fun x _ M => wkX Z x M) (endsOf (wk Q)) (slots N_read.length ds) M := by
  rintro ds M Q Z ⟨text, d, rfl, tl, rl, rok, hd, hq⟩
  show as_read _ (endsOf (wk Q)) [.dat (.str text), .non, .non, .non, .non] _
  unfold readG at hd
  unfold as_read
  walk_at "gs"
  intro a ha
  refine ⟨a, M, rfl, rfl, ha, fun L M' e ea ow => ?_⟩
  walk_at "gs"
  refine ⟨rfl, by omega, ?_⟩
  rw [enumD_str]
  revert rl rok hd
  generalize Txt.split text "\n" = rows
  intro rl rok hd
  have ok0 : LOk 1 L := by
    have e1 : L.bo = [] := congrArg St.bo e
    have e2 : L.own = [] := congrArg St.own e
    have e3 : L.fs.map frO = [] := congrArg St.fr e
    have e4 : L.many = 0 := congrArg St.many e
    have e5 : L.fs = [] := by simpa using e3
    exact ⟨by rw [e1]; simp, by rw [e2]; simp, by rw [e5]; simp, by omega, by omega, (by rw [e1]; intro _ h; cases h), (by rw [e5]; intro _ h; cases h)⟩
  cases hs : runL st0 rows with
  | none => rw [hs] at hd; cases hd
  | some sF =>
  rw [hs] at hd
  simp only at hd
  by_cases hf : sF.fr = []
  case neg => rw [if_neg hf] at hd; cases hd
  rw [if_pos hf] at hd
  obtain rfl := Option.some.inj hd
  refine forA numSE (fun dn left Γ M1 => dn ++ left = numS 0 rows ∧ ∃ (L : LA) (s3 s4 : Slot), L.a = a ∧ LOk (1 + dn.length) L ∧ Own (cells L) M M1 ∧ runL (stO L) (left.map (·.2)) = some sF ∧ Γ = [.dat (.str text), .dat (.ref a), .dat (.lst (rows.map .str)), s3, s4]) ?_ ?_ _ [] ⟨rfl, L, _, _, ea, ok0, ow, by rw [numS_snd, e]; exact hs, rfl⟩
  · rintro dn Γ M1 ⟨e1, L, s3, s4, e2, ok, ow, hr, rfl⟩
    obtain rfl : stO L = sF := Option.some.inj hr
    have ef : L.fs = [] := by unfold stO at hf; simpa using hf
    walk_at "gs"
    have ca := ow.ca
    rw [e2] at ca
    simp only [ca, fL4, ow.cf]
    refine ⟨trivial, ?_⟩
    rw [if_neg (by simp [ef])]
    walk_at "gs"
    simp only [ca, fL1, fL2, fL3, ow.cb, ow.co]
    obtain ⟨N, rfl⟩ := ow.ex
    exact wk_of N hq
  · rintro dn q left Γ M1 K ⟨e1, L, s3, s4, e2, ok, ow, hr, rfl⟩ hK
    have hm : q ∈ numS 0 rows := by rw [← e1]; simp
    have hq2 := numS_fst 0 rows q hm
    have hin : q.2 ∈ rows := by rw [← numS_snd 0 rows]; exact List.mem_map.mpr ⟨q, hm, rfl⟩
    have dl : dn.length < rows.length := by
      have a1 := congrArg List.length e1
      have a2 := congrArg List.length (numS_snd 0 rows)
      rw [List.length_map] at a2
      rw [List.length_append, List.length_cons] at a1
      omega
    have ca := ow.ca
    rw [e2] at ca
    rw [List.map_cons, runL] at hr
    unfold numSE
    walk_at "gs"
    simp only [ca]
    refine ⟨trivial, by decide, L, 1 + dn.length, M, q.2, by rw [e2], by omega, by omega, ok, ow, rok _ hin, ⟨fun s L' M' hs' el ea' ok' ow' => ?_, fun hn => ?_⟩⟩
    · walk_at "gs"
      refine hK _ _ ⟨by rw [List.append_assoc]; exact e1, L', _, _, by rw [ea', e2], by rw [List.length_append]; simp only [List.length_cons, List.length_nil]; exact ok', ow', ?_, rfl⟩
      rw [hs'] at hr
      rw [el]
      exact hr
    · rw [hn] at hr
      cases hr
theorem DsP.split {P : D → Nat → Prop} : ∀ {a b : List D} {c : Nat}, DsP P (a ++ b) c → ∃ c1 c2, DsP P a c1 ∧ DsP P b c2 ∧ c = c1 + c2
  | [], b, c, h => ⟨0, c, .nil, h, by omega⟩
  | d :: a, b, c, h => by
    obtain ⟨k, e, h1, h2, rfl⟩ := DsP.cons h
    obtain ⟨c1, c2, i1, i2, rfl⟩ := DsP.split (a := a) h2
    exact ⟨k + c1, c2, DsP.append (.one h1) i1, i2, by omega⟩
theorem numD_pre : ∀ {k : Nat} {es : List D} {dn left : List (Nat × D)}, dn ++ left = numD k es → dn = numD k (dn.map (·.2)) ∧ (dn ++ left).map (·.2) = es
  | k, [], [], left, e => ⟨rfl, by rw [e]; rfl⟩
  | k, [], _ :: _, left, e => by cases e
  | k, d :: es, [], left, e => by
    refine ⟨rfl, ?_⟩
    rw [e]
    clear e
    generalize d :: es = l
    induction l generalizing k with
    | nil => rfl
    | cons x l ih => rw [numD, List.map_cons, ih]
  | k, d :: es, q :: dn, left, e => by
    rw [numD, List.cons_append, List.cons.injEq] at e
    obtain ⟨rfl, e⟩ := e
    obtain ⟨i1, i2⟩ := numD_pre e
    refine ⟨?_, ?_⟩
    · rw [List.map_cons, numD, ← i1]
    · rw [List.cons_append, List.map_cons, i2]
theorem fm_lk {r : Addr} {rs : List Row} {M : Mem} : List.lookup r (FM r rs M) = some (.lst (rs.map rwD)) := lk_self
theorem fm_put {r : Addr} {rs : List Row} {M : Mem} (h : r ∉ dom M) (xs : List D) : mput (FM r rs M) r (.lst xs) = (r, .lst xs) :: M := mput_self h
theorem sum_castL : ∀ xs : List (List D), (xs.map fun l => (l.length : Int)).sum = ((xs.map (·.length)).sum : Nat)
  | [] => rfl
  | x :: xs => by
    rw [List.map_cons, List.sum_cons, sum_castL xs, List.map_cons, List.sum_cons]
    omega
theorem app_row (rows : List Row) (x : Str) (p : List Int) : rows.map rwD ++ [D.tup [.str x, .tup (p.map .int)]] = (rows ++ [((x, some p) : Row)]).map rwD := by rw [List.map_append]; rfl
theorem end_rep (ls : List (List D)) : (List.replicate (if (!(ls.map D.tup).length == 0) = true then (1 : Int) else 0).toNat [D.tup [D.str "end", D.non]]).flatten = (endR ls).map rwD := by
  cases ls <;> rfl
theorem ll_b2 {n v c j : Nat} {A : AEnds} {M0 : Mem} {r : Addr} {es : List D} {lots : List (List D)} {pl : List Int} {rs : List Row} {s0 s1 s2 s4 s5 s7 s9 s10 s13 : Slot} (hr : r ∉ dom M0) (hj : j < 2) (hl : lots.length ≤ 2) (l4 : ∀ l ∈ lots, l.length ≤ 60) (hd : DsG v es c) (hc : c ≤ 60) (hp : pl.length + v ≤ 99) (hn : v + 1 ≤ n) (rl : rs.length + 1 + 3 * c ≤ 10000)
    (q : ∀ s13, A.nx [s0, s1, s2, .dat (.ref r), s4, s5, .dat (.tup (pl.map .int)), s7, .dat (.lst (lots.map .tup)), s9, s10, .dat (.int j), .dat (.tup es), s13] (FM r (rs ++ (withR j ++ rowsLs (rowsF v) pl (((lots.take j).map (·.length)).sum : Nat) es)) M0)) :
    as__law_lines_b2 n A [s0, s1, s2, .dat (.ref r), s4, s5, .dat (.tup (pl.map .int)), s7, .dat (.lst (lots.map .tup)), s9, s10, .dat (.int j), .dat (.tup es), s13] (FM r rs M0) := by
  have lj : (if decide ((j : Int) = 1) = true then (1 : Int) else 0).toNat = j := by
    have : j = 0 ∨ j = 1 := by omega
    rcases this with rfl | rfl <;> rfl
  have wj : (List.replicate j [D.tup [D.str "with", D.non]]).flatten = (withR j).map rwD := by
    have : j = 0 ∨ j = 1 := by omega
    rcases this with rfl | rfl <;> rfl
  have wl := withR_len j
  have bl : (((lots.take j).map (·.length)).sum : Nat) ≤ 60 * lots.length := by
    have h1 := sum_le (f := fun l : List D => l.length) (k := 60) (xs := lots.take j) fun l hl => l4 l (List.mem_of_mem_take hl)
    have h2 : (lots.take j).length ≤ lots.length := by rw [List.length_take]; omega
    have h3 : 60 * (lots.take j).length ≤ 60 * lots.length := Nat.mul_le_mul_left _ h2
    omega
  unfold as__law_lines_b2
  walk_at "gs"
  simp only [fm_lk]
  refine ⟨rfl, ?_⟩
  rw [lj, wj, fm_put hr, cut_take (by omega), show (j : Int).toNat = j by omega, ← List.map_take]
  refine ⟨⟨by split <;> omega, by split <;> omega, by omega⟩, by rw [List.length_map, List.length_map]; omega, ?_⟩
  refine lcMapA (fun l : List D => D.tup l) (fun l => .int l.length) (lots.take j) [] (by simp only [List.length_nil, List.length_take]; omega) (fun l hl P hP => ?_) ?_
  · unfold as__law_lines_e1
    walk_at "gs"
    exact hP
  rw [List.nil_append]
  walk_at "gs"
  rw [show ((lots.take j).map fun l => D.int l.length) = ((lots.take j).map fun l => (l.length : Int)).map D.int by rw [List.map_map]; rfl, intsD_map]
  simp only
  rw [sum_castL]
  refine ⟨es, pl, _, r, rs ++ withR j, M0, v, c, rfl, by rw [FM, List.map_append], hr, hd, hc, by omega, by omega, hp, by rw [List.length_append]; omega, hn, ?_⟩
  rw [List.append_assoc]
  exact q _
theorem rd__law_lines (n : Nat) : ∀ ds M Q, R__law_lines (n + 1) ds M Q → as__law_lines n (endsOf Q) (slots N__law_lines.length ds) M := by
  rintro ds M Q ⟨es, pl, b, r, rs, M0, v, c, rfl, rfl, hr, hd, hc, b0, b1, hp, hrs, hn, hq⟩
  show as__law_lines n (endsOf Q) [.dat (.tup es), .dat (.tup (pl.map .int)), .dat (.int b), .dat (.ref r), .non, .non, .non, .non, .non, .non, .non, .non, .non, .non] _
  unfold as__law_lines
  walk_at "gs"
  rw [enumD_num]
  refine forA numE (fun dn left Γ M' => dn ++ left = numD 0 es ∧ M' = FM r (rs ++ rowsLs (rowsF v) pl b (dn.map (·.2))) M0 ∧ ∃ s4 s5 s6 s7 s8 s9 s10 s11 s12 s13, Γ = [.dat (.tup es), .dat (.tup (pl.map .int)), .dat (.int b), .dat (.ref r), s4, s5, s6, s7, s8, s9, s10, s11, s12, s13]) ?_ ?_ _ [] ⟨rfl, by rw [List.map_nil, rowsLs, List.append_nil], _, _, _, _, _, _, _, _, _, _, rfl⟩
  · rintro dn Γ M' ⟨e, rfl, s4, s5, s6, s7, s8, s9, s10, s11, s12, s13, rfl⟩
    have e2 := (numD_pre e).2
    rw [List.append_nil] at e2
    rw [e2]
    exact hq
  · rintro dn q left Γ M' K ⟨e, rfl, s4, s5, s6, s7, s8, s9, s10, s11, s12, s13, rfl⟩ hK
    obtain ⟨e1, e2⟩ := numD_pre e
    rw [List.map_append, List.map_cons] at e2
    rw [← e2] at hd
    obtain ⟨c1, c2, d1, d2, rfl⟩ := hd.split
    obtain ⟨k, c3, d3, d4, rfl⟩ := d2.cons
    have r1 := rowsLs_len' pl b d1
    have goal : ∀ s4 s5 s6 s7 s8 s9 s10 s11 s12 s13, K [.dat (.tup es), .dat (.tup (pl.map .int)), .dat (.int b), .dat (.ref r), s4, s5, s6, s7, s8, s9, s10, s11, s12, s13] (FM r (rs ++ rowsLs (rowsF v) pl b (dn.map (·.2)) ++ rowsF v q.2 (pl ++ [b + q.1])) M0) := fun s4 s5 s6 s7 s8 s9 s10 s11 s12 s13 => by
      refine hK _ _ ⟨by rw [List.append_assoc]; exact e, ?_, s4, s5, s6, s7, s8, s9, s10, s11, s12, s13, rfl⟩
      have h1 := numD_rows (rowsF v) pl b 0 (dn.map (·.2))
      have e3 : dn ++ [q] = numD 0 ((dn ++ [q]).map (·.2)) := (numD_pre (show (dn ++ [q]) ++ left = numD 0 es by rw [List.append_assoc]; exact e)).1
      have h2 := numD_rows (rowsF v) pl b 0 ((dn ++ [q]).map (·.2))
      rw [← e1, show b + ((0 : Nat) : Int) = b by omega] at h1
      rw [← e3, show b + ((0 : Nat) : Int) = b by omega, List.flatMap_append, h1, List.flatMap_cons, List.flatMap_nil, List.append_nil] at h2
      rw [← h2, List.append_assoc]
    clear hK
    have el : es.length ≤ c1 + (k + c3) := by
      have a1 := DsG.len d1
      have a2 := d3.pos
      have a3 := DsG.len d4
      rw [← e2, List.length_append, List.length_cons]
      omega
    have qb : q.1 < es.length := by
      have := (numD_mem (show q ∈ numD 0 es by rw [← e]; simp)).2
      omega
    generalize hrows : rs ++ rowsLs (rowsF v) pl b (dn.map (·.2)) = rows at goal ⊢
    have rowl : rows.length + 3 * k ≤ 10000 := by rw [← hrows, List.length_append]; omega
    obtain ⟨v, rfl⟩ : ∃ n, v = n + 1 := by cases v with
      | zero => exact d3.elim
      | succ n => exact ⟨n, rfl⟩
    obtain ⟨i, dd⟩ := q
    simp only at goal d3 ⊢
    obtain ⟨w, s, ps, zs, z⟩ := d3.dz
    obtain ⟨hl1, hl2⟩ := head_few d3
    obtain ⟨ls, f1, f2, f3, f4⟩ := z.lots
    have zz := z.zip
    have hok := z.ok
    have hzs := z.zs
    have hwd := z.wd
    have lk := z.l
    have two := z.two
    have tup := lots_tup hok
    have f1' := f1
    unfold lotsD at f1'
    rw [hzs] at f1'
    rw [f1'] at tup
    rw [rowsF, f1] at goal
    unfold headD at goal
    unfold headWs at goal hl1 hl2
    rw [hzs, hwd] at goal hl1 hl2
    have pl2 : ps.length ≤ 2 := by rw [z.ps, List.length_map]; exact two
    obtain rfl := z.e
    have hgs : getA (FORMS.map fun q => (.inr q.1 : Key)) (FORMS.map fun q => D.str q.2) (.inr w) = some (.str s) := by rw [forms_get, lk]; rfl
    unfold numE
    walk_at "gs"
    unfold as__law_lines_b3
    walk_at "gs"
    refine ⟨by rw [List.length_map]; omega, rfl, ?_⟩
    unfold formsD
    walk_at "gsx"
    rw [cut_drop (by omega), show (1 : Int).toNat = 1 from rfl, List.drop_succ_cons, List.drop_zero, zz]
    have mp : ((pl ++ [b + (i : Int)]).map D.int) = pl.map D.int ++ [D.int (b + i)] := by rw [List.map_append]; rfl
    rw [← mp]
    refine forA rowE (fun dn' ls' Γ M' => dn' ++ ls' = zs.map (fun r => (r.1, r.2.1)) ∧ M' = FM r rows M0 ∧ ∃ s9 s10, Γ = [.dat (.tup es), .dat (.tup (pl.map .int)), .dat (.int b), .dat (.ref r), .dat (.int i), .dat (.tup (.str w :: ps)), .dat (.tup ((pl ++ [b + (i : Int)]).map .int)),
      .own (.lst ((w :: (dn'.map wordsP).flatten).map .str)), .own (.lst ((dn'.filter fun q => decide (q.1 = ("d" : Str))).map fun q => q.2)), s9, s10, s11, s12, s13]) ?_ ?_ _ [] ⟨rfl, rfl, _, _, rfl⟩
    · rintro dn' Γ M' ⟨e3, rfl, s9, s10, rfl⟩
      rw [List.append_nil] at e3
      subst e3
      rw [tup]
      unfold as__law_lines_t2
      walk_at "gs"
      simp only [fm_lk]
      rw [show (D.str w :: ((zs.map fun r => (r.1, r.2.1)).map wordsP).flatten.map D.str) = (w :: ((zs.map fun r => (r.1, r.2.1)).map wordsP).flatten).map D.str from rfl, strsD_map]
      simp only
      have sm := sum_le (f := fun x : Str => x.length) (k := 8) hl2
      refine ⟨rfl, by rw [show (" " : Str).length = 1 from rfl]; omega, by rw [List.length_map]; omega, ?_⟩
      rw [fm_put hr, app_row]
      revert goal
      generalize Txt.join " " (w :: ((zs.map fun r => (r.1, r.2.1)).map wordsP).flatten) = hh
      intro goal
      have hd1 : ∀ l ∈ ls, DsG v l.1 l.2 := fun l hl => (f2 l hl).2
      have ll : ∀ l ∈ ls, l.1.length ≤ 4 := fun l hl => (f2 l hl).1
      have fin : ∀ (acc : List Row) s9 s10 s11 s12 s13, acc = rows ++ (hh, some (pl ++ [b + (i : Int)])) :: lotsR (rowsF v) (pl ++ [b + (i : Int)]) 0 0 (ls.map (·.1)) → acc.length ≤ 10200 → as__law_lines_t1 n { nx := K, rt := (endsOf Q).rt, bk := (endsOf Q).nx, ct := K }
          [.dat (.tup es), .dat (.tup (pl.map .int)), .dat (.int b), .dat (.ref r), .dat (.int i), .dat (.tup (.str w :: ps)), .dat (.tup ((pl ++ [b + (i : Int)]).map .int)), .own (.lst ((w :: ((zs.map fun r => (r.1, r.2.1)).map wordsP).flatten).map .str)), .dat (.lst ((ls.map (·.1)).map .tup)), s9, s10, s11, s12, s13] (FM r acc M0) := by
        rintro acc s9 s10 s11 s12 s13 ea al
        have g := goal (.dat (.int i)) (.dat (.tup (.str w :: ps))) (.dat (.tup ((pl ++ [b + (i : Int)]).map .int))) (.own (.lst ((w :: ((zs.map fun r => (r.1, r.2.1)).map wordsP).flatten).map .str))) (.dat (.lst ((ls.map (·.1)).map .tup))) s9 s10 s11 s12 s13
        unfold as__law_lines_t1
        walk_at "gs"
        simp only [fm_lk]
        have e1 := endR_len (ls.map (·.1))
        have e3 : (0 : Int) ≤ (if (!((ls.map (·.1)).map D.tup).length == 0) = true then (1 : Int) else 0) ∧ (if (!((ls.map (·.1)).map D.tup).length == 0) = true then (1 : Int) else 0) ≤ 1 := by split <;> omega
        rw [end_rep, fm_put hr, ← List.map_append]
        refine ⟨rfl, ⟨by omega, by omega, by omega⟩, by rw [List.length_map, List.length_map]; omega, ?_⟩
        rw [ea, List.append_assoc, List.cons_append]
        exact g
      unfold forW
      have tl := lotsR_len0 (f := rowsF v) (P := DeedG v) (fun d _ pl hd => rowsF_len pl hd) (pl ++ [b + (i : Int)]) 0 hd1 f3
      have mpl : (pl ++ [b + (i : Int)]).length + v ≤ 99 := by rw [List.length_append]; simp only [List.length_cons, List.length_nil]; omega
      have sm2 : ∀ l ∈ ls, l.2 ≤ 60 ∧ l.2 + 1 ≤ k := fun l hl => by
        have : l.2 ≤ (ls.map (·.2)).sum := by
          clear hd1 ll fin tup f1' f1 f4 f3 tl f2 goal
          induction ls with
          | nil => cases hl
          | cons r rs ih =>
            rw [List.map_cons, List.sum_cons]
            rcases List.mem_cons.mp hl with rfl | hl
            · omega
            · have := ih hl; omega
        omega
      match ls, f3, hd1, ll, fin, sm2, tl, f4 with
      | [], _, _, _, fin, _, tl, _ =>
        simp only [List.map_nil, enumD, aForL]
        exact fin _ _ _ _ _ _ rfl (by rw [List.length_append]; simp [lotsR]; omega)
      | [l1], _, hd1, ll, fin, sm2, tl, f4 =>
        simp only [List.map_cons, List.map_nil, enumD, aForL]
        walk_at "gw"
        have a1 := hd1 l1 List.mem_cons_self
        have b1 := sm2 l1 List.mem_cons_self
        have r1 := rowsLs_len' (pl ++ [b + (i : Int)]) 0 a1
        refine ll_b2 (n := n) (c := l1.2) (v := v) (j := 0) (lots := [l1.1]) (pl := pl ++ [b + (i : Int)]) (rs := rows ++ [((hh, some (pl ++ [b + (i : Int)])) : Row)]) hr (by omega) (by simp) (fun l hl => by rw [List.mem_singleton.mp hl]; have := ll l1 List.mem_cons_self; omega) a1 b1.1 mpl (by omega) (by rw [List.length_append]; simp only [List.length_cons, List.length_nil]; omega) (fun s13 => ?_)
        refine fin _ _ _ _ _ _ ?_ ?_
        · simp only [List.map_cons, List.map_nil, lotsR, List.append_nil, List.take_zero, List.sum_nil, List.append_assoc, List.cons_append, List.nil_append]
          rfl
        · simp only [withR, Nat.lt_irrefl, if_false, List.nil_append, List.length_append, List.length_cons, List.length_nil, List.take_zero, List.map_nil, List.sum_nil]
          have : ((0 : Nat) : Int) = 0 := rfl
          rw [this]
          omega
      | [l1, l2], _, hd1, ll, fin, sm2, tl, f4 =>
        simp only [List.map_cons, List.map_nil, enumD, aForL]
        walk_at "gw"
        have a1 := hd1 l1 List.mem_cons_self
        have a2 := hd1 l2 (by simp)
        have b1 := sm2 l1 List.mem_cons_self
        have b2 := sm2 l2 (by simp)
        have r1 := rowsLs_len' (pl ++ [b + (i : Int)]) 0 a1
        have r2 := rowsLs_len' (pl ++ [b + (i : Int)]) (((l1.1.length + 0 : Nat)) : Int) a2
        have l4 : ∀ l ∈ [l1.1, l2.1], l.length ≤ 60 := fun l hl => by
          rcases List.mem_cons.mp hl with rfl | hl
          · have := ll l1 List.mem_cons_self; omega
          · rw [List.mem_singleton.mp hl]; have := ll l2 (by simp); omega
        simp only [List.map_cons, List.map_nil, List.sum_cons, List.sum_nil] at f4
        refine ll_b2 (n := n) (c := l1.2) (v := v) (j := 0) (lots := [l1.1, l2.1]) (pl := pl ++ [b + (i : Int)]) (rs := rows ++ [((hh, some (pl ++ [b + (i : Int)])) : Row)]) hr (by omega) (by simp) l4 a1 b1.1 mpl (by omega) (by rw [List.length_append]; simp only [List.length_cons, List.length_nil]; omega) (fun s13 => ?_)
        walk_at "gw"
        refine ll_b2 (n := n) (c := l2.2) (v := v) (j := 1) (lots := [l1.1, l2.1]) (pl := pl ++ [b + (i : Int)]) (rs := rows ++ [((hh, some (pl ++ [b + (i : Int)])) : Row)] ++ (withR 0 ++ rowsLs (rowsF v) (pl ++ [b + (i : Int)]) 0 l1.1)) hr (by omega) (by simp) l4 a2 b2.1 mpl (by omega) ?_ (fun s13 => ?_)
        · simp only [withR, Nat.lt_irrefl, if_false, List.nil_append, List.length_append, List.length_cons, List.length_nil]
          omega
        refine fin _ _ _ _ _ _ ?_ ?_
        · simp only [List.map_cons, List.map_nil, lotsR, List.append_nil, List.take_succ_cons, List.take_zero, List.sum_cons, List.sum_nil, List.append_assoc, List.cons_append, List.nil_append]
          rw [show ((l1.1.length + 0 : Nat) : Int) = 0 + (l1.1.length : Int) by omega]
        · rw [show (((([l1.1, l2.1].take 1).map (·.length)).sum : Nat) : Int) = ((l1.1.length + 0 : Nat) : Int) from rfl]
          have w1 := withR_len 1
          simp only [withR, Nat.lt_irrefl, if_false, List.nil_append, List.length_append, List.length_cons, List.length_nil] at w1 ⊢
          omega
    · rintro dn' q ls' Γ M' K' ⟨e3, rfl, s9, s10, rfl⟩ hK'
      have hm : q ∈ zs.map fun r => (r.1, r.2.1) := by rw [← e3]; simp
      obtain ⟨r0, hr0, rfl⟩ := List.mem_map.mp hm
      have hp0 := hok r0 hr0
      have dl : (dn'.map wordsP).flatten.length + (wordsP (r0.1, r0.2.1)).length ≤ 10 := by
        rw [← e3] at hl1
        simp only [List.map_append, List.map_cons, List.flatten_append, List.flatten_cons, List.length_cons, List.length_append] at hl1
        omega
      have dl2 : dn'.length ≤ 2 := by
        have := congrArg List.length e3
        rw [List.length_append, List.length_map] at this
        omega
      have fl : ((dn'.filter fun q => decide (q.1 = ("d" : Str))).map fun q => q.2).length ≤ 2 := by
        rw [List.length_map]
        have := List.length_filter_le (fun q : Str × D => decide (q.1 = ("d" : Str))) dn'
        omega
      have go : ∀ s9 s10 (xs : List Str) (ys : List D), xs = wordsP (r0.1, r0.2.1) → ys = (if r0.1 = ("d" : Str) then [r0.2.1] else []) → K' [.dat (.tup es), .dat (.tup (pl.map .int)), .dat (.int b), .dat (.ref r), .dat (.int i), .dat (.tup (.str w :: ps)), .dat (.tup ((pl ++ [b + (i : Int)]).map .int)),
          .own (.lst ((w :: (dn'.map wordsP).flatten).map .str ++ xs.map .str)), .own (.lst (((dn'.filter fun q => decide (q.1 = ("d" : Str))).map fun q => q.2) ++ ys)), s9, s10, s11, s12, s13] (FM r rows M0) := by
        rintro s9 s10 xs ys rfl rfl
        refine hK' _ _ ⟨by rw [List.append_assoc]; exact e3, rfl, s9, s10, ?_⟩
        congr 8
        · simp only [List.map_append, List.map_cons, List.map_nil, List.flatten_append, List.flatten_cons, List.flatten_nil, List.append_nil, List.cons_append]
        · rw [List.filter_append, List.map_append, List.filter_cons]
          by_cases e : r0.1 = ("d" : Str)
          · rw [if_pos e, if_pos (by simpa using e)]; rfl
          · rw [if_neg e, if_neg (by simpa using e)]; rfl
      clear hK'
      unfold as__law_lines_b1 rowE
      rcases hp0 with ⟨g1, fs, g2, _, _⟩ | ⟨nd, _, hg⟩
      · rw [g1, g2] at go ⊢
        walk_at "gw"
        rw [if_pos (by decide)]
        refine ⟨by omega, ?_⟩
        have := go (.dat (.str "d")) (.dat (.tup fs)) [] [.tup fs] rfl (by rw [if_pos rfl])
        rwa [List.map_nil, List.append_nil] at this
      · rcases hg with ⟨g1, x, hx, g2⟩ | ⟨g1, m, h1, h2, g2⟩ | ⟨g1, m, h1, h2, g2⟩ | ⟨g1, xs, h1, h2, h3, g2⟩ <;> rw [g1, g2] at go dl ⊢
        · walk_at "gw"
          rw [if_neg (by decide), if_neg (by decide)]
          have := go (.dat (.str "n")) (.dat (.str x)) [x] [] rfl (by rw [if_neg (by decide)])
          rw [List.append_nil] at this
          exact ⟨by omega, by rw [List.length_map]; omega, this⟩
        · walk_at "gw"
          rw [if_neg (by decide), if_neg (by decide)]
          have := go (.dat (.str "j")) (.dat (.int m)) [strW (.int m)] [] rfl (by rw [if_neg (by decide)])
          rw [List.append_nil] at this
          exact ⟨dig_log m (by omega) (by omega), by omega, by rw [List.length_map]; omega, this⟩
        · walk_at "gw"
          rw [if_neg (by decide), if_neg (by decide)]
          have := go (.dat (.str "t")) (.dat (.int m)) [strW (.int m)] [] rfl (by rw [if_neg (by decide)])
          rw [List.append_nil] at this
          exact ⟨dig_log m (by omega) (by omega), by omega, by rw [List.length_map]; omega, this⟩
        · walk_at "gw"
          rw [if_neg (by decide), if_pos (by decide)]
          have := go (.dat (.str "w")) (.dat (.tup (xs.map .str))) xs [] (by show xs = (xs.map D.str).map txtOf; rw [List.map_map, show (txtOf ∘ D.str) = id from rfl, List.map_id]) (by rw [if_neg (by decide)])
          rw [List.append_nil] at this
          exact ⟨by rw [List.length_map, List.length_map]; omega, this⟩
theorem app_non (rows : List Row) (x : Str) : rows.map rwD ++ [D.tup [.str x, .non]] = (rows ++ [((x, none) : Row)]).map rwD := by rw [List.map_append]; rfl
theorem rd__law_written : ∀ ds M Q, S__law_written ds M Q → as__law_written (endsOf (tk M Q)) (slots N__law_written.length ds) M := by
  rintro ds M Q ⟨g, rfl, ok, hq⟩
  show as__law_written (endsOf (tk M Q)) [.dat (prG g), .non, .non, .non] _
  have wl := names_join ok.ws
  have wl2 := ok.ws.2.1
  unfold as__law_written
  unfold prG
  walk_at "gs"
  rw [show (D.str "wires" :: g.ws.map D.str) = (("wires" : Str) :: g.ws).map D.str from rfl, strsD_map]
  refine ⟨by rw [List.length_map]; omega, ?_, fun p hp => ?_⟩
  · rw [List.map_cons, List.sum_cons, show ("wires" : Str).length = 5 from rfl, show (" " : Str).length = 1 from rfl, List.length_cons]
    omega
  rw [enumD_bo]
  have nl : (numB 0 g.bo).length ≤ 8 := by
    have := enumD_len (g.bo.map boG) 0
    rw [enumD_bo, List.length_map, List.length_map] at this
    have := ok.bl
    omega
  have bds := ok.bds
  have fm := numB_rows 0 g.bo
  rw [show ((0 : Nat) : Int) = 0 from rfl] at fm
  unfold rowsG at hq
  generalize hh : Txt.join " " ("wires" :: g.ws) = ww at hq ⊢
  refine forA numF (fun dn left Γ M' => dn ++ left = numB 0 g.bo ∧ M' = FM p (((ww, none) : Row) :: dn.flatMap rowsQ) M ∧ ∃ s2 s3, (dn.flatMap rowsQ).length ≤ 182 * dn.length ∧ Γ = [.dat (.tup [.tup (g.ws.map .str), .tup (g.bo.map boG), .tup g.ds]), .dat (.ref p), s2, s3]) ?_ ?_ _ [] ⟨rfl, rfl, _, _, by simp, rfl⟩
  · rintro dn Γ M' ⟨e, rfl, s2, s3, hl, rfl⟩
    rw [List.append_nil] at e
    subst e
    rw [fm] at hl ⊢
    obtain ⟨c, h1, h2⟩ := ok.ds
    have bl := ok.bl
    unfold as__law_written_t1
    walk_at "gs"
    refine ⟨g.ds, [(g.bo.length : Int)], 0, p, _, M, 6, c, by rw [List.length_map]; rfl, rfl, hp, h1, h2, by omega, by omega, by simp, by simp only [List.length_cons]; omega, by omega, ?_⟩
    walk_at "gs"
    exact tk_head hp hq
  · rintro dn q left Γ M' K ⟨e, rfl, s2, s3, hl, rfl⟩ hK
    have hm : q ∈ numB 0 g.bo := by rw [← e]; simp
    have dl : dn.length + 1 ≤ 8 := by
      have := congrArg List.length e
      simp only [List.length_append, List.length_cons] at this
      omega
    obtain ⟨m1, m2⟩ := numB_mem hm
    obtain ⟨c, h1, h2⟩ := bds _ m1
    obtain ⟨bn, bw⟩ := ok.bo _ m1
    have nl8 := name_len bn
    have bl := names_join bw
    have bw2 := bw.2.1
    have rl := rowsLs_len' [(q.1 : Int)] 0 h1
    unfold as__law_written_b1 numF boG
    walk_at "gs"
    simp only [fm_lk]
    have ql : (rowsQ q).length ≤ 182 := by
      unfold rowsQ
      simp only [List.length_cons, List.length_append, List.length_nil]
      omega
    rw [show (D.str "body" :: D.str q.2.n :: q.2.ws.map D.str) = (("body" : Str) :: q.2.n :: q.2.ws).map D.str from rfl, strsD_map]
    simp only
    refine ⟨rfl, by rw [List.length_map]; omega, ?_, by rw [List.length_map, List.length_cons]; omega, ?_⟩
    · rw [List.map_cons, List.map_cons, List.sum_cons, List.sum_cons, show ("body" : Str).length = 4 from rfl, show (" " : Str).length = 1 from rfl, List.length_cons, List.length_cons]
      omega
    rw [fm_put hp, app_non]
    refine ⟨q.2.ds, [(q.1 : Int)], 0, p, _, M, 6, c, rfl, rfl, hp, h1, h2, by omega, by omega, by simp, by rw [List.length_append]; simp only [List.length_cons, List.length_nil]; omega, by omega, ?_⟩
    walk_at "gs"
    simp only [fm_lk]
    refine ⟨rfl, by rw [List.length_map]; simp only [List.length_append, List.length_cons, List.length_nil]; omega, ?_⟩
    rw [fm_put hp, app_non]
    refine hK _ _ ⟨by rw [List.append_assoc]; exact e, ?_, _, _, ?_, rfl⟩
    · rw [List.flatMap_append, List.flatMap_cons, List.flatMap_nil, List.append_nil]
      unfold FM
      simp only [rowsQ, List.append_assoc, List.cons_append, List.nil_append]
    · rw [List.flatMap_append, List.length_append, List.flatMap_cons, List.flatMap_nil, List.append_nil, List.length_append, List.length_cons, List.length_nil]
      omega
theorem niceS {ds : List D} {k : Nat} (h : ∀ d ∈ ds, Nice d k (widN d)) : Nice (.tup ds) (k + 1) (widN (.tup ds)) := by
  have : ∀ {ds : List D}, (∀ d ∈ ds, Nice d k (widN d)) → plainNL ds = true ∧ PyData.showableAll (toPyNL ds) = true ∧ depNL ds ≤ k := by
    intro ds
    induction ds with
    | nil => intro _; exact ⟨rfl, by rw [toPyNL, PyData.showableAll], Nat.zero_le _⟩
    | cons d ds ih =>
      intro h
      obtain ⟨a, b, c⟩ := ih fun x hx => h x (List.mem_cons_of_mem _ hx)
      have n := h d List.mem_cons_self
      have := n.dep
      exact ⟨by rw [plainNL, n.pl, a]; rfl, by rw [toPyNL, PyData.showableAll, n.sh, b]; rfl, by rw [depNL]; omega⟩
  obtain ⟨a, b, c⟩ := this h
  exact ⟨by rw [plainN]; exact a, by rw [toPyN, PyData.showable]; exact b, by rw [depN]; omega, Nat.le_refl _⟩
theorem nice_tx (x : Str) (k : Nat) : Nice (.str x) k (widN (.str x)) := ⟨rfl, rfl, Nat.zero_le _, Nat.le_refl _⟩
theorem nice_i {i : Int} (k : Nat) (h0 : -10000 < i) (h1 : i < 10000) : Nice (.int i) k (widN (.int i)) ∧ widN (.int i) ≤ 20 := by
  have l : i.natAbs.log2 < 14 := by
    rcases Nat.eq_zero_or_pos i.natAbs with e | e
    · rw [e]; decide
    · exact (Nat.log2_lt (by omega)).mpr (by omega)
  exact ⟨⟨rfl, by rw [toPyN, PyData.showable]; exact decide_eq_true (by omega), Nat.zero_le _, Nat.le_refl _⟩, by rw [widN]; omega⟩
theorem wid_tx {x : Str} (h : ∀ c ∈ x.cps.toList, c ≤ 200) : widN (.str x) ≤ 10 * x.length + 2 := by
  rw [widN]
  exact StrLaws.reprText_len x fun c hc => by
    have h1 := h c hc
    have h2 : (200 : Nat) < 16 ^ 8 := by decide
    omega
theorem wid_wd {x : Str} (h : WdOk x = true) : widN (.str x) ≤ 82 := by
  unfold WdOk at h
  simp only [Bool.and_eq_true, decide_eq_true_eq, List.all_eq_true] at h
  have := wid_tx (x := x) fun c hc => by have := h.2 c hc; omega
  omega
theorem wid_names : ∀ {ws : List Str}, (∀ w ∈ ws, nameB w = true) → widNL (ws.map .str) ≤ 84 * ws.length
  | [], _ => Nat.zero_le _
  | w :: ws, h => by
    have ih := wid_names (ws := ws) fun x hx => h x (List.mem_cons_of_mem _ hx)
    have := wid_wd (wd_name (h w List.mem_cons_self))
    rw [List.map_cons, widNL, List.length_cons]
    omega
theorem nice_names {ws : List Str} (k : Nat) : Nice (.tup (ws.map .str)) (k + 1) (widN (.tup (ws.map .str))) := niceS fun d hd => by
  obtain ⟨w, _, rfl⟩ := List.mem_map.mp hd
  exact nice_tx w k
theorem nice_up {d : D} {k m : Nat} (h : Nice d k (widN d)) (l : k ≤ m) : Nice d m (widN d) := h.mono l (Nat.le_refl _)
theorem nice_good {ch : Str} {p : D} (h : GoodP ch p) : Nice p 1 (widN p) ∧ widN p ≤ 423 := by
  rcases h with ⟨_, x, hx, rfl⟩ | ⟨_, i, h1, h2, rfl⟩ | ⟨_, i, h1, h2, rfl⟩ | ⟨_, xs, h1, h2, h3, rfl⟩
  · exact ⟨nice_tx x 1, by have := wid_wd (wd_name hx); omega⟩
  · have := nice_i (i := i) 1 (by omega) (by omega); exact ⟨this.1, by omega⟩
  · have := nice_i (i := i) 1 (by omega) (by omega); exact ⟨this.1, by omega⟩
  · refine ⟨nice_names 0, ?_⟩
    have := wid_names h3
    rw [widN]
    omega
theorem ds_nice {n k : Nat} (hf : ∀ {d : D} {c : Nat}, DeedG n d c → Nice d k (widN d) ∧ widN d + 2 ≤ 1000 * c) : ∀ {es : List D} {c : Nat}, DsG n es c → (∀ d ∈ es, Nice d k (widN d)) ∧ widNL es ≤ 1000 * c
  | [], _, _ => ⟨fun _ h => (by cases h), Nat.zero_le _⟩
  | d :: es, c, h => by
    obtain ⟨a, e, h1, h2, rfl⟩ := DsP.cons h
    obtain ⟨i1, i2⟩ := ds_nice hf (es := es) h2
    obtain ⟨j1, j2⟩ := hf h1
    refine ⟨fun x hx => ?_, by rw [widNL]; omega⟩
    rcases List.mem_cons.mp hx with rfl | hx
    · exact j1
    · exact i1 x hx
theorem parts_nice {n k : Nat} (hf : ∀ {d : D} {c : Nat}, DeedG n d c → Nice d k (widN d) ∧ widN d + 2 ≤ 1000 * c) : ∀ {rs : List (Str × D × Nat)}, (∀ r ∈ rs, PartG (DeedG n) r.1 r.2.1 r.2.2) → (∀ d ∈ rs.map (·.2.1), Nice d (k + 1) (widN d)) ∧ widNL (rs.map (·.2.1)) ≤ 425 * rs.length + 1000 * (rs.map (·.2.2)).sum
  | [], _ => ⟨fun _ h => (by cases h), Nat.zero_le _⟩
  | r :: rs, h => by
    obtain ⟨i1, i2⟩ := parts_nice hf (rs := rs) fun x hx => h x (List.mem_cons_of_mem _ hx)
    have hr : Nice r.2.1 (k + 1) (widN r.2.1) ∧ widN r.2.1 ≤ 423 + 1000 * r.2.2 := by
      rcases h r List.mem_cons_self with ⟨_, ds, e, _, hd⟩ | ⟨_, _, g⟩
      · rw [e]
        obtain ⟨j1, j2⟩ := ds_nice hf hd
        exact ⟨niceS j1, by rw [widN]; omega⟩
      · obtain ⟨j1, j2⟩ := nice_good g
        exact ⟨nice_up j1 (by omega), by omega⟩
    refine ⟨fun x hx => ?_, by rw [List.map_cons, widNL, List.length_cons, List.map_cons, List.sum_cons]; have := hr.2; omega⟩
    rcases List.mem_cons.mp hx with rfl | hx
    · exact hr.1
    · exact i1 x hx
theorem deed_nice : ∀ (n : Nat) {d : D} {c : Nat}, DeedG n d c → Nice d (2 * n) (widN d) ∧ widN d + 2 ≤ 1000 * c
  | 0, _, _, h => h.elim
  | n + 1, d, c, h => by
    obtain ⟨w, s, ps, rs, z⟩ := h.dz
    obtain ⟨p1, p2⟩ := parts_nice (fun {d} {c} h => deed_nice n h) z.ok
    have two := z.two
    have ww := wid_wd (wd_word w (List.mem_map.mpr ⟨_, forms_mem z.l, rfl⟩))
    rw [← z.ps] at p1 p2
    rw [z.e, z.c]
    refine ⟨niceS fun x hx => ?_, ?_⟩
    · rcases List.mem_cons.mp hx with rfl | hx
      · exact nice_tx w _
      · exact p1 x hx
    · rw [widN, widNL]
      omega
theorem pr_fit {g : Pr} (ok : PrOk g) : shOkN (prG g) = true := by
  have hf : ∀ {d : D} {c : Nat}, DeedG 6 d c → Nice d 12 (widN d) ∧ widN d + 2 ≤ 1000 * c := fun h => deed_nice 6 h
  have wn : ∀ ws, NsG ws → widN (.tup (ws.map .str)) ≤ 430 := fun ws h => by
    have := wid_names h.2.2.1
    have := h.2.1
    rw [widN]
    omega
  obtain ⟨c, d1, d2⟩ := ok.ds
  obtain ⟨e1, e2⟩ := ds_nice hf d1
  have bs : ∀ b ∈ g.bo, Nice (boG b) 14 (widN (boG b)) ∧ widN (boG b) ≤ 61000 := fun b hb => by
    obtain ⟨c', b1, b2⟩ := ok.bds b hb
    obtain ⟨f1, f2⟩ := ds_nice hf b1
    obtain ⟨n1, n2⟩ := ok.bo b hb
    have w1 := wid_wd (wd_name n1)
    have w2 := wn _ n2
    refine ⟨niceS fun x hx => ?_, ?_⟩
    · simp only [List.mem_cons, List.not_mem_nil, or_false] at hx
      rcases hx with rfl | rfl | rfl
      · exact nice_tx _ _
      · exact nice_up (nice_names 0) (by omega)
      · exact niceS f1
    · show widN (.tup [.str b.n, .tup (b.ws.map .str), .tup b.ds]) ≤ 61000
      rw [widN, widNL, widNL, widNL, widNL]
      have : widN (.tup b.ds) = widNL b.ds + 3 := by rw [widN]
      omega
  have bw : widNL (g.bo.map boG) ≤ 61002 * g.bo.length := by
    have : ∀ l : List Bo, (∀ b ∈ l, b ∈ g.bo) → widNL (l.map boG) ≤ 61002 * l.length := by
      intro l
      induction l with
      | nil => intro _; exact Nat.zero_le _
      | cons b l ih =>
        intro h
        have := ih fun x hx => h x (List.mem_cons_of_mem _ hx)
        have := (bs b (h b List.mem_cons_self)).2
        rw [List.map_cons, widNL, List.length_cons]
        omega
    exact this _ fun _ h => h
  have bl := ok.bl
  have n : Nice (prG g) 17 (widN (prG g)) := niceS fun x hx => by
    simp only [List.mem_cons, List.not_mem_nil, or_false] at hx
    rcases hx with rfl | rfl | rfl
    · exact nice_up (nice_names 0) (by omega)
    · exact nice_up (niceS (k := 14) fun d hd => by
        obtain ⟨b, hb, rfl⟩ := List.mem_map.mp hd
        exact (bs b hb).1) (by omega)
    · exact nice_up (niceS e1) (by omega)
  refine n.ok (by decide) ?_
  show widN (.tup [.tup (g.ws.map .str), .tup (g.bo.map boG), .tup g.ds]) ≤ 16777216
  have w1 := wn _ ok.ws
  rw [widN, widNL, widNL, widNL, widNL]
  have a1 : widN (.tup (g.bo.map boG)) = widNL (g.bo.map boG) + 3 := by rw [widN]
  have a2 : widN (.tup g.ds) = widNL g.ds + 3 := by rw [widN]
  omega
theorem show_len {g : Pr} (ok : PrOk g) : (showG g).length ≤ 210000 ∧ ∀ c ∈ (showG g).cps.toList, c ≤ 200 := by
  unfold showG
  rw [show Txt.join "\n" ((rowsG g).map (·.1)) = Str.join "\n" ((rowsG g).map (·.1)) from TL.join_eq _ _]
  constructor
  · have a := join_len "\n" ((rowsG g).map (·.1))
    have b := sum_le (f := fun r : Row => r.1.length) (k := 100) fun r hr => (rowsG_ok ok r hr).len
    have gl := rowsG_len ok
    rw [List.map_map, List.length_map, show ("\n" : Str).length = 1 from rfl] at a
    have e : ((rowsG g).map ((fun x : Str => x.length) ∘ fun x => x.1)).sum = ((rowsG g).map fun r => r.1.length).sum := rfl
    omega
  · intro c hc
    have hc : c ∈ TL.tl (Str.join "\n" ((rowsG g).map (·.1))) := hc
    rw [TL.tl_join] at hc
    rcases joinL_mem hc with h | ⟨l, hl, h⟩
    · rw [show TL.tl ("\n" : Str) = [10] by decide +kernel] at h
      rw [List.mem_singleton.mp h]
      omega
    · obtain ⟨x, hx, rfl⟩ := List.mem_map.mp hl
      obtain ⟨r, hr, rfl⟩ := List.mem_map.mp hx
      have := row_signs (rowsG_ok ok r hr) c h
      omega
theorem show_fit {g : Pr} (ok : PrOk g) : shOkN (.str (showG g)) = true := by
  obtain ⟨h1, h2⟩ := show_len ok
  have := wid_tx h2
  exact (nice_tx (showG g) 0).ok (by decide) (by omega)
theorem rowsF_pl : ∀ (n : Nat) {d : D} {c : Nat} {pl : List Int}, DeedG n d c → c ≤ 60 → (∀ z ∈ pl, 0 ≤ z ∧ z < 1000) → ∀ r ∈ rowsF n d pl, ∀ p, r.2 = some p → p.length ≤ pl.length + n ∧ ∀ z ∈ p, 0 ≤ z ∧ z < 1000
  | 0, _, _, _, h, _, _, _, _, _, _ => h.elim
  | n + 1, d, c, pl, h, hc, hp, r, hr, p, e => by
    obtain ⟨w, s, ps, rs, z⟩ := h.dz
    obtain ⟨ls, e1, e2, e3, e4⟩ := z.lots
    have ds : ∀ (es : List D) (k : Nat) (b : Int), DsG n es k → k ≤ 60 → 0 ≤ b → b + es.length ≤ 200 → ∀ r ∈ rowsLs (rowsF n) pl b es, ∀ p, r.2 = some p → p.length ≤ pl.length + (n + 1) ∧ ∀ z ∈ p, 0 ≤ z ∧ z < 1000 := by
      intro es
      induction es with
      | nil => intro k b _ _ _ _ r hr; cases hr
      | cons x es ih =>
        intro k b hd hk b0 b1 r hr p e
        obtain ⟨a, e', h1, h2, rfl⟩ := DsP.cons hd
        simp only [List.length_cons] at b1
        rw [rowsLs] at hr
        rcases List.mem_append.mp hr with hr | hr
        · have := rowsF_pl n (pl := pl ++ [b]) h1 (by omega) (fun z hz => by
            rcases List.mem_append.mp hz with hz | hz
            · exact hp z hz
            · rw [List.mem_singleton.mp hz]; omega) r hr p e
          rw [List.length_append] at this
          simp only [List.length_cons, List.length_nil] at this
          exact ⟨by omega, this.2⟩
        · exact ih e' (b + 1) h2 (by omega) (by omega) (by omega) r hr p e
    have lt : ∀ (ls : List (List D × Nat)) (j : Nat) (b : Int), (∀ l ∈ ls, l.1.length ≤ 4 ∧ DsG n l.1 l.2) → (ls.map (·.2)).sum ≤ 60 → 0 ≤ b → b + 4 * ls.length ≤ 200 → ∀ r ∈ lotsR (rowsF n) pl j b (ls.map (·.1)), ∀ p, r.2 = some p → p.length ≤ pl.length + (n + 1) ∧ ∀ z ∈ p, 0 ≤ z ∧ z < 1000 := by
      intro ls
      induction ls with
      | nil => intro j b _ _ _ _ r hr; cases hr
      | cons l ls ih =>
        intro j b hl hs b0 b1 r hr p e
        obtain ⟨l1, l2⟩ := hl l List.mem_cons_self
        rw [List.map_cons, List.sum_cons] at hs
        simp only [List.length_cons] at b1
        rw [List.map_cons, lotsR] at hr
        rcases List.mem_append.mp hr with hr | hr
        · rcases List.mem_append.mp hr with hr | hr
          · unfold withR at hr
            split at hr
            · rw [List.mem_singleton.mp hr] at e; cases e
            · cases hr
          · exact ds l.1 l.2 b l2 (by omega) b0 (by omega) r hr p e
        · exact ih (j + 1) (b + l.1.length) (fun x hx => hl x (List.mem_cons_of_mem _ hx)) (by omega) (by omega) (by omega) r hr p e
    rw [rowsF, e1] at hr
    rcases List.mem_cons.mp hr with rfl | hr
    · cases e
      exact ⟨by omega, hp⟩
    rcases List.mem_append.mp hr with hr | hr
    · exact lt ls 0 0 e2 (by omega) (by omega) (by omega) r hr p e
    · unfold endR at hr
      split at hr
      · cases hr
      · rw [List.mem_singleton.mp hr] at e; cases e
theorem rowsLs_pl : ∀ (es : List D) {k : Nat} {pl : List Int} (b : Int), DsG 6 es k → k ≤ 60 → (∀ z ∈ pl, 0 ≤ z ∧ z < 1000) → 0 ≤ b → b + es.length ≤ 200 → ∀ r ∈ rowsLs (rowsF 6) pl b es, ∀ p, r.2 = some p → p.length ≤ pl.length + 7 ∧ ∀ z ∈ p, 0 ≤ z ∧ z < 1000
  | [], _, _, _, _, _, _, _, _, r, hr, _, _ => by cases hr
  | x :: es, k, pl, b, hd, hk, hp, b0, b1, r, hr, p, e => by
    obtain ⟨a, e', h1, h2, rfl⟩ := DsP.cons hd
    simp only [List.length_cons] at b1
    rw [rowsLs] at hr
    rcases List.mem_append.mp hr with hr | hr
    · have := rowsF_pl 6 (pl := pl ++ [b]) h1 (by omega) (fun z hz => by
        rcases List.mem_append.mp hz with hz | hz
        · exact hp z hz
        · rw [List.mem_singleton.mp hz]; omega) r hr p e
      rw [List.length_append] at this
      simp only [List.length_cons, List.length_nil] at this
      exact ⟨by omega, this.2⟩
    · exact rowsLs_pl es (b + 1) h2 (by omega) hp (by omega) (by omega) r hr p e
theorem rowsG_pl {g : Pr} (ok : PrOk g) : ∀ r ∈ rowsG g, ∀ p, r.2 = some p → p.length ≤ 8 ∧ ∀ z ∈ p, 0 ≤ z ∧ z < 1000 := by
  have bos : ∀ (bs : List Bo) (k : Int), (∀ b ∈ bs, b ∈ g.bo) → 0 ≤ k → k + bs.length ≤ 8 → ∀ r ∈ rowsB k bs, ∀ p, r.2 = some p → p.length ≤ 8 ∧ ∀ z ∈ p, 0 ≤ z ∧ z < 1000 := by
    intro bs
    induction bs with
    | nil => intro k _ _ _ r hr; cases hr
    | cons b bs ih =>
      intro k hb k0 k1 r hr p e
      simp only [List.length_cons] at k1
      obtain ⟨c, h1, h2⟩ := ok.bds b (hb b List.mem_cons_self)
      have l1 := DsG.len h1
      rw [rowsB] at hr
      rcases List.mem_append.mp hr with hr | hr
      · rcases List.mem_cons.mp hr with rfl | hr
        · cases e
        · rcases List.mem_append.mp hr with hr | hr
          · exact rowsLs_pl b.ds 0 h1 h2 (fun z hz => by rw [List.mem_singleton.mp hz]; omega) (by omega) (by omega) r hr p e
          · rw [List.mem_singleton.mp hr] at e; cases e
      · exact ih (k + 1) (fun x hx => hb x (List.mem_cons_of_mem _ hx)) (by omega) (by omega) r hr p e
  intro r hr p e
  have bl := ok.bl
  obtain ⟨c, h1, h2⟩ := ok.ds
  have l1 := DsG.len h1
  unfold rowsG at hr
  rcases List.mem_append.mp hr with hr | hr
  · rcases List.mem_cons.mp hr with rfl | hr
    · cases e
    · exact bos g.bo 0 (fun _ h => h) (by omega) (by omega) r hr p e
  · exact rowsLs_pl g.ds 0 h1 h2 (fun z hz => by rw [List.mem_singleton.mp hz]; omega) (by omega) (by omega) r hr p e
theorem wid_ints : ∀ {p : List Int}, (∀ z ∈ p, 0 ≤ z ∧ z < 1000) → widNL (p.map .int) ≤ 22 * p.length
  | [], _ => Nat.zero_le _
  | z :: p, h => by
    have ih := wid_ints (p := p) fun x hx => h x (List.mem_cons_of_mem _ hx)
    have hz := h z List.mem_cons_self
    have := (nice_i (i := z) 0 (by omega) (by omega)).2
    rw [List.map_cons, widNL, List.length_cons]
    omega
theorem lines_nice : ∀ (rs : List Row) (k : Int), 0 ≤ k → k + rs.length < 9000 → (∀ r ∈ rs, ∀ p, r.2 = some p → p.length ≤ 8 ∧ ∀ z ∈ p, 0 ≤ z ∧ z < 1000) → (∀ d ∈ linesF k rs, Nice d 2 (widN d)) ∧ widNL (linesF k rs) ≤ 300 * rs.length
  | [], k, _, _, _ => ⟨fun _ h => (by cases h), Nat.zero_le _⟩
  | (x, none) :: rs, k, k0, k1, h => by
    simp only [List.length_cons] at k1
    obtain ⟨i1, i2⟩ := lines_nice rs (k + 1) (by omega) (by omega) fun r hr => h r (List.mem_cons_of_mem _ hr)
    exact ⟨i1, by rw [linesF, List.length_cons]; omega⟩
  | (x, some p) :: rs, k, k0, k1, h => by
    simp only [List.length_cons] at k1
    obtain ⟨i1, i2⟩ := lines_nice rs (k + 1) (by omega) (by omega) fun r hr => h r (List.mem_cons_of_mem _ hr)
    obtain ⟨p1, p2⟩ := h (x, some p) List.mem_cons_self p rfl
    have wi := wid_ints p2
    have ni := nice_i (i := k) 1 (by omega) (by omega)
    refine ⟨fun d hd => ?_, ?_⟩
    · rw [linesF] at hd
      rcases List.mem_cons.mp hd with rfl | hd
      · refine niceS fun y hy => ?_
        simp only [List.mem_cons, List.not_mem_nil, or_false] at hy
        rcases hy with rfl | rfl
        · exact ni.1
        · exact niceS (k := 0) fun y hy => by
            obtain ⟨z, hz, rfl⟩ := List.mem_map.mp hy
            have := p2 z hz
            exact (nice_i 0 (by omega) (by omega)).1
      · exact i1 d hd
    · rw [linesF, widNL, widN, widNL, widNL, widNL, List.length_cons]
      have : widN (.tup (p.map .int)) = widNL (p.map .int) + 3 := by rw [widN]
      omega
theorem lines_fit {g : Pr} (ok : PrOk g) : shOkN (.tup (linesG g)) = true := by
  have gl := rowsG_len ok
  obtain ⟨h1, h2⟩ := lines_nice (rowsG g) 0 (by omega) (by omega) (rowsG_pl ok)
  refine (niceS h1).ok (by decide) ?_
  show widN (.tup (linesF 0 (rowsG g))) ≤ 16777216
  rw [widN]
  omega
theorem row_ln {r : Row} (h : RwOk r) : LnOk r.1 := by
  have l := h.len
  obtain ⟨ws, e, ne, h1, h2⟩ := h
  have sp := spl_words ne h2
  rw [← e] at sp
  refine ⟨by omega, by rw [sp]; omega, fun w hw => ?_⟩
  rw [sp] at hw
  have := h2 w hw
  unfold WdOk at this
  simp only [Bool.and_eq_true, decide_eq_true_eq] at this
  omega
theorem rows_few {g : Pr} (ok : PrOk g) : (rowsG g).length ≤ 1800 := by
  have bos : ∀ (bs : List Bo) (k : Int), (∀ b ∈ bs, b ∈ g.bo) → (rowsB k bs).length ≤ 182 * bs.length := by
    intro bs
    induction bs with
    | nil => intro k _; exact Nat.zero_le _
    | cons b bs ih =>
      intro k hb
      obtain ⟨c, h1, h2⟩ := ok.bds b (hb b List.mem_cons_self)
      have i1 := ih (k + 1) fun x hx => hb x (List.mem_cons_of_mem _ hx)
      have i2 := rowsLs_len' [k] 0 h1
      rw [rowsB]
      simp only [List.length_append, List.length_cons, List.length_nil]
      omega
  obtain ⟨c, h1, h2⟩ := ok.ds
  have i1 := bos g.bo 0 fun _ h => h
  have i2 := rowsLs_len' [((g.bo.length : Nat) : Int)] 0 h1
  have := ok.bl
  unfold rowsG
  simp only [List.length_append, List.length_cons]
  omega
theorem read_ok {g : Pr} (ok : PrOk g) : (showG g).length ≤ 1000000 ∧ (Txt.split (showG g) "\n").length ≤ 1900 ∧ (∀ r ∈ Txt.split (showG g) "\n", LnOk r) ∧ readG (showG g) = some (prG g) := by
  have sp : Txt.split (showG g) "\n" = (rowsG g).map (·.1) := rows_split (by unfold rowsG; simp) (rowsG_ok ok)
  have := (show_len ok).1
  refine ⟨by omega, ?_, fun r hr => ?_, read_show ok⟩
  · rw [sp, List.length_map]
    have := rows_few ok
    omega
  · rw [sp] at hr
    obtain ⟨q, hq, rfl⟩ := List.mem_map.mp hr
    exact row_ln (rowsG_ok ok q hq)
theorem law_b1 {A : AEnds} {a : Addr} {g s : Int} {M0 : Mem} {x0 x1 x3 x4 x5 x6 x7 x8 x9 : Slot} (ha : HA [] a M0) (hs : HOk g s)
    (hA : ∀ y4 y5 y6 y7 y8 y9 g' s', HOk g' s' → A.nx [x0, x1, .dat (.ref a), x3, y4, y5, y6, y7, y8, y9] (HP [] a g' s' M0)) :
    as_law_b1 A [x0, x1, .dat (.ref a), x3, x4, x5, x6, x7, x8, x9] (HP [] a g s M0) := by
  unfold as_law_b1
  walk_at "gq"
  refine ⟨[], a, g, s, M0, _, rfl, rfl, ha, hs, by simp, by simp, fun d g1 s1 hd hs1 => ?_⟩
  have hd2 : ∃ k : Nat, d = .int k ∧ k ≤ 60 := by
    simp only [List.mem_cons, List.not_mem_nil, or_false] at hd
    rcases hd with rfl | rfl | rfl | rfl
    · exact ⟨1, rfl, by omega⟩
    · exact ⟨4, rfl, by omega⟩
    · exact ⟨12, rfl, by omega⟩
    · exact ⟨50, rfl, by omega⟩
  obtain ⟨n, rfl, hn⟩ := hd2
  walk_at "gq"
  refine ⟨a, g1, s1, M0, n, rfl, rfl, ha, hs1, hn, fun p g2 s2 ok hs2 => ?_⟩
  walk_at "gq"
  refine ⟨p, rfl, ok, ?_⟩
  walk_at "gq"
  have hlen := rowsG_len ok
  refine lcMapA rwD (fun r => .str r.1) (rowsG p) [] (by simp only [List.length_nil]; omega) (fun r hr P hP => ?_) ?_
  · unfold as_law_e1 rwD
    walk_at "gq"
    exact hP
  walk_at "gq"
  rw [show (rowsG p).map (fun r => D.str r.1) = ((rowsG p).map (·.1)).map D.str by rw [List.map_map]; rfl, strsD_map]
  simp only
  refine ⟨?_, p, rfl, ok, ?_⟩
  · have := sum_le (f := fun r : Row => r.1.length) (k := 100) fun r hr => (rowsG_ok ok r hr).len
    rw [List.map_map, List.length_map, show ("\n" : Str).length = 1 from rfl]
    have e : ((rowsG p).map ((fun x : Str => x.length) ∘ fun x => x.1)).sum = ((rowsG p).map fun r => r.1.length).sum := rfl
    omega
  rw [show Txt.join "\n" ((rowsG p).map (·.1)) = showG p from rfl]
  have sf := show_fit ok
  have pf := pr_fit ok
  have lf := lines_fit ok
  refine aReprN_of sf ?_
  walk_at "gq"
  refine aReprN_of sf ?_
  walk_at "gq"
  refine ⟨p, rfl, ok, ?_⟩
  walk_at "gq"
  unfold as_law_t2
  walk_at "gq"
  obtain ⟨r1, r2, r3, r4⟩ := read_ok ok
  refine ⟨showG p, prG p, rfl, r1, r2, r3, r4, ?_⟩
  refine aReprN_of pf ?_
  walk_at "gq"
  refine aReprN_of pf ?_
  walk_at "gq"
  refine ⟨showG p, prG p, rfl, r1, r2, r3, r4, ?_⟩
  refine aReprN_of pf ?_
  walk_at "gq"
  refine aReprN_of pf ?_
  walk_at "gq"
  unfold as_law_t1
  walk_at "gq"
  rw [enumD_row]
  refine lcFiltA numRE (fun q => q.2.2.isSome) (fun q => D.tup [.int q.1, plD q.2.2]) (numR 0 (rowsG p)) [] (by rw [numR_len]; simp only [List.length_nil]; omega) (fun q hq P N hP hN => ?_) ?_
  · obtain ⟨i, x, pp⟩ := q
    unfold numRE rwD as_law_c1 as_law_e2
    cases pp with
    | none =>
      simp only [plD] at hP hN ⊢
      walk_at "gq"
      rw [if_neg (show ¬ (!Gw.isNon .non) = true from fun z => (nomatch (show false = true from z)))]
      exact hN rfl
    | some pp =>
      simp only [plD] at hP hN ⊢
      walk_at "gq"
      rw [if_pos (show (!Gw.isNon (.tup (pp.map .int))) = true from rfl)]
      exact hP rfl
  rw [List.nil_append, numR_lines, show linesF ((0 : Nat) : Int) (rowsG p) = linesG p from rfl]
  walk_at "gq"
  refine aReprN_of lf ?_
  walk_at "gq"
  refine ⟨p, rfl, ok, ?_⟩
  walk_at "gq"
  refine aReprN_of lf ?_
  walk_at "gq"
  refine ⟨p, rfl, ok, ?_⟩
  walk_at "gq"
  refine aReprN_of lf ?_
  walk_at "gq"
  exact hA _ _ _ _ _ _ g2 s2 hs2
theorem rd_law : ∀ ds M Q, S_law ds M Q → as_law (endsOf Q) (slots N_law.length ds) M := by
  rintro ds M Q ⟨ns, rfl, rfl, ⟨nl, hq⟩⟩
  show as_law (endsOf Q) [.dat (.scr (ns.map .int)), .non, .non, .non, .non, .non, .non, .non, .non, .non] _
  unfold as_law
  walk_at "gw"
  have t4 : (0 : Int) ≤ (if (if 4 < ((ns.map D.int).length : Int) then (4 : Int) else ((ns.map D.int).length : Int)) > 1 then (if 4 < ((ns.map D.int).length : Int) then (4 : Int) else ((ns.map D.int).length : Int)) else 1) ∧ (if (if 4 < ((ns.map D.int).length : Int) then (4 : Int) else ((ns.map D.int).length : Int)) > 1 then (if 4 < ((ns.map D.int).length : Int) then (4 : Int) else ((ns.map D.int).length : Int)) else 1) ≤ 4 := by
    split <;> split <;> omega
  refine ⟨⟨by omega, by omega⟩, ?_⟩
  refine forR (fun i k Γ M' => ∃ (s1 s2 s3 s4 s5 s6 s7 s8 s9 : Slot), 0 ≤ i ∧ i + k ≤ 4 ∧ Γ = [.dat (.scr (ns.map .int)), s1, s2, s3, s4, s5, s6, s7, s8, s9]) ?_ ?_ _ ⟨_, _, _, _, _, _, _, _, _, by decide, by omega, rfl⟩
  · rintro i Γ M' ⟨s1, s2, s3, s4, s5, s6, s7, s8, s9, -, -, rfl⟩
    unfold as_law_t3
    walk_at "gw"
    exact hq _
  rintro i k Γ M0 K ⟨s1, s2, s3, s4, s5, s6, s7, s8, s9, i0, i1, rfl⟩ hK
  unfold as_law_b2
  walk_at "gw"
  refine ⟨ns, i, rfl, i0, by omega, ?_⟩
  intro a g s ha o
  walk_at "gw"
  refine ⟨by decide, ?_⟩
  refine forR (fun j k Γ M' => ∃ (g s : Int) (s3 s4 s5 s6 s7 s8 s9 : Slot), HOk g s ∧ M' = HP [] a g s M0 ∧ Γ = [.dat (.scr (ns.map .int)), .dat (.int i), .dat (.ref a), s3, s4, s5, s6, s7, s8, s9]) ?_ ?_ _ ⟨g, s, _, _, _, _, _, _, _, o, rfl, rfl⟩
  · rintro j Γ M' ⟨g, s, s3, s4, s5, s6, s7, s8, s9, o, rfl, rfl⟩
    exact hK _ _ ⟨_, _, _, _, _, _, _, _, _, by omega, by omega, rfl⟩
  · rintro j k' Γ M' K' ⟨g, s, s3, s4, s5, s6, s7, s8, s9, o, rfl, rfl⟩ hK'
    show as_law_b1 _ _ _
    exact law_b1 ⟨List.not_mem_nil, ha⟩ o fun y4 y5 y6 y7 y8 y9 g' s' o' => hK' _ _ ⟨g', s', _, _, _, _, _, _, _, o', rfl, rfl⟩

open PyProof.Rows
structure Txt (w : World) (K : PySem.W.Frag) (mg : Str → Option Value) : Prop where
  isinstance : mg "isinstance" = none
  str : mg "str" = none
  len : mg "len" = none
  all : mg "all" = none
  tuple : mg "tuple" = none
  set : mg "set" = none
  zip : mg "zip" = none
  list : mg "list" = none
  enumerate : mg "enumerate" = none
  int : mg "int" = none
  abs : mg "abs" = none
  range : mg "range" = none
  sum : mg "sum" = none
  max : mg "max" = none
  min : mg "min" = none
  repr : mg "repr" = none
  g_MOST_SIGNS : Glob K mg "MOST_SIGNS" (.int 8)
  g_WORDS : Glob K mg "WORDS" (.tup [.str "not", .str "half", .str "turn", .str "phase", .str "flip", .str "cross", .str "under", .str "back", .str "borrow", .str "around", .str "call", .str "times", .str "look", .str "when", .str "wires", .str "body", .str "end", .str "with"])
  g_LETTERS : Glob K mg "LETTERS" (.str "abcdefghijklmnopqrstuvwxyz")
  g_FIGURES : Glob K mg "FIGURES" (.str "0123456789")
  g_MOST_BODIES : Glob K mg "MOST_BODIES" (.int 8)
  g_MOST_DEEP : Glob K mg "MOST_DEEP" (.int 6)
  g_MOST_DEEDS : Glob K mg "MOST_DEEDS" (.int 60)
  d_DEED_PARTS : GloD K w mg "DEED_PARTS" G_DEED_PARTS
  o_Opened : ClsP K "Opened" ["word", "parts", "lots"]
  o_Lines : ClsP K "Lines" ["wires", "bodies", "own_deeds", "opened", "many"]
section
variable {P : Program} {w : World} {K : PySem.W.Frag} {mg : Str → Option Value} {base : Heap}
theorem sc_is_name : FnScope N_is_name ["thing"] (defScope s_is_name) := ⟨rfl, rfl, rfl, by decide +kernel, rfl, by decide +kernel, by decide +kernel⟩
theorem walk_is_name (T : Txt w K mg) {f : Addr} {cd : Value} {A : Around} {outer : List Env} {s : Shared} {H : Hp} {E : XK} {ρ : Ent} (hr : Room 0 (A.deeper (envOfC "is_name" (defScope s_is_name) s.heap.objs.size f cd))) (gd : A.guards = some []) :
    ∃ ts, QSs (cxOf CX0 P w K mg base N_is_name "is_name" (defScope s_is_name) f cd A outer s H E).nox ρ (defBody s_is_name) ts as_is_name := ⟨_, (qss_cons (qs_if (QW.qt (qw_or (qt_not (qt_val (q_isi .str T.isinstance T.str (qv 0)))) (qw_or (qt_not (qt_chain c_le c_le q_int (q_lenTx T.len (qv 0)) (q_glob T.g_MOST_SIGNS))) (qw_or1 (qt_cmp c_in (qv 0) (q_glob T.g_WORDS)))))) (qss_one (qs_ret q_bl)) qss_nil)
    (qss_one (qs_ret (q_all T.all (q_comp (own := [("sign", 1)]) sc_is_name.nd (qi_str (qv 0)) (blkOk_by (own := [("sign", 1)]) (N := N_is_name) (sc := defScope s_is_name) (by decide +kernel)) (fun _ _ _ _ _ => (qg_name 1 sc_is_name.nd)) (fun _ _ _ _ _ => qts_nil) (fun _ _ _ _ _ => (q_cmp c_inSg (qv 1) (q_glob T.g_LETTERS))) s)))))⟩
theorem sc_are_names : FnScope N_are_names ["thing", "low", "high"] (defScope s_are_names) := ⟨rfl, rfl, rfl, by decide +kernel, rfl, by decide +kernel, by decide +kernel⟩
theorem walk_are_names (T : Txt w K mg) (c_is_name : Cal P w K mg base "is_name" ["thing"] 1 S_is_name) {f : Addr} {cd : Value} {A : Around} {outer : List Env} {s : Shared} {H : Hp} {E : XK} {ρ : Ent} (hr : Room 1 (A.deeper (envOfC "are_names" (defScope s_are_names) s.heap.objs.size f cd))) (gd : A.guards = some []) :
    ∃ ts, QSs (cxOf CX0 P w K mg base N_are_names "are_names" (defScope s_are_names) f cd A outer s H E).nox ρ (defBody s_are_names) ts as_are_names := ⟨_, (qss_one (qs_ret (q_and (q_isi .tuple T.isinstance T.tuple (qv 0)) (q_and (q_chain c_le c_le (qv 1) (q_len T.len (qv 0)) (qv 2)) (q_one (q_all T.all (q_comp (own := [("name", 3)]) sc_are_names.nd (qi_tup (qv 0)) (blkOk_by (own := [("name", 3)]) (N := N_are_names) (sc := defScope s_are_names) (by decide +kernel)) (fun _ _ _ _ _ => (qg_name 3 sc_are_names.nd)) (fun _ _ _ _ _ => qts_nil) (fun _ _ _ _ _ => (q_callC c_is_name (hr.mono (by decide)) gd (qa_cons (qv 3) qa_nil))) s)))))))⟩
theorem sc_are_unlike : FnScope N_are_unlike ["things"] (defScope s_are_unlike) := ⟨rfl, rfl, rfl, by decide +kernel, rfl, by decide +kernel, by decide +kernel⟩
theorem walk_are_unlike (T : Txt w K mg) {f : Addr} {cd : Value} {A : Around} {outer : List Env} {s : Shared} {H : Hp} {E : XK} {ρ : Ent} (hr : Room 0 (A.deeper (envOfC "are_unlike" (defScope s_are_unlike) s.heap.objs.size f cd))) (gd : A.guards = some []) :
    ∃ ts, QSs (cxOf CX0 P w K mg base N_are_unlike "are_unlike" (defScope s_are_unlike) f cd A outer s H E).nox ρ (defBody s_are_unlike) ts as_are_unlike := ⟨_, (qss_one (qs_ret (q_cmp (c_eq hr.units) (q_lenSetS T.len T.set (qv 0)) (q_len T.len (qv 0)))))⟩
theorem sc_head_of : FnScope N_head_of ["deed"] (defScope s_head_of) := ⟨rfl, rfl, rfl, by decide +kernel, rfl, by decide +kernel, by decide +kernel⟩
theorem walk_head_of (T : Txt w K mg) {f : Addr} {cd : Value} {A : Around} {outer : List Env} {s : Shared} {H : Hp} {E : XK} {ρ : Ent} (hr : Room 0 (A.deeper (envOfC "head_of" (defScope s_head_of) s.heap.objs.size f cd))) (gd : A.guards = some []) :
    ∃ ts, QSs (cxOf CX0 P w K mg base N_head_of "head_of" (defScope s_head_of) f cd A outer s H E).nox ρ (defBody s_head_of) ts as_head_of := ⟨_, (qss_cons (qs_unpS 2 1 (qv 0) (qgs_cons (qg_name 1 sc_head_of.nd) (qgs_starred (qg_name 2 sc_head_of.nd) qgs_nil)))
    (qss_cons (qs_set 3 sc_head_of.nd (q_lst (qa_cons (qv 1) qa_nil)))
    (qss_cons (qs_for (qi_zipS T.zip (qa_cons (q_gget T.d_DEED_PARTS (qv 1)) (qa_cons (qv 2) qa_nil))) (qg_tup (qgs_cons (qg_name 4 sc_head_of.nd) (qgs_cons (qg_name 5 sc_head_of.nd) qgs_nil))) (qss_one (qs_if (qt_cmp c_eqS (qv 4) q_str) (qss_one (qs_expr (q_extend (qv 3) (qa_cons (q_list T.list (qv 5)) qa_nil)))) (qss_one (qs_if (qt_cmp c_neS (qv 4) q_str) (qss_one (qs_expr (q_append (qv 3) (qa_cons (q_strW T.str (qv 5)) qa_nil)))) qss_nil)))))
    (qss_one (qs_ret (q_join q_str (qv 3)))))))⟩
theorem sc_rows_of_deed : FnScope N_rows_of_deed ["deed", "place"] (defScope s_rows_of_deed) := ⟨rfl, rfl, rfl, by decide +kernel, rfl, by decide +kernel, by decide +kernel⟩
theorem walk_rows_of_deed (T : Txt w K mg) (c_head_of : Cal P w K mg base "head_of" ["deed"] 1 S_head_of) {n : Nat} (r_rows_of_deeds : Cal P w K mg base "rows_of_deeds" ["deeds", "place", "begin"] (2 + n) (R_rows_of_deeds n)) {f : Addr} {cd : Value} {A : Around} {outer : List Env} {s : Shared} {H : Hp} {E : XK} {ρ : Ent} (hr : Room (2 + n) (A.deeper (envOfC "rows_of_deed" (defScope s_rows_of_deed) s.heap.objs.size f cd))) (gd : A.guards = some []) :
    ∃ ts, QSs (cxOf CX0 P w K mg base N_rows_of_deed "rows_of_deed" (defScope s_rows_of_deed) f cd A outer s H E).nox ρ (defBody s_rows_of_deed) ts (as_rows_of_deed n) := ⟨_, (qss_cons (qs_setLcF 2 (own := [("sort", 7), ("part", 8)]) sc_rows_of_deed.nd (qi_zipS T.zip (qa_cons (q_gget T.d_DEED_PARTS (q_ixS (qv 0) q_int)) (qa_cons (q_sl (qv 0) (qo_some q_int) qo_none) qa_nil))) (blkOk_by (own := [("sort", 7), ("part", 8)]) (N := N_rows_of_deed) (sc := defScope s_rows_of_deed) (by decide +kernel)) (fun _ _ _ _ _ => (qg_tup (qgs_cons (qg_name 7 sc_rows_of_deed.nd) (qgs_cons (qg_name 8 sc_rows_of_deed.nd) qgs_nil)))) (fun _ _ _ _ _ => (qts_one (qt_cmp c_eqS (qv 7) q_str))) (fun _ _ _ _ _ => (qv 8)) s)
    (qss_cons (qs_set 3 sc_rows_of_deed.nd (q_lst (qa_cons (q_tup (qa_cons (q_callC c_head_of (hr.mono (by omega)) gd (qa_cons (qv 0) qa_nil)) (qa_cons (qv 1) qa_nil))) qa_nil)))
    (qss_cons (qs_setF 4 sc_rows_of_deed.nd q_int)
    (qss_cons (qs_for (qi_enumL T.enumerate (qa_cons (qv 2) qa_nil)) (qg_tup (qgs_cons (qg_name 5 sc_rows_of_deed.nd) (qgs_cons (qg_name 6 sc_rows_of_deed.nd) qgs_nil))) (qss_cons (qs_if (qt_cmp c_gt (qv 5) q_int) (qss_one (qs_expr (q_append (qv 3) (qa_cons (q_tup (qa_cons q_str (qa_cons q_non qa_nil))) qa_nil)))) qss_nil)
    (qss_cons (qs_expr (q_extend (qv 3) (qa_cons (q_callC r_rows_of_deeds (hr.mono (by omega)) gd (qa_cons (qv 6) (qa_cons (qv 1) (qa_cons (qv 4) qa_nil)))) qa_nil)))
    (qss_one (qs_augA 4 sc_rows_of_deed.nd (q_len T.len (qv 6)))))))
    (qss_one (qs_ret (q_cat (qv 3) (q_rep (q_lst (qa_cons (q_tup (qa_cons q_str (qa_cons q_non qa_nil))) qa_nil)) (q_intB T.int (q_cmp (c_neL0 hr.units) (qv 2) (q_lst qa_nil)))))))))))⟩
theorem sc_rows_of_deeds : FnScope N_rows_of_deeds ["deeds", "place", "begin"] (defScope s_rows_of_deeds) := ⟨rfl, rfl, rfl, by decide +kernel, rfl, by decide +kernel, by decide +kernel⟩
theorem walk_rows_of_deeds (T : Txt w K mg) {n : Nat} (r_rows_of_deed : Cal P w K mg base "rows_of_deed" ["deed", "place"] (2 + n) (R_rows_of_deed n)) {f : Addr} {cd : Value} {A : Around} {outer : List Env} {s : Shared} {H : Hp} {E : XK} {ρ : Ent} (hr : Room (2 + n) (A.deeper (envOfC "rows_of_deeds" (defScope s_rows_of_deeds) s.heap.objs.size f cd))) (gd : A.guards = some []) :
    ∃ ts, QSs (cxOf CX0 P w K mg base N_rows_of_deeds "rows_of_deeds" (defScope s_rows_of_deeds) f cd A outer s H E).nox ρ (defBody s_rows_of_deeds) ts (as_rows_of_deeds n) := ⟨_, (qss_one (qs_ret (q_comp2 [5] (own := [("number", 3), ("deed", 4), ("row", 5)]) sc_rows_of_deeds.nd (qi_enumT T.enumerate (qa_cons (qv 0) qa_nil)) (blkOk_by (own := [("number", 3), ("deed", 4), ("row", 5)]) (N := N_rows_of_deeds) (sc := defScope s_rows_of_deeds) (by decide +kernel)) (fun _ _ _ _ _ => (qg_tup (qgs_cons (qg_name 3 sc_rows_of_deeds.nd) (qgs_cons (qg_name 4 sc_rows_of_deeds.nd) qgs_nil)))) (fun _ _ _ _ _ => qts_nil) (fun _ _ _ _ _ => (qi_list (q_callC r_rows_of_deed (hr.mono (by omega)) gd (qa_cons (qv 4) (qa_cons (q_catT (qv 1) (q_tup (qa_cons (q_add (qv 2) (qv 3)) qa_nil))) qa_nil))))) (fun _ _ _ _ _ => (qg_name 5 sc_rows_of_deeds.nd)) (fun _ _ _ _ _ => qts_nil) (fun _ _ _ _ _ => (qv 5)) s)))⟩
theorem sc_rows_shown : FnScope N_rows_shown ["program"] (defScope s_rows_shown) := ⟨rfl, rfl, rfl, by decide +kernel, rfl, by decide +kernel, by decide +kernel⟩
theorem walk_rows_shown (T : Txt w K mg) (c_rows_of_deeds : Cal P w K mg base "rows_of_deeds" ["deeds", "place", "begin"] 15 S_rows_of_deeds) {f : Addr} {cd : Value} {A : Around} {outer : List Env} {s : Shared} {H : Hp} {E : XK} {ρ : Ent} (hr : Room 15 (A.deeper (envOfC "rows_shown" (defScope s_rows_shown) s.heap.objs.size f cd))) (gd : A.guards = some []) :
    ∃ ts, QSs (cxOf CX0 P w K mg base N_rows_shown "rows_shown" (defScope s_rows_shown) f cd A outer s H E).nox ρ (defBody s_rows_shown) ts as_rows_shown := ⟨_, (qss_cons (qs_unp (qv 0) (qg_tup (qgs_cons (qg_name 1 sc_rows_shown.nd) (qgs_cons (qg_name 2 sc_rows_shown.nd) (qgs_cons (qg_name 3 sc_rows_shown.nd) qgs_nil)))))
    (qss_cons (qs_set 4 sc_rows_shown.nd (q_lst (qa_cons (q_tup (qa_cons (q_join q_str (q_catT (q_tup (qa_cons q_str qa_nil)) (qv 1))) (qa_cons q_non qa_nil))) qa_nil)))
    (qss_cons (qs_for (qi_enumT T.enumerate (qa_cons (qv 2) qa_nil)) (qg_tup (qgs_cons (qg_name 5 sc_rows_shown.nd) (qgs_cons (qg_tup (qgs_cons (qg_name 6 sc_rows_shown.nd) (qgs_cons (qg_name 7 sc_rows_shown.nd) (qgs_cons (qg_name 8 sc_rows_shown.nd) qgs_nil)))) qgs_nil))) (qss_cons (qs_expr (q_append (qv 4) (qa_cons (q_tup (qa_cons (q_join q_str (q_catT (q_tup (qa_cons q_str (qa_cons (qv 6) qa_nil))) (qv 7))) (qa_cons q_non qa_nil))) qa_nil)))
    (qss_cons (qs_expr (q_extend (qv 4) (qa_cons (q_callC c_rows_of_deeds (hr.mono (by decide)) gd (qa_cons (qv 8) (qa_cons (q_tup (qa_cons (qv 5) qa_nil)) (qa_cons q_int qa_nil)))) qa_nil)))
    (qss_one (qs_expr (q_append (qv 4) (qa_cons (q_tup (qa_cons q_str (qa_cons q_non qa_nil))) qa_nil)))))))
    (qss_one (qs_ret (q_cat (qv 4) (q_callC c_rows_of_deeds (hr.mono (by decide)) gd (qa_cons (qv 3) (qa_cons (q_tup (qa_cons (q_len T.len (qv 2)) qa_nil)) (qa_cons q_int qa_nil))))))))))⟩
theorem sc_show : FnScope N_show ["program"] (defScope s_show) := ⟨rfl, rfl, rfl, by decide +kernel, rfl, by decide +kernel, by decide +kernel⟩
theorem walk_show (T : Txt w K mg) (c_rows_shown : Cal P w K mg base "rows_shown" ["program"] 16 S_rows_shown) {f : Addr} {cd : Value} {A : Around} {outer : List Env} {s : Shared} {H : Hp} {E : XK} {ρ : Ent} (hr : Room 16 (A.deeper (envOfC "show" (defScope s_show) s.heap.objs.size f cd))) (gd : A.guards = some []) :
    ∃ ts, QSs (cxOf CX0 P w K mg base N_show "show" (defScope s_show) f cd A outer s H E).nox ρ (defBody s_show) ts as_show := ⟨_, (qss_one (qs_ret (q_join q_str (q_comp (own := [("line", 1), ("place", 2)]) sc_show.nd (qi_list (q_callC c_rows_shown (hr.mono (by decide)) gd (qa_cons (qv 0) qa_nil))) (blkOk_by (own := [("line", 1), ("place", 2)]) (N := N_show) (sc := defScope s_show) (by decide +kernel)) (fun _ _ _ _ _ => (qg_tup (qgs_cons (qg_name 1 sc_show.nd) (qgs_cons (qg_name 2 sc_show.nd) qgs_nil)))) (fun _ _ _ _ _ => qts_nil) (fun _ _ _ _ _ => (qv 1)) s))))⟩
theorem sc_part_of_word : FnScope N_part_of_word ["sort", "word"] (defScope s_part_of_word) := ⟨rfl, rfl, rfl, by decide +kernel, rfl, by decide +kernel, by decide +kernel⟩
theorem walk_part_of_word (T : Txt w K mg) (c_is_name : Cal P w K mg base "is_name" ["thing"] 1 S_is_name) {f : Addr} {cd : Value} {A : Around} {outer : List Env} {s : Shared} {H : Hp} {E : XK} {ρ : Ent} (hr : Room 1 (A.deeper (envOfC "part_of_word" (defScope s_part_of_word) s.heap.objs.size f cd))) (gd : A.guards = some []) :
    ∃ ts, QSs (cxOf CX0 P w K mg base N_part_of_word "part_of_word" (defScope s_part_of_word) f cd A outer s H E).nox ρ (defBody s_part_of_word) ts as_part_of_word := ⟨_, (qss_cons (qs_if (qt_cmp c_eqS (qv 0) q_str) (qss_one (qs_ret (q_ifExp (qt_val (q_callC c_is_name (hr.mono (by decide)) gd (qa_cons (qv 1) qa_nil))) (qv 1) q_non))) qss_nil)
    (qss_cons (qs_if (QW.qt (qw_or (qt_cmp (c_ne hr.units) (q_lenTx T.len (qv 1)) q_int) (qw_or1 (qt_cmp c_notInSg (qv 1) (q_glob T.g_FIGURES))))) (qss_one (qs_ret q_non)) qss_nil)
    (qss_cons (qs_setF 2 sc_part_of_word.nd (q_intS T.int (qv 1)))
    (qss_one (qs_ret (q_ifExp (QW.qt (qw_or (qt_cmp c_eqS (qv 0) q_str) (qw_or1 (qt_chain c_le c_le q_int (qv 2) q_int)))) (qv 2) q_non))))))⟩
theorem sc_head_parts : FnScope N_head_parts ["words"] (defScope s_head_parts) := ⟨rfl, rfl, rfl, by decide +kernel, rfl, by decide +kernel, by decide +kernel⟩
theorem walk_head_parts (T : Txt w K mg) (c_is_name : Cal P w K mg base "is_name" ["thing"] 1 S_is_name) (c_are_names : CalD P w K mg base "are_names" ["thing", "low", "high"] 2 S_are_names [.int 1, .int 5] [.int 1, .int 5]) (c_part_of_word : Cal P w K mg base "part_of_word" ["sort", "word"] 2 S_part_of_word) {f : Addr} {cd : Value} {A : Around} {outer : List Env} {s : Shared} {H : Hp} {E : XK} {ρ : Ent} (hr : Room 2 (A.deeper (envOfC "head_parts" (defScope s_head_parts) s.heap.objs.size f cd))) (gd : A.guards = some []) :
    ∃ ts, QSsT (cxOf CX0 P w K mg base N_head_parts "head_parts" (defScope s_head_parts) f cd A outer s H E).nox ρ (defBody s_head_parts) ts as_head_parts := ⟨_, (qssT_cons (qs_unpSL 2 1 (qv 0) (qgs_cons (qg_name 1 sc_head_parts.nd) (qgs_starred (qg_name 2 sc_head_parts.nd) qgs_nil)))
    (qssT_cons (qs_if (qt_gnotin T.d_DEED_PARTS (qv 1)) (qss_one (qs_ret q_non)) qss_nil)
    (qssT_cons2 (qsT_setF 3 sc_head_parts.nd (q_replC (q_gget T.d_DEED_PARTS (qv 1))))
    (qssT_cons (qs_if (qt_cmp c_eqS (qv 1) q_str) (qss_cons (qs_setF 4 sc_head_parts.nd (q_tuple T.tuple (q_sl (qv 2) (qo_some q_int) qo_none)))
    (qss_one (qs_ret (q_ifExp (QW.qt (qw_and (qt_cmp (c_neL0 hr.units) (qv 2) (q_lst qa_nil)) (qw_and (qt_val (q_callC c_is_name (hr.mono (by decide)) gd (qa_cons (q_ixS (qv 2) q_int) qa_nil))) (qw_and1 (qt_val (q_callD c_are_names (hr.mono (by decide)) gd (qa_cons (qv 4) qa_nil))))))) (q_tup (qa_cons (q_ixS (qv 2) q_int) (qa_cons (qv 4) qa_nil))) q_non)))) qss_nil)
    (qssT_cons (qs_if (qt_cmp (c_ne hr.units) (q_len T.len (qv 2)) (q_lenTx T.len (qv 3))) (qss_one (qs_ret q_non)) qss_nil)
    (qssT_cons (qs_setF 5 sc_head_parts.nd (q_tuple T.tuple (q_comp (own := [("sort", 6), ("other", 7)]) sc_head_parts.nd (qi_zipS T.zip (qa_cons (qv 3) (qa_cons (qv 2) qa_nil))) (blkOk_by (own := [("sort", 6), ("other", 7)]) (N := N_head_parts) (sc := defScope s_head_parts) (by decide +kernel)) (fun _ _ _ _ _ => (qg_tup (qgs_cons (qg_name 6 sc_head_parts.nd) (qgs_cons (qg_name 7 sc_head_parts.nd) qgs_nil)))) (fun _ _ _ _ _ => qts_nil) (fun _ _ _ _ _ => (q_callC c_part_of_word (hr.mono (by decide)) gd (qa_cons (qv 6) (qa_cons (qv 7) qa_nil)))) s)))
    (qssT_of (qss_one (qs_ret (q_ifExp (qt_cmp c_in q_non (qv 5)) q_non (qv 5)))))))))))⟩
theorem sc_Opened___init__ : FnScope N_Opened___init__ ["self", "word", "parts"] (defScope s_Opened___init__) := ⟨rfl, rfl, rfl, by decide +kernel, rfl, by decide +kernel, by decide +kernel⟩
theorem walk_Opened___init__ (T : Txt w K mg) {f : Addr} {cd : Value} {A : Around} {outer : List Env} {s : Shared} {H : Hp} {E : XK} {ρ : Ent} (hr : Room 0 (A.deeper (envOfC "Opened.__init__" (defScope s_Opened___init__) s.heap.objs.size f cd))) (gd : A.guards = some []) :
    ∃ ts, QSs (cxOf CX0 P w K mg base N_Opened___init__ "Opened.__init__" (defScope s_Opened___init__) f cd A outer s H E).nox ρ (defBody s_Opened___init__) ts as_Opened___init__ := ⟨_, (qss_cons (qs_fld T.o_Opened (qv 1) (qv 0))
    (qss_cons (qs_fld T.o_Opened (qv 2) (qv 0))
    (qss_one (qs_fld T.o_Opened (q_sh (q_lst (qa_cons (q_sh (q_lst qa_nil)) qa_nil))) (qv 0)))))⟩
theorem sc_Opened_wants_with : FnScope N_Opened_wants_with ["self"] (defScope s_Opened_wants_with) := ⟨rfl, rfl, rfl, by decide +kernel, rfl, by decide +kernel, by decide +kernel⟩
theorem walk_Opened_wants_with (T : Txt w K mg) {f : Addr} {cd : Value} {A : Around} {outer : List Env} {s : Shared} {H : Hp} {E : XK} {ρ : Ent} (hr : Room 0 (A.deeper (envOfC "Opened.wants_with" (defScope s_Opened_wants_with) s.heap.objs.size f cd))) (gd : A.guards = some []) :
    ∃ ts, QSs (cxOf CX0 P w K mg base N_Opened_wants_with "Opened.wants_with" (defScope s_Opened_wants_with) f cd A outer s H E).nox ρ (defBody s_Opened_wants_with) ts as_Opened_wants_with := ⟨_, (qss_one (qs_ret (q_and (q_cmp c_eqS (q_fld T.o_Opened (qv 0)) q_str) (q_one (q_cmp (c_eq hr.units) (q_len T.len (q_fld T.o_Opened (qv 0))) q_int)))))⟩
theorem sc_Lines___init__ : FnScope N_Lines___init__ ["self"] (defScope s_Lines___init__) := ⟨rfl, rfl, rfl, by decide +kernel, rfl, by decide +kernel, by decide +kernel⟩
theorem walk_Lines___init__ (T : Txt w K mg) {f : Addr} {cd : Value} {A : Around} {outer : List Env} {s : Shared} {H : Hp} {E : XK} {ρ : Ent} (hr : Room 0 (A.deeper (envOfC "Lines.__init__" (defScope s_Lines___init__) s.heap.objs.size f cd))) (gd : A.guards = some []) :
    ∃ ts, QSs (cxOf CX0 P w K mg base N_Lines___init__ "Lines.__init__" (defScope s_Lines___init__) f cd A outer s H E).nox ρ (defBody s_Lines___init__) ts as_Lines___init__ := ⟨_, (qss_cons (qs_fld T.o_Lines q_non (qv 0))
    (qss_cons (qs_fld T.o_Lines (q_sh (q_lst qa_nil)) (qv 0))
    (qss_cons (qs_fld T.o_Lines (q_sh (q_lst qa_nil)) (qv 0))
    (qss_cons (qs_fld T.o_Lines (q_sh (q_lst qa_nil)) (qv 0))
    (qss_one (qs_fld T.o_Lines q_int (qv 0)))))))⟩
theorem sc_Lines_put : FnScope N_Lines_put ["self", "deed"] (defScope s_Lines_put) := ⟨rfl, rfl, rfl, by decide +kernel, rfl, by decide +kernel, by decide +kernel⟩
theorem walk_Lines_put (T : Txt w K mg) {f : Addr} {cd : Value} {A : Around} {outer : List Env} {s : Shared} {H : Hp} {E : XK} {ρ : Ent} (hr : Room 0 (A.deeper (envOfC "Lines.put" (defScope s_Lines_put) s.heap.objs.size f cd))) (gd : A.guards = some []) :
    ∃ ts, QSs (cxOf CX0 P w K mg base N_Lines_put "Lines.put" (defScope s_Lines_put) f cd A outer s H E).nox ρ (defBody s_Lines_put) ts as_Lines_put := ⟨_, (qss_cons (qs_set 2 sc_Lines_put.nd (q_ifExp (qt_cmp (c_neL0 hr.units) (q_fld T.o_Lines (qv 0)) (q_lst qa_nil)) (q_ixS (q_fld T.o_Opened (q_ixS (q_fld T.o_Lines (qv 0)) (q_neg q_int))) (q_neg q_int)) (q_fld T.o_Lines (qv 0))))
    (qss_one (qs_expr (q_append (qv 2) (qa_cons (qv 1) qa_nil)))))⟩
theorem sc_Lines_takes_wires : FnScope N_Lines_takes_wires ["self", "names"] (defScope s_Lines_takes_wires) := ⟨rfl, rfl, rfl, by decide +kernel, rfl, by decide +kernel, by decide +kernel⟩
theorem walk_Lines_takes_wires (T : Txt w K mg) (c_are_names : CalD P w K mg base "are_names" ["thing", "low", "high"] 2 S_are_names [.int 1, .int 5] [.int 1, .int 5]) (c_are_unlike : Cal P w K mg base "are_unlike" ["things"] 1 S_are_unlike) {f : Addr} {cd : Value} {A : Around} {outer : List Env} {s : Shared} {H : Hp} {E : XK} {ρ : Ent} (hr : Room 2 (A.deeper (envOfC "Lines.takes_wires" (defScope s_Lines_takes_wires) s.heap.objs.size f cd))) (gd : A.guards = some []) :
    ∃ ts, QSs (cxOf CX0 P w K mg base N_Lines_takes_wires "Lines.takes_wires" (defScope s_Lines_takes_wires) f cd A outer s H E).nox ρ (defBody s_Lines_takes_wires) ts as_Lines_takes_wires := ⟨_, (qss_cons (qs_fld T.o_Lines (qv 1) (qv 0))
    (qss_one (qs_ret (q_and (q_callD c_are_names (hr.mono (by decide)) gd (qa_cons (qv 1) qa_nil)) (q_one (q_callC c_are_unlike (hr.mono (by decide)) gd (qa_cons (qv 1) qa_nil)))))))⟩
theorem sc_Lines_takes_body : FnScope N_Lines_takes_body ["self", "words"] (defScope s_Lines_takes_body) := ⟨rfl, rfl, rfl, by decide +kernel, rfl, by decide +kernel, by decide +kernel⟩
theorem walk_Lines_takes_body (T : Txt w K mg) (c_is_name : Cal P w K mg base "is_name" ["thing"] 1 S_is_name) (c_Opened___init__ : CalI P w K mg base "Opened" ["self", "word", "parts"] 1 S_Opened___init__) (c_are_names : CalD P w K mg base "are_names" ["thing", "low", "high"] 2 S_are_names [.int 1, .int 5] [.int 1, .int 5]) (c_are_unlike : Cal P w K mg base "are_unlike" ["things"] 1 S_are_unlike) {f : Addr} {cd : Value} {A : Around} {outer : List Env} {s : Shared} {H : Hp} {E : XK} {ρ : Ent} (hr : Room 2 (A.deeper (envOfC "Lines.takes_body" (defScope s_Lines_takes_body) s.heap.objs.size f cd))) (gd : A.guards = some []) :
    ∃ ts, QSs (cxOf CX0 P w K mg base N_Lines_takes_body "Lines.takes_body" (defScope s_Lines_takes_body) f cd A outer s H E).nox ρ (defBody s_Lines_takes_body) ts as_Lines_takes_body := ⟨_, (qss_cons (qs_if (QW.qt (qw_or (qt_cmp (c_neL0 hr.units) (q_fld T.o_Lines (qv 0)) (q_lst qa_nil)) (qw_or (qt_cmp (c_neL0 hr.units) (q_fld T.o_Lines (qv 0)) (q_lst qa_nil)) (qw_or (qt_cmp (c_eq hr.units) (q_len T.len (q_fld T.o_Lines (qv 0))) (q_glob T.g_MOST_BODIES)) (qw_or1 (qt_cmp (c_eqL0 hr.units) (qv 1) (q_lst qa_nil))))))) (qss_one (qs_ret q_bl)) qss_nil)
    (qss_cons (qs_unpSL 2 1 (qv 1) (qgs_cons (qg_name 2 sc_Lines_takes_body.nd) (qgs_starred (qg_name 3 sc_Lines_takes_body.nd) qgs_nil)))
    (qss_cons (qs_if (QW.qt (qw_or (qt_not (qt_val (q_callC c_is_name (hr.mono (by decide)) gd (qa_cons (qv 2) qa_nil)))) (qw_or1 (qt_cmp c_in (qv 2) (q_compM (own := [("body", 4)]) sc_Lines_takes_body.nd (qj_seq (q_fld T.o_Lines (qv 0))) (blkOk_by (own := [("body", 4)]) (N := N_Lines_takes_body) (sc := defScope s_Lines_takes_body) (by decide +kernel)) (fun _ _ _ _ _ => (qg_name 4 sc_Lines_takes_body.nd)) (fun _ _ _ _ _ => qts_nil) (fun _ _ _ _ _ => (q_ixS (qv 4) q_int)) s))))) (qss_one (qs_ret q_bl)) qss_nil)
    (qss_cons (qs_expr (q_append (q_fld T.o_Lines (qv 0)) (qa_cons (q_makeC c_Opened___init__ (hr.mono (by decide)) gd (qa_cons q_str (qa_cons (q_tup (qa_cons (qv 2) (qa_cons (q_tuple T.tuple (qv 3)) qa_nil))) qa_nil))) qa_nil)))
    (qss_one (qs_ret (q_and (q_callD c_are_names (hr.mono (by decide)) gd (qa_cons (q_tuple T.tuple (qv 3)) qa_nil)) (q_one (q_callC c_are_unlike (hr.mono (by decide)) gd (qa_cons (qv 3) qa_nil))))))))))⟩
theorem sc_Lines_takes_turn : FnScope N_Lines_takes_turn ["self", "word"] (defScope s_Lines_takes_turn) := ⟨rfl, rfl, rfl, by decide +kernel, rfl, by decide +kernel, by decide +kernel⟩
theorem walk_Lines_takes_turn (T : Txt w K mg) (c_Opened_wants_with : CalM P w K mg base "Opened" "wants_with" ["self"] 1 S_Opened_wants_with) (c_Lines_put : CalM P w K mg base "Lines" "put" ["self", "deed"] 1 S_Lines_put) {f : Addr} {cd : Value} {A : Around} {outer : List Env} {s : Shared} {H : Hp} {E : XK} {ρ : Ent} (hr : Room 1 (A.deeper (envOfC "Lines.takes_turn" (defScope s_Lines_takes_turn) s.heap.objs.size f cd))) (gd : A.guards = some []) :
    ∃ ts, QSs (cxOf CX0 P w K mg base N_Lines_takes_turn "Lines.takes_turn" (defScope s_Lines_takes_turn) f cd A outer s H E).nox ρ (defBody s_Lines_takes_turn) ts as_Lines_takes_turn := ⟨_, (qss_cons (qs_setF 2 sc_Lines_takes_turn.nd (q_ixS (q_fld T.o_Lines (qv 0)) (q_neg q_int)))
    (qss_cons (qs_if (QW.qt (qw_or (qt_cmp c_eqS (qv 1) q_str) (qw_or1 (qt_val (q_methC0 c_Opened_wants_with (hr.mono (by decide)) gd (qv 2) ))))) (qss_cons (qs_expr (q_append (q_fld T.o_Opened (qv 2)) (qa_cons (q_sh (q_lst qa_nil)) qa_nil)))
    (qss_one (qs_ret (q_and (q_cmp c_eqS (qv 1) q_str) (q_and (q_cmp c_eqS (q_fld T.o_Opened (qv 2)) q_str) (q_one (q_cmp (c_eq hr.units) (q_len T.len (q_fld T.o_Opened (qv 2))) q_int))))))) qss_nil)
    (qss_cons (qs_expr (q_pop (q_fld T.o_Lines (qv 0))))
    (qss_cons (qs_setF 3 sc_Lines_takes_turn.nd (q_catT (q_fld T.o_Opened (qv 2)) (q_tuple T.tuple (q_compM (own := [("some", 4)]) sc_Lines_takes_turn.nd (qj_seq (q_fld T.o_Opened (qv 2))) (blkOk_by (own := [("some", 4)]) (N := N_Lines_takes_turn) (sc := defScope s_Lines_takes_turn) (by decide +kernel)) (fun _ _ _ _ _ => (qg_name 4 sc_Lines_takes_turn.nd)) (fun _ _ _ _ _ => qts_nil) (fun _ _ _ _ _ => (q_tuple T.tuple (qv 4))) s))))
    (qss_cons (qs_if (qt_cmp c_eqS (q_fld T.o_Opened (qv 2)) q_str) (qss_one (qs_expr (q_append (q_fld T.o_Lines (qv 0)) (qa_cons (qv 3) qa_nil)))) (qss_one (qs_expr (q_methC c_Lines_put (hr.mono (by decide)) gd (qv 0) (qa_cons (q_catT (q_tup (qa_cons (q_fld T.o_Opened (qv 2)) qa_nil)) (qv 3)) qa_nil)))))
    (qss_one (qs_ret q_bl)))))))⟩
theorem sc_Lines_takes_deed : FnScope N_Lines_takes_deed ["self", "words"] (defScope s_Lines_takes_deed) := ⟨rfl, rfl, rfl, by decide +kernel, rfl, by decide +kernel, by decide +kernel⟩
theorem walk_Lines_takes_deed (T : Txt w K mg) (c_head_parts : Cal P w K mg base "head_parts" ["words"] 3 S_head_parts) (c_Opened___init__ : CalI P w K mg base "Opened" ["self", "word", "parts"] 1 S_Opened___init__) (c_Lines_put : CalM P w K mg base "Lines" "put" ["self", "deed"] 1 S_Lines_put) {f : Addr} {cd : Value} {A : Around} {outer : List Env} {s : Shared} {H : Hp} {E : XK} {ρ : Ent} (hr : Room 3 (A.deeper (envOfC "Lines.takes_deed" (defScope s_Lines_takes_deed) s.heap.objs.size f cd))) (gd : A.guards = some []) :
    ∃ ts, QSs (cxOf CX0 P w K mg base N_Lines_takes_deed "Lines.takes_deed" (defScope s_Lines_takes_deed) f cd A outer s H E).nox ρ (defBody s_Lines_takes_deed) ts as_Lines_takes_deed := ⟨_, (qss_cons (qs_setF 2 sc_Lines_takes_deed.nd (q_callC c_head_parts (hr.mono (by decide)) gd (qa_cons (qv 1) qa_nil)))
    (qss_cons (qs_setF 3 sc_Lines_takes_deed.nd (q_add (q_len T.len (q_compM (own := [("one", 4)]) sc_Lines_takes_deed.nd (qj_seq (q_fld T.o_Lines (qv 0))) (blkOk_by (own := [("one", 4)]) (N := N_Lines_takes_deed) (sc := defScope s_Lines_takes_deed) (by decide +kernel)) (fun _ _ _ _ _ => (qg_name 4 sc_Lines_takes_deed.nd)) (fun _ _ _ _ _ => (qts_one (qt_cmp c_neS (q_fld T.o_Opened (qv 4)) q_str))) (fun _ _ _ _ _ => (qv 4)) s)) q_int))
    (qss_cons (qs_augF T.o_Lines (qv 0) q_int)
    (qss_cons (qs_if (QW.qt (qw_or (qt_cmp c_isN (qv 2) q_non) (qw_or (qt_cmp c_gt (qv 3) (q_glob T.g_MOST_DEEP)) (qw_or1 (qt_cmp c_gt (q_fld T.o_Lines (qv 0)) (q_glob T.g_MOST_DEEDS)))))) (qss_one (qs_ret q_bl)) qss_nil)
    (qss_cons (qs_if (qt_cmp c_inSg q_str (q_gget T.d_DEED_PARTS (q_ixS (qv 1) q_int))) (qss_one (qs_expr (q_append (q_fld T.o_Lines (qv 0)) (qa_cons (q_makeC c_Opened___init__ (hr.mono (by decide)) gd (qa_cons (q_ixS (qv 1) q_int) (qa_cons (qv 2) qa_nil))) qa_nil)))) (qss_one (qs_expr (q_methC c_Lines_put (hr.mono (by decide)) gd (qv 0) (qa_cons (q_catT (q_tup (qa_cons (q_ixS (qv 1) q_int) qa_nil)) (qv 2)) qa_nil)))))
    (qss_one (qs_ret q_bl)))))))⟩
theorem sc_Lines_takes_line : FnScope N_Lines_takes_line ["self", "line"] (defScope s_Lines_takes_line) := ⟨rfl, rfl, rfl, by decide +kernel, rfl, by decide +kernel, by decide +kernel⟩
theorem walk_Lines_takes_line (T : Txt w K mg) (c_Lines_takes_wires : CalM P w K mg base "Lines" "takes_wires" ["self", "names"] 3 S_Lines_takes_wires) (c_Lines_takes_body : CalM P w K mg base "Lines" "takes_body" ["self", "words"] 3 S_Lines_takes_body) (c_Lines_takes_turn : CalM P w K mg base "Lines" "takes_turn" ["self", "word"] 2 S_Lines_takes_turn) (c_Lines_takes_deed : CalM P w K mg base "Lines" "takes_deed" ["self", "words"] 4 S_Lines_takes_deed) {f : Addr} {cd : Value} {A : Around} {outer : List Env} {s : Shared} {H : Hp} {E : XK} {ρ : Ent} (hr : Room 4 (A.deeper (envOfC "Lines.takes_line" (defScope s_Lines_takes_line) s.heap.objs.size f cd))) (gd : A.guards = some []) :
    ∃ ts, QSs (cxOf CX0 P w K mg base N_Lines_takes_line "Lines.takes_line" (defScope s_Lines_takes_line) f cd A outer s H E).nox ρ (defBody s_Lines_takes_line) ts as_Lines_takes_line := ⟨_, (qss_cons (qs_unpSL 2 1 (q_split (qv 1) q_str) (qgs_cons (qg_name 2 sc_Lines_takes_line.nd) (qgs_starred (qg_name 3 sc_Lines_takes_line.nd) qgs_nil)))
    (qss_cons (qs_if (qt_cmp c_isN (q_fld T.o_Lines (qv 0)) q_non) (qss_one (qs_ret (q_and (q_cmp c_eqS (qv 2) q_str) (q_one (q_methC c_Lines_takes_wires (hr.mono (by decide)) gd (qv 0) (qa_cons (q_tuple T.tuple (qv 3)) qa_nil)))))) qss_nil)
    (qss_cons (qs_if (qt_cmp c_eqS (qv 2) q_str) (qss_one (qs_ret (q_methC c_Lines_takes_body (hr.mono (by decide)) gd (qv 0) (qa_cons (qv 3) qa_nil)))) qss_nil)
    (qss_cons (qs_if (QW.qt (qw_or (qt_cmp c_eqS (qv 2) q_str) (qw_or1 (qt_cmp c_eqS (qv 2) q_str)))) (qss_one (qs_ret (q_and (q_cmp (c_eqL0 hr.units) (qv 3) (q_lst qa_nil)) (q_and (q_cmp (c_neL0 hr.units) (q_fld T.o_Lines (qv 0)) (q_lst qa_nil)) (q_one (q_methC c_Lines_takes_turn (hr.mono (by decide)) gd (qv 0) (qa_cons (qv 2) qa_nil))))))) qss_nil)
    (qss_one (qs_ret (q_methC c_Lines_takes_deed (hr.mono (by decide)) gd (qv 0) (qa_cons (q_cat (q_lst (qa_cons (qv 2) qa_nil)) (qv 3)) qa_nil))))))))⟩
theorem sc_read : FnScope N_read ["text"] (defScope s_read) := ⟨rfl, rfl, rfl, by decide +kernel, rfl, by decide +kernel, by decide +kernel⟩
theorem walk_read (T : Txt w K mg) (c_Lines___init__ : CalI P w K mg base "Lines" ["self"] 1 S_Lines___init__) (c_Lines_takes_line : CalM P w K mg base "Lines" "takes_line" ["self", "line"] 5 S_Lines_takes_line) (x_NoText : Xcl P w K mg base "NoText" ["line"] 1) (ag : Agr K mg) {f : Addr} {cd : Value} {A : Around} {outer : List Env} {s : Shared} {H : Hp} {E : XK} {ρ : Ent} {xw : XW} (hr : Room 5 (A.deeper (envOfC "read" (defScope s_read) s.heap.objs.size f cd))) (gd : A.guards = some []) (cn : Conn K ρ (fun cls d _ H => E cls d H) xw) :
    ∃ ts, QSs (cxOf (L2.CX P w) P w K mg base N_read "read" (defScope s_read) f cd A outer s H E) ρ (defBody s_read) ts (as_read xw) := ⟨_, (qss_cons (qs_if (qt_not (qt_val (q_isi .str T.isinstance T.str (qv 0)))) (qss_one (q_raise x_NoText ag takes_cx cn (hr.mono (by decide)) (qa_cons q_int qa_nil))) qss_nil)
    (qss_cons (qs_par 1 2 sc_read.nd (qa_cons (q_makeC0 c_Lines___init__ (hr.mono (by decide)) gd) (qa_cons (q_split (qv 0) q_str) qa_nil)))
    (qss_cons (qs_for (hp := passes_of rfl) (qi_enumL T.enumerate (qa_cons (qv 2) qa_nil)) (qg_tup (qgs_cons (qg_name 3 sc_read.nd) (qgs_cons (qg_name 4 sc_read.nd) qgs_nil))) (qss_one (qs_if (qt_not (qt_val (q_methC c_Lines_takes_line (hr.mono (by decide)) gd (qv 1) (qa_cons (qv 4) qa_nil)))) (qss_one (q_raise x_NoText ag takes_cx cn (hr.mono (by decide)) (qa_cons (qv 3) qa_nil))) qss_nil)))
    (qss_cons (qs_if (qt_cmp (c_neL0 hr.units) (q_fld T.o_Lines (qv 1)) (q_lst qa_nil)) (qss_one (q_raise x_NoText ag takes_cx cn (hr.mono (by decide)) (qa_cons (q_len T.len (qv 2)) qa_nil))) qss_nil)
    (qss_one (qs_ret (q_tup (qa_cons (q_fld T.o_Lines (qv 1)) (qa_cons (q_tuple T.tuple (q_fld T.o_Lines (qv 1))) (qa_cons (q_tuple T.tuple (q_fld T.o_Lines (qv 1))) qa_nil))))))))))⟩
theorem sc_lines_of : FnScope N_lines_of ["program"] (defScope s_lines_of) := ⟨rfl, rfl, rfl, by decide +kernel, rfl, by decide +kernel, by decide +kernel⟩
theorem walk_lines_of (T : Txt w K mg) (c_rows_shown : Cal P w K mg base "rows_shown" ["program"] 16 S_rows_shown) {f : Addr} {cd : Value} {A : Around} {outer : List Env} {s : Shared} {H : Hp} {E : XK} {ρ : Ent} (hr : Room 16 (A.deeper (envOfC "lines_of" (defScope s_lines_of) s.heap.objs.size f cd))) (gd : A.guards = some []) :
    ∃ ts, QSs (cxOf CX0 P w K mg base N_lines_of "lines_of" (defScope s_lines_of) f cd A outer s H E).nox ρ (defBody s_lines_of) ts as_lines_of := ⟨_, (qss_one (qs_ret (q_tuple T.tuple (q_comp (own := [("number", 1), ("line", 2), ("place", 3)]) sc_lines_of.nd (qi_enumL T.enumerate (qa_cons (q_callC c_rows_shown (hr.mono (by decide)) gd (qa_cons (qv 0) qa_nil)) qa_nil)) (blkOk_by (own := [("number", 1), ("line", 2), ("place", 3)]) (N := N_lines_of) (sc := defScope s_lines_of) (by decide +kernel)) (fun _ _ _ _ _ => (qg_tup (qgs_cons (qg_name 1 sc_lines_of.nd) (qgs_cons (qg_tup (qgs_cons (qg_name 2 sc_lines_of.nd) (qgs_cons (qg_name 3 sc_lines_of.nd) qgs_nil))) qgs_nil)))) (fun _ _ _ _ _ => (qts_one (qt_cmp c_notN (qv 3) q_non))) (fun _ _ _ _ _ => (q_tup (qa_cons (qv 1) (qa_cons (qv 3) qa_nil)))) s))))⟩
theorem sc__law_hand : FnScope N__law_hand ["_law_script", "_law_k"] (defScope s__law_hand) := ⟨rfl, rfl, rfl, by decide +kernel, rfl, by decide +kernel, by decide +kernel⟩
theorem walk__law_hand (T : Txt w K mg) {f : Addr} {cd : Value} {A : Around} {outer : List Env} {s : Shared} {H : Hp} {E : XK} {ρ : Ent} (hr : Room 0 (A.deeper (envOfC "_law_hand" (defScope s__law_hand) s.heap.objs.size f cd))) (gd : A.guards = some []) :
    ∃ ts, QSs (cxOf CX0 P w K mg base N__law_hand "_law_hand" (defScope s__law_hand) f cd A outer s H E).nox ρ (defBody s__law_hand) ts as__law_hand := ⟨_, (qss_cons (qs_setF 2 sc__law_hand.nd (q_add (q_mul q_int (qv 1)) (q_len T.len (qv 0))))
    (qss_cons (qs_if (qt_cmp c_lt (qv 1) (q_len T.len (qv 0))) (qss_one (qs_setF 2 sc__law_hand.nd (q_ixS (qv 0) (qv 1)))) qss_nil)
    (qss_cons (qs_setF 3 sc__law_hand.nd (q_mul (q_mod (q_abs T.abs (qv 2)) (q_powW (q_powW q_int q_int) q_int)) (q_intB T.int (q_cmp c_ge (q_abs T.abs (qv 2)) (q_powW q_int q_int)))))
    (qss_one (qs_ret (q_sh (q_lst (qa_cons (qv 3) (qa_cons (q_mod (q_mul (q_add (q_add (q_mod (qv 2) q_int) (q_mul (q_mul q_int (qv 1)) (qv 1))) q_int) q_int) q_int) qa_nil)))))))))⟩
theorem sc__law_take : FnScope N__law_take ["_law_hand_here", "_law_many"] (defScope s__law_take) := ⟨rfl, rfl, rfl, by decide +kernel, rfl, by decide +kernel, by decide +kernel⟩
theorem walk__law_take (T : Txt w K mg) {f : Addr} {cd : Value} {A : Around} {outer : List Env} {s : Shared} {H : Hp} {E : XK} {ρ : Ent} (hr : Room 0 (A.deeper (envOfC "_law_take" (defScope s__law_take) s.heap.objs.size f cd))) (gd : A.guards = some []) :
    ∃ ts, QSs (cxOf CX0 P w K mg base N__law_take "_law_take" (defScope s__law_take) f cd A outer s H E).nox ρ (defBody s__law_take) ts as__law_take := ⟨_, (qss_cons (qs_if (qt_cmp c_gt (q_ixS (qv 0) q_int) q_int) (qss_cons (qs_setF 2 sc__law_take.nd (q_mod (q_ixS (qv 0) q_int) (qv 1)))
    (qss_cons (qs_setI (q_div (q_ixS (qv 0) q_int) (qv 1)) (qv 0) q_int)
    (qss_one (qs_ret (qv 2))))) qss_nil)
    (qss_cons (qs_setI (q_mod (q_add (q_mul (q_ixS (qv 0) q_int) q_int) q_int) q_int) (qv 0) q_int)
    (qss_one (qs_ret (q_mod (q_div (q_mod (q_mul (q_div (q_ixS (qv 0) q_int) q_int) (q_add (q_mod (q_ixS (qv 0) q_int) q_int) q_int)) q_int) q_int) (qv 1))))))⟩
theorem sc__law_pick : FnScope N__law_pick ["_law_hand_here", "_law_some"] (defScope s__law_pick) := ⟨rfl, rfl, rfl, by decide +kernel, rfl, by decide +kernel, by decide +kernel⟩
theorem walk__law_pick (T : Txt w K mg) (c__law_take : Cal P w K mg base "_law_take" ["_law_hand_here", "_law_many"] 1 S__law_take) {f : Addr} {cd : Value} {A : Around} {outer : List Env} {s : Shared} {H : Hp} {E : XK} {ρ : Ent} (hr : Room 1 (A.deeper (envOfC "_law_pick" (defScope s__law_pick) s.heap.objs.size f cd))) (gd : A.guards = some []) :
    ∃ ts, QSs (cxOf CX0 P w K mg base N__law_pick "_law_pick" (defScope s__law_pick) f cd A outer s H E).nox ρ (defBody s__law_pick) ts as__law_pick := ⟨_, (qss_one (qs_ret (q_ixS (qv 1) (q_callC c__law_take (hr.mono (by decide)) gd (qa_cons (qv 0) (qa_cons (q_len T.len (qv 1)) qa_nil))))))⟩
theorem sc__law_forms : FnScope N__law_forms [] (defScope s__law_forms) := ⟨rfl, rfl, rfl, by decide +kernel, rfl, by decide +kernel, by decide +kernel⟩
theorem walk__law_forms (T : Txt w K mg) {f : Addr} {cd : Value} {A : Around} {outer : List Env} {s : Shared} {H : Hp} {E : XK} {ρ : Ent} (hr : Room 0 (A.deeper (envOfC "_law_forms" (defScope s__law_forms) s.heap.objs.size f cd))) (gd : A.guards = some []) :
    ∃ ts, QSs (cxOf CX0 P w K mg base N__law_forms "_law_forms" (defScope s__law_forms) f cd A outer s H E).nox ρ (defBody s__law_forms) ts as__law_forms := ⟨_, (qss_cons (qs_set 0 sc__law_forms.nd (q_disp (qp_cons q_str q_str (qp_cons q_str q_str (qp_cons q_str q_str (qp_cons q_str q_str (qp_cons q_str q_str (qp_cons q_str q_str (qp_cons q_str q_str qp_nil)))))))))
    (qss_cons (qs_expr (q_dupd (qv 0) (q_disp (qp_cons q_str q_str (qp_cons q_str q_str (qp_cons q_str q_str (qp_cons q_str q_str (qp_cons q_str q_str (qp_cons q_str q_str (qp_cons q_str q_str qp_nil))))))))))
    (qss_one (qs_ret (q_lk (qv 0))))))⟩
theorem sc__law_name : FnScope N__law_name ["_law_hand_here", "_law_pot"] (defScope s__law_name) := ⟨rfl, rfl, rfl, by decide +kernel, rfl, by decide +kernel, by decide +kernel⟩
theorem walk__law_name (T : Txt w K mg) (c__law_pick : Cal P w K mg base "_law_pick" ["_law_hand_here", "_law_some"] 2 S__law_pick) {f : Addr} {cd : Value} {A : Around} {outer : List Env} {s : Shared} {H : Hp} {E : XK} {ρ : Ent} (hr : Room 2 (A.deeper (envOfC "_law_name" (defScope s__law_name) s.heap.objs.size f cd))) (gd : A.guards = some []) :
    ∃ ts, QSs (cxOf CX0 P w K mg base N__law_name "_law_name" (defScope s__law_name) f cd A outer s H E).nox ρ (defBody s__law_name) ts as__law_name := ⟨_, (qss_one (qs_ret (q_callC c__law_pick (hr.mono (by decide)) gd (qa_cons (qv 0) (qa_cons (q_dget hr.units (qv 1) q_str) qa_nil)))))⟩
theorem sc__law_deed : FnScope N__law_deed ["_law_hand_here", "_law_pot", "_law_level"] (defScope s__law_deed) := ⟨rfl, rfl, rfl, by decide +kernel, rfl, by decide +kernel, by decide +kernel⟩
theorem walk__law_deed (T : Txt w K mg) (c__law_pick : Cal P w K mg base "_law_pick" ["_law_hand_here", "_law_some"] 2 S__law_pick) (c__law_forms : Cal P w K mg base "_law_forms" [] 1 S__law_forms) (c__law_take : Cal P w K mg base "_law_take" ["_law_hand_here", "_law_many"] 1 S__law_take) (c__law_name : Cal P w K mg base "_law_name" ["_law_hand_here", "_law_pot"] 3 S__law_name) {n : Nat} (r__law_deeds : Cal P w K mg base "_law_deeds" ["_law_hand_here", "_law_pot", "_law_level"] (4 + n) (R__law_deeds n)) {f : Addr} {cd : Value} {A : Around} {outer : List Env} {s : Shared} {H : Hp} {E : XK} {ρ : Ent} (hr : Room (4 + n) (A.deeper (envOfC "_law_deed" (defScope s__law_deed) s.heap.objs.size f cd))) (gd : A.guards = some []) :
    ∃ ts, QSs (cxOf CX0 P w K mg base N__law_deed "_law_deed" (defScope s__law_deed) f cd A outer s H E).nox ρ (defBody s__law_deed) ts (as__law_deed n) := ⟨_, (qss_cons (qs_dput hr.units (q_sub (q_dget hr.units (qv 1) q_str) q_int) (qv 1) q_str)
    (qss_cons (qs_setF 3 sc__law_deed.nd (q_lst (qa_cons q_str (qa_cons q_str (qa_cons q_str (qa_cons q_str (qa_cons q_str (qa_cons q_str (qa_cons q_str (qa_cons q_str qa_nil))))))))))
    (qss_cons (qs_if (QW.qt (qw_and (qt_cmp c_gt (qv 2) q_int) (qw_and1 (qt_cmp c_gt (q_dget hr.units (qv 1) q_str) q_int)))) (qss_one (qs_setF 3 sc__law_deed.nd (q_cat (qv 3) (q_rep (q_lst (qa_cons q_str (qa_cons q_str (qa_cons q_str (qa_cons q_str (qa_cons q_str (qa_cons q_str qa_nil))))))) q_int)))) qss_nil)
    (qss_cons (qs_set 4 sc__law_deed.nd (q_lst (qa_cons (q_callC c__law_pick (hr.mono (by omega)) gd (qa_cons (qv 0) (qa_cons (qv 3) qa_nil))) qa_nil)))
    (qss_cons (qs_for (qi_str (q_dget hr.units (q_callC0 c__law_forms (hr.mono (by omega)) gd) (q_ixS (qv 4) q_int))) (qg_name 5 sc__law_deed.nd) (qss_one (qs_if (qt_cmp c_eqS (qv 5) q_str) (qss_one (qs_expr (q_append (qv 4) (qa_cons (q_callC r__law_deeds (hr.mono (by omega)) gd (qa_cons (qv 0) (qa_cons (qv 1) (qa_cons (q_sub (qv 2) q_int) qa_nil)))) qa_nil)))) (qss_one (qs_if (qt_cmp c_eqS (qv 5) q_str) (qss_one (qs_expr (q_append (qv 4) (qa_cons (q_tuple T.tuple (q_comp (own := [("_law_k", 6)]) sc__law_deed.nd (qi_range1 T.range (qa_cons (q_add q_int (q_callC c__law_take (hr.mono (by omega)) gd (qa_cons (qv 0) (qa_cons q_int qa_nil)))) qa_nil)) (blkOk_by (own := [("_law_k", 6)]) (N := N__law_deed) (sc := defScope s__law_deed) (by decide +kernel)) (fun _ _ _ _ _ => (qg_name 6 sc__law_deed.nd)) (fun _ _ _ _ _ => qts_nil) (fun _ _ _ _ _ => (q_callC c__law_name (hr.mono (by omega)) gd (qa_cons (qv 0) (qa_cons (qv 1) qa_nil)))) s)) qa_nil)))) (qss_one (qs_expr (q_append (qv 4) (qa_cons (q_dget hr.units (q_disp (qp_cons q_str (q_callC c__law_name (hr.mono (by omega)) gd (qa_cons (qv 0) (qa_cons (qv 1) qa_nil))) (qp_cons q_str (q_add q_int (q_callC c__law_take (hr.mono (by omega)) gd (qa_cons (qv 0) (qa_cons q_int qa_nil)))) (qp_cons q_str (q_callC c__law_take (hr.mono (by omega)) gd (qa_cons (qv 0) (qa_cons q_int qa_nil))) qp_nil)))) (qv 5)) qa_nil)))))))))
    (qss_one (qs_ret (q_tuple T.tuple (qv 4)))))))))⟩
theorem sc__law_deeds : FnScope N__law_deeds ["_law_hand_here", "_law_pot", "_law_level"] (defScope s__law_deeds) := ⟨rfl, rfl, rfl, by decide +kernel, rfl, by decide +kernel, by decide +kernel⟩
theorem walk__law_deeds (T : Txt w K mg) (c__law_pick : Cal P w K mg base "_law_pick" ["_law_hand_here", "_law_some"] 2 S__law_pick) {n : Nat} (r__law_deed : Cal P w K mg base "_law_deed" ["_law_hand_here", "_law_pot", "_law_level"] (4 + n) (R__law_deed n)) {f : Addr} {cd : Value} {A : Around} {outer : List Env} {s : Shared} {H : Hp} {E : XK} {ρ : Ent} (hr : Room (4 + n) (A.deeper (envOfC "_law_deeds" (defScope s__law_deeds) s.heap.objs.size f cd))) (gd : A.guards = some []) :
    ∃ ts, QSs (cxOf CX0 P w K mg base N__law_deeds "_law_deeds" (defScope s__law_deeds) f cd A outer s H E).nox ρ (defBody s__law_deeds) ts (as__law_deeds n) := ⟨_, (qss_cons (qs_set 3 sc__law_deeds.nd (q_lst qa_nil))
    (qss_cons (qs_for (qi_range1 T.range (qa_cons (q_callC c__law_pick (hr.mono (by omega)) gd (qa_cons (qv 0) (qa_cons (q_lst (qa_cons q_int (qa_cons q_int (qa_cons q_int (qa_cons q_int (qa_cons q_int (qa_cons q_int (qa_cons q_int qa_nil)))))))) qa_nil))) qa_nil)) (qg_name 4 sc__law_deeds.nd) (qss_one (qs_if (qt_cmp c_gt (q_dget hr.units (qv 1) q_str) q_int) (qss_one (qs_expr (q_append (qv 3) (qa_cons (q_callC r__law_deed (hr.mono (by omega)) gd (qa_cons (qv 0) (qa_cons (qv 1) (qa_cons (qv 2) qa_nil)))) qa_nil)))) qss_nil)))
    (qss_one (qs_ret (q_tuple T.tuple (qv 3))))))⟩
theorem sc__law_unlike : FnScope N__law_unlike ["_law_hand_here", "_law_many"] (defScope s__law_unlike) := ⟨rfl, rfl, rfl, by decide +kernel, rfl, by decide +kernel, by decide +kernel⟩
theorem walk__law_unlike (T : Txt w K mg) (c__law_take : Cal P w K mg base "_law_take" ["_law_hand_here", "_law_many"] 1 S__law_take) {f : Addr} {cd : Value} {A : Around} {outer : List Env} {s : Shared} {H : Hp} {E : XK} {ρ : Ent} (hr : Room 1 (A.deeper (envOfC "_law_unlike" (defScope s__law_unlike) s.heap.objs.size f cd))) (gd : A.guards = some []) :
    ∃ ts, QSs (cxOf CX0 P w K mg base N__law_unlike "_law_unlike" (defScope s__law_unlike) f cd A outer s H E).nox ρ (defBody s__law_unlike) ts as__law_unlike := ⟨_, (qss_cons (qs_parOO 2 3 sc__law_unlike.nd (q_lst (qa_cons q_str (qa_cons q_str (qa_cons q_str (qa_cons q_str (qa_cons q_str (qa_cons q_str (qa_cons q_str (qa_cons q_str (qa_cons q_str (qa_cons q_str (qa_cons q_str qa_nil)))))))))))) (q_lst qa_nil))
    (qss_cons (qs_for (qi_range1 T.range (qa_cons (qv 1) qa_nil)) (qg_name 4 sc__law_unlike.nd) (qss_one (qs_expr (q_append (qv 3) (qa_cons (q_popAt (qv 2) (qa_cons (q_callC c__law_take (hr.mono (by decide)) gd (qa_cons (qv 0) (qa_cons (q_len T.len (qv 2)) qa_nil))) qa_nil)) qa_nil)))))
    (qss_one (qs_ret (q_tuple T.tuple (qv 3))))))⟩
theorem sc__law_formed : FnScope N__law_formed ["_law_hand_here", "_law_size"] (defScope s__law_formed) := ⟨rfl, rfl, rfl, by decide +kernel, rfl, by decide +kernel, by decide +kernel⟩
theorem walk__law_formed (T : Txt w K mg) (c__law_unlike : Cal P w K mg base "_law_unlike" ["_law_hand_here", "_law_many"] 2 S__law_unlike) (c__law_pick : Cal P w K mg base "_law_pick" ["_law_hand_here", "_law_some"] 2 S__law_pick) (c__law_deeds : Cal P w K mg base "_law_deeds" ["_law_hand_here", "_law_pot", "_law_level"] 17 S__law_deeds) (c__law_take : Cal P w K mg base "_law_take" ["_law_hand_here", "_law_many"] 1 S__law_take) {f : Addr} {cd : Value} {A : Around} {outer : List Env} {s : Shared} {H : Hp} {E : XK} {ρ : Ent} (hr : Room 17 (A.deeper (envOfC "_law_formed" (defScope s__law_formed) s.heap.objs.size f cd))) (gd : A.guards = some []) :
    ∃ ts, QSs (cxOf CX0 P w K mg base N__law_formed "_law_formed" (defScope s__law_formed) f cd A outer s H E).nox ρ (defBody s__law_formed) ts as__law_formed := ⟨_, (qss_cons (qs_parO 2 3 sc__law_formed.nd (q_sh (q_disp (qp_cons q_str (qv 1) (qp_cons q_str (q_lst (qa_cons q_str (qa_cons q_str (qa_cons q_str (qa_cons q_str (qa_cons q_str (qa_cons q_str (qa_cons q_str (qa_cons q_str qa_nil))))))))) qp_nil)))) (q_lst qa_nil))
    (qss_cons (qs_setF 4 sc__law_formed.nd (q_callC c__law_unlike (hr.mono (by decide)) gd (qa_cons (qv 0) (qa_cons q_int qa_nil))))
    (qss_cons (qs_for (qi_range1 T.range (qa_cons (q_callC c__law_pick (hr.mono (by decide)) gd (qa_cons (qv 0) (qa_cons (q_lst (qa_cons q_int (qa_cons q_int (qa_cons q_int (qa_cons q_int (qa_cons q_int (qa_cons q_int qa_nil))))))) qa_nil))) qa_nil)) (qg_name 5 sc__law_formed.nd) (qss_one (qs_expr (q_append (qv 3) (qa_cons (q_tup (qa_cons (q_ixS (qv 4) (qv 5)) (qa_cons (q_callC c__law_unlike (hr.mono (by decide)) gd (qa_cons (qv 0) (qa_cons (q_add q_int (q_callC c__law_take (hr.mono (by decide)) gd (qa_cons (qv 0) (qa_cons q_int qa_nil)))) qa_nil))) (qa_cons (q_callC c__law_deeds (hr.mono (by decide)) gd (qa_cons (qv 0) (qa_cons (qv 2) (qa_cons (q_callC c__law_take (hr.mono (by decide)) gd (qa_cons (qv 0) (qa_cons q_int qa_nil))) qa_nil)))) qa_nil)))) qa_nil)))))
    (qss_cons (qs_setF 6 sc__law_formed.nd (q_tup qa_nil))
    (qss_cons (qs_for (qi_range1 T.range (qa_cons (q_callC c__law_take (hr.mono (by decide)) gd (qa_cons (qv 0) (qa_cons q_int qa_nil))) qa_nil)) (qg_name 5 sc__law_formed.nd) (qss_one (qs_setF 6 sc__law_formed.nd (q_catT (qv 6) (q_callC c__law_deeds (hr.mono (by decide)) gd (qa_cons (qv 0) (qa_cons (qv 2) (qa_cons (q_callC c__law_take (hr.mono (by decide)) gd (qa_cons (qv 0) (qa_cons q_int qa_nil))) qa_nil))))))))
    (qss_one (qs_ret (q_tup (qa_cons (q_callC c__law_unlike (hr.mono (by decide)) gd (qa_cons (qv 0) (qa_cons (q_add q_int (q_callC c__law_take (hr.mono (by decide)) gd (qa_cons (qv 0) (qa_cons q_int qa_nil)))) qa_nil))) (qa_cons (q_tuple T.tuple (qv 3)) (qa_cons (qv 6) qa_nil)))))))))))⟩
theorem sc__law_lines : FnScope N__law_lines ["_law_deeds_here", "_law_spot", "_law_begin", "_law_found"] (defScope s__law_lines) := ⟨rfl, rfl, rfl, by decide +kernel, rfl, by decide +kernel, by decide +kernel⟩
theorem walk__law_lines (T : Txt w K mg) (c__law_forms : Cal P w K mg base "_law_forms" [] 1 S__law_forms) {n : Nat} (r__law_lines : Cal P w K mg base "_law_lines" ["_law_deeds_here", "_law_spot", "_law_begin", "_law_found"] (2 + n) (R__law_lines n)) {f : Addr} {cd : Value} {A : Around} {outer : List Env} {s : Shared} {H : Hp} {E : XK} {ρ : Ent} (hr : Room (2 + n) (A.deeper (envOfC "_law_lines" (defScope s__law_lines) s.heap.objs.size f cd))) (gd : A.guards = some []) :
    ∃ ts, QSs (cxOf CX0 P w K mg base N__law_lines "_law_lines" (defScope s__law_lines) f cd A outer s H E).nox ρ (defBody s__law_lines) ts (as__law_lines n) := ⟨_, (qss_one (qs_for (qi_enumT T.enumerate (qa_cons (qv 0) qa_nil)) (qg_tup (qgs_cons (qg_name 4 sc__law_lines.nd) (qgs_cons (qg_name 5 sc__law_lines.nd) qgs_nil))) (qss_cons (qs_par3OO 6 7 8 sc__law_lines.nd (q_catT (qv 1) (q_tup (qa_cons (q_add (qv 2) (qv 4)) qa_nil))) (q_lst (qa_cons (q_ixS (qv 5) q_int) qa_nil)) (q_lst qa_nil))
    (qss_cons (qs_for (qi_zipS T.zip (qa_cons (q_dget hr.units (q_callC0 c__law_forms (hr.mono (by omega)) gd) (q_ixS (qv 5) q_int)) (qa_cons (q_sl (qv 5) (qo_some q_int) qo_none) qa_nil))) (qg_tup (qgs_cons (qg_name 9 sc__law_lines.nd) (qgs_cons (qg_name 10 sc__law_lines.nd) qgs_nil))) (qss_one (qs_if (qt_cmp c_eqS (qv 9) q_str) (qss_one (qs_expr (q_append (qv 8) (qa_cons (qv 10) qa_nil)))) (qss_one (qs_expr (q_extend (qv 7) (qa_cons (q_ifExp (qt_cmp c_eqS (qv 9) q_str) (q_list T.list (qv 10)) (q_lst (qa_cons (q_strW T.str (qv 10)) qa_nil))) qa_nil)))))))
    (qss_cons (qs_expr (q_append (qv 3) (qa_cons (q_tup (qa_cons (q_join q_str (qv 7)) (qa_cons (qv 6) qa_nil))) qa_nil)))
    (qss_cons (qs_for (qi_enumL T.enumerate (qa_cons (qv 8) qa_nil)) (qg_tup (qgs_cons (qg_name 11 sc__law_lines.nd) (qgs_cons (qg_name 12 sc__law_lines.nd) qgs_nil))) (qss_cons (qs_expr (q_extend (qv 3) (qa_cons (q_rep (q_lst (qa_cons (q_tup (qa_cons q_str (qa_cons q_non qa_nil))) qa_nil)) (q_intB T.int (q_cmp (c_eq hr.units) (qv 11) q_int))) qa_nil)))
    (qss_one (qs_expr (q_callC r__law_lines (hr.mono (by omega)) gd (qa_cons (qv 12) (qa_cons (qv 6) (qa_cons (q_sum T.sum (q_comp (own := [("_law_one", 13)]) sc__law_lines.nd (qi_list (q_sl (qv 8) qo_none (qo_some (qv 11)))) (blkOk_by (own := [("_law_one", 13)]) (N := N__law_lines) (sc := defScope s__law_lines) (by decide +kernel)) (fun _ _ _ _ _ => (qg_name 13 sc__law_lines.nd)) (fun _ _ _ _ _ => qts_nil) (fun _ _ _ _ _ => (q_len T.len (qv 13))) s)) (qa_cons (qv 3) qa_nil)))))))))
    (qss_one (qs_expr (q_extend (qv 3) (qa_cons (q_rep (q_lst (qa_cons (q_tup (qa_cons q_str (qa_cons q_non qa_nil))) qa_nil)) (q_intB T.int (q_cmp (c_neL0 hr.units) (qv 8) (q_lst qa_nil)))) qa_nil))))))))))⟩
theorem sc__law_written : FnScope N__law_written ["_law_code"] (defScope s__law_written) := ⟨rfl, rfl, rfl, by decide +kernel, rfl, by decide +kernel, by decide +kernel⟩
theorem walk__law_written (T : Txt w K mg) (c__law_lines : Cal P w K mg base "_law_lines" ["_law_deeds_here", "_law_spot", "_law_begin", "_law_found"] 11 S__law_lines) {f : Addr} {cd : Value} {A : Around} {outer : List Env} {s : Shared} {H : Hp} {E : XK} {ρ : Ent} (hr : Room 11 (A.deeper (envOfC "_law_written" (defScope s__law_written) s.heap.objs.size f cd))) (gd : A.guards = some []) :
    ∃ ts, QSs (cxOf CX0 P w K mg base N__law_written "_law_written" (defScope s__law_written) f cd A outer s H E).nox ρ (defBody s__law_written) ts as__law_written := ⟨_, (qss_cons (qs_set 1 sc__law_written.nd (q_sh (q_lst (qa_cons (q_tup (qa_cons (q_join q_str (q_cat (q_lst (qa_cons q_str qa_nil)) (q_list T.list (q_ixS (qv 0) q_int)))) (qa_cons q_non qa_nil))) qa_nil))))
    (qss_cons (qs_for (qi_enumT T.enumerate (qa_cons (q_ixS (qv 0) q_int) qa_nil)) (qg_tup (qgs_cons (qg_name 2 sc__law_written.nd) (qgs_cons (qg_name 3 sc__law_written.nd) qgs_nil))) (qss_cons (qs_expr (q_append (qv 1) (qa_cons (q_tup (qa_cons (q_join q_str (q_cat (q_lst (qa_cons q_str (qa_cons (q_ixS (qv 3) q_int) qa_nil))) (q_list T.list (q_ixS (qv 3) q_int)))) (qa_cons q_non qa_nil))) qa_nil)))
    (qss_cons (qs_expr (q_callC c__law_lines (hr.mono (by decide)) gd (qa_cons (q_ixS (qv 3) q_int) (qa_cons (q_tup (qa_cons (qv 2) qa_nil)) (qa_cons q_int (qa_cons (qv 1) qa_nil))))))
    (qss_one (qs_expr (q_append (qv 1) (qa_cons (q_tup (qa_cons q_str (qa_cons q_non qa_nil))) qa_nil)))))))
    (qss_cons (qs_expr (q_callC c__law_lines (hr.mono (by decide)) gd (qa_cons (q_ixS (qv 0) q_int) (qa_cons (q_tup (qa_cons (q_len T.len (q_ixS (qv 0) q_int)) qa_nil)) (qa_cons q_int (qa_cons (qv 1) qa_nil))))))
    (qss_one (qs_ret (qv 1))))))⟩
theorem sc_law : FnScope N_law ["_law_script"] (defScope s_law) := ⟨rfl, rfl, rfl, by decide +kernel, rfl, by decide +kernel, by decide +kernel⟩
theorem walk_law (T : Txt w K mg) (c__law_hand : Cal P w K mg base "_law_hand" ["_law_script", "_law_k"] 1 S__law_hand) (c__law_formed : Cal P w K mg base "_law_formed" ["_law_hand_here", "_law_size"] 18 S__law_formed) (c__law_pick : Cal P w K mg base "_law_pick" ["_law_hand_here", "_law_some"] 2 S__law_pick) (c__law_written : Cal P w K mg base "_law_written" ["_law_code"] 12 S__law_written) (c_show : Cal P w K mg base "show" ["program"] 17 S_show) (c_lines_of : Cal P w K mg base "lines_of" ["program"] 17 S_lines_of) (p_show_0 : PCal P w K mg base "show" ["program"] 0 ["program"] [0] 17 S_show) (p_read_0 : PCalX P w K mg base "read" ["text"] 0 ["text"] [0] 6 S_read) (p_lines_of_0 : PCal P w K mg base "lines_of" ["program"] 0 ["program"] [0] 17 S_lines_of) (x_read : CalX P w K mg base "read" ["text"] 6 S_read) {f : Addr} {cd : Value} {A : Around} {outer : List Env} {s : Shared} {H : Hp} {E : XK} {ρ : Ent} (hr : Room 18 (A.deeper (envOfC "law" (defScope s_law) s.heap.objs.size f cd))) (gd : A.guards = some []) :
    ∃ ts, QSs (cxOf CX0 P w K mg base N_law "law" (defScope s_law) f cd A outer s H E).nox ρ (defBody s_law) ts as_law := ⟨_, (qss_cons (qs_for (qi_range1 T.range (qa_cons (q_max2 T.max q_int (q_min2 T.min (q_len T.len (qv 0)) q_int)) qa_nil)) (qg_name 1 sc_law.nd) (qss_cons (qs_setF 2 sc_law.nd (q_callC c__law_hand (hr.mono (by decide)) gd (qa_cons (qv 0) (qa_cons (qv 1) qa_nil))))
    (qss_one (qs_for (qi_range1 T.range (qa_cons q_int qa_nil)) (qg_name 3 sc_law.nd) (qss_cons (qs_setF 4 sc_law.nd (q_callC c__law_formed (hr.mono (by decide)) gd (qa_cons (qv 2) (qa_cons (q_callC c__law_pick (hr.mono (by decide)) gd (qa_cons (qv 2) (qa_cons (q_lst (qa_cons q_int (qa_cons q_int (qa_cons q_int (qa_cons q_int qa_nil))))) qa_nil))) qa_nil))))
    (qss_cons (qs_setF 5 sc_law.nd (q_callC c__law_written (hr.mono (by decide)) gd (qa_cons (qv 4) qa_nil)))
    (qss_cons (qs_setF 6 sc_law.nd (q_join q_str (q_comp (own := [("_law_row", 8)]) sc_law.nd (qi_list (qv 5)) (blkOk_by (own := [("_law_row", 8)]) (N := N_law) (sc := defScope s_law) (by decide +kernel)) (fun _ _ _ _ _ => (qg_name 8 sc_law.nd)) (fun _ _ _ _ _ => qts_nil) (fun _ _ _ _ _ => (q_ixS (qv 8) q_int)) s)))
    (qss_cons (qs_if (QW.qt (qw_or (qt_cmp c_neS (q_reprN gd (hu_big hr) T.repr (q_callC c_show (hr.mono (by decide)) gd (qa_cons (qv 4) qa_nil))) (q_reprN gd (hu_big hr) T.repr (qv 6))) (qw_or1 (qt_cmp c_neS (q_callP0 p_show_0 (hr.mono (by decide)) gd (qk_cons (qv 4) qk_nil)) (qv 6))))) (qss_one (qs_ret q_bl)) qss_nil)
    (qss_cons (qs_if (QW.qt (qw_or (qt_cmp c_neS (q_reprN gd (hu_big hr) T.repr (q_callXC x_read (hr.mono (by decide)) gd takes_no cn_no (qa_cons (qv 6) qa_nil))) (q_reprN gd (hu_big hr) T.repr (qv 4))) (qw_or1 (qt_cmp c_neS (q_reprN gd (hu_big hr) T.repr (q_callPX0 p_read_0 (hr.mono (by decide)) gd takes_no cn_no (qk_cons (qv 6) qk_nil))) (q_reprN gd (hu_big hr) T.repr (qv 4)))))) (qss_one (qs_ret q_bl)) qss_nil)
    (qss_cons (qs_setF 7 sc_law.nd (q_reprN gd (hu_big hr) T.repr (q_tuple T.tuple (q_comp (own := [("_law_number", 9), ("_law_row", 8)]) sc_law.nd (qi_enumL T.enumerate (qa_cons (qv 5) qa_nil)) (blkOk_by (own := [("_law_number", 9), ("_law_row", 8)]) (N := N_law) (sc := defScope s_law) (by decide +kernel)) (fun _ _ _ _ _ => (qg_tup (qgs_cons (qg_name 9 sc_law.nd) (qgs_cons (qg_name 8 sc_law.nd) qgs_nil)))) (fun _ _ _ _ _ => (qts_one (qt_cmp c_notN (q_ixS (qv 8) q_int) q_non))) (fun _ _ _ _ _ => (q_tup (qa_cons (qv 9) (qa_cons (q_ixS (qv 8) q_int) qa_nil)))) s))))
    (qss_one (qs_if (QW.qt (qw_or (qt_cmp c_neS (q_reprN gd (hu_big hr) T.repr (q_callC c_lines_of (hr.mono (by decide)) gd (qa_cons (qv 4) qa_nil))) (qv 7)) (qw_or1 (qt_cmp c_neS (q_reprN gd (hu_big hr) T.repr (q_callP0 p_lines_of_0 (hr.mono (by decide)) gd (qk_cons (qv 4) qk_nil))) (qv 7))))) (qss_one (qs_ret q_bl)) qss_nil))))))))))))
    (qss_one (qs_ret q_bl)))⟩
end
section
variable {P : Program} {w : World} {K : PySem.W.Frag} {mg : Str → Option Value} {base : Heap}
theorem ok_is_name {f : Addr} {fd : FuncData} (F : Fun K "is_name" "is_name" s_is_name f fd) (T : Txt w K mg) : FnG P w K mg base CX0 1 f fd ["thing"] (spA K 1 S_is_name) :=
  fn_ok F sc_is_name ar_is_name (fun _ _ _ _ _ _ _ hr gd => walk_is_name T hr gd) rd_is_name
theorem ok_are_names {f : Addr} {fd : FuncData} (F : Fun K "are_names" "are_names" s_are_names f fd) (T : Txt w K mg) (c_is_name : Cal P w K mg base "is_name" ["thing"] 1 S_is_name) : FnG P w K mg base CX0 2 f fd ["thing", "low", "high"] (spA K 3 S_are_names) :=
  fn_ok F sc_are_names ar_are_names (fun _ _ _ _ _ _ _ hr gd => walk_are_names T c_is_name hr gd) rd_are_names
theorem ok_are_unlike {f : Addr} {fd : FuncData} (F : Fun K "are_unlike" "are_unlike" s_are_unlike f fd) (T : Txt w K mg) : FnG P w K mg base CX0 1 f fd ["things"] (spA K 1 S_are_unlike) :=
  fn_ok F sc_are_unlike ar_are_unlike (fun _ _ _ _ _ _ _ hr gd => walk_are_unlike T hr gd) rd_are_unlike
theorem ok_head_of {f : Addr} {fd : FuncData} (F : Fun K "head_of" "head_of" s_head_of f fd) (T : Txt w K mg) : FnG P w K mg base CX0 1 f fd ["deed"] (spA K 1 S_head_of) :=
  fn_ok F sc_head_of ar_head_of (fun _ _ _ _ _ _ _ hr gd => walk_head_of T hr gd) rd_head_of
theorem okg_rows_of_deed {f_rows_of_deed : Addr} {fd_rows_of_deed : FuncData} (F_rows_of_deed : Fun K "rows_of_deed" "rows_of_deed" s_rows_of_deed f_rows_of_deed fd_rows_of_deed) {f_rows_of_deeds : Addr} {fd_rows_of_deeds : FuncData} (F_rows_of_deeds : Fun K "rows_of_deeds" "rows_of_deeds" s_rows_of_deeds f_rows_of_deeds fd_rows_of_deeds) (T : Txt w K mg) (c_head_of : Cal P w K mg base "head_of" ["deed"] 1 S_head_of) (hk_rows_of_deed : mg "rows_of_deed" = some (.ref f_rows_of_deed)) (kp_rows_of_deed : PySem.W.keepIn K (.ref f_rows_of_deed) = true) (hb_rows_of_deed : Binds K fd_rows_of_deed ["deed", "place"] []) (hk_rows_of_deeds : mg "rows_of_deeds" = some (.ref f_rows_of_deeds)) (kp_rows_of_deeds : PySem.W.keepIn K (.ref f_rows_of_deeds) = true) (hb_rows_of_deeds : Binds K fd_rows_of_deeds ["deeds", "place", "begin"] []) : ∀ n, FnG P w K mg base CX0 (2 + n) f_rows_of_deed fd_rows_of_deed ["deed", "place"] (spA K 2 (R_rows_of_deed n)) ∧ FnG P w K mg base CX0 (2 + n) f_rows_of_deeds fd_rows_of_deeds ["deeds", "place", "begin"] (spA K 3 (R_rows_of_deeds n))
  | 0 => ⟨fnG_no no_rows_of_deed, fnG_no no_rows_of_deeds⟩
  | n + 1 => by
    have ih := okg_rows_of_deed F_rows_of_deed F_rows_of_deeds T c_head_of hk_rows_of_deed kp_rows_of_deed hb_rows_of_deed hk_rows_of_deeds kp_rows_of_deeds hb_rows_of_deeds n
    have r_rows_of_deed : Cal P w K mg base "rows_of_deed" ["deed", "place"] (2 + n) (R_rows_of_deed n) := ⟨_, _, ih.1, hk_rows_of_deed, kp_rows_of_deed, hb_rows_of_deed, arR_rows_of_deed n⟩
    have r_rows_of_deeds : Cal P w K mg base "rows_of_deeds" ["deeds", "place", "begin"] (2 + n) (R_rows_of_deeds n) := ⟨_, _, ih.2, hk_rows_of_deeds, kp_rows_of_deeds, hb_rows_of_deeds, arR_rows_of_deeds n⟩
    exact ⟨fn_ok F_rows_of_deed sc_rows_of_deed (arR_rows_of_deed (n + 1)) (fun _ _ _ _ _ _ _ hr gd => walk_rows_of_deed T c_head_of r_rows_of_deeds hr gd) (rd_rows_of_deed n), fn_ok F_rows_of_deeds sc_rows_of_deeds (arR_rows_of_deeds (n + 1)) (fun _ _ _ _ _ _ _ hr gd => walk_rows_of_deeds T r_rows_of_deed hr gd) (rd_rows_of_deeds n)⟩
theorem ok_rows_shown {f : Addr} {fd : FuncData} (F : Fun K "rows_shown" "rows_shown" s_rows_shown f fd) (T : Txt w K mg) (c_rows_of_deeds : Cal P w K mg base "rows_of_deeds" ["deeds", "place", "begin"] 15 S_rows_of_deeds) : FnG P w K mg base CX0 16 f fd ["program"] (spA K 1 S_rows_shown) :=
  fn_ok F sc_rows_shown ar_rows_shown (fun _ _ _ _ _ _ _ hr gd => walk_rows_shown T c_rows_of_deeds hr gd) rd_rows_shown
theorem ok_show {f : Addr} {fd : FuncData} (F : Fun K "show" "show" s_show f fd) (T : Txt w K mg) (c_rows_shown : Cal P w K mg base "rows_shown" ["program"] 16 S_rows_shown) : FnG P w K mg base CX0 17 f fd ["program"] (spA K 1 S_show) :=
  fn_ok F sc_show ar_show (fun _ _ _ _ _ _ _ hr gd => walk_show T c_rows_shown hr gd) rd_show
theorem ok_part_of_word {f : Addr} {fd : FuncData} (F : Fun K "part_of_word" "part_of_word" s_part_of_word f fd) (T : Txt w K mg) (c_is_name : Cal P w K mg base "is_name" ["thing"] 1 S_is_name) : FnG P w K mg base CX0 2 f fd ["sort", "word"] (spA K 2 S_part_of_word) :=
  fn_ok F sc_part_of_word ar_part_of_word (fun _ _ _ _ _ _ _ hr gd => walk_part_of_word T c_is_name hr gd) rd_part_of_word
theorem ok_head_parts {f : Addr} {fd : FuncData} (F : Fun K "head_parts" "head_parts" s_head_parts f fd) (T : Txt w K mg) (c_is_name : Cal P w K mg base "is_name" ["thing"] 1 S_is_name) (c_are_names : CalD P w K mg base "are_names" ["thing", "low", "high"] 2 S_are_names [.int 1, .int 5] [.int 1, .int 5]) (c_part_of_word : Cal P w K mg base "part_of_word" ["sort", "word"] 2 S_part_of_word) : FnG P w K mg base CX0 3 f fd ["words"] (spA K 1 S_head_parts) :=
  fn_okT F sc_head_parts ar_head_parts (fun _ _ _ _ _ _ _ hr gd => walk_head_parts T c_is_name c_are_names c_part_of_word hr gd) rd_head_parts
theorem ok_Opened___init__ {f : Addr} {fd : FuncData} (F : Fun K "__init__" "Opened.__init__" s_Opened___init__ f fd) (T : Txt w K mg) : FnG P w K mg base CX0 1 f fd ["self", "word", "parts"] (spA K 3 S_Opened___init__) :=
  fn_ok F sc_Opened___init__ ar_Opened___init__ (fun _ _ _ _ _ _ _ hr gd => walk_Opened___init__ T hr gd) rd_Opened___init__
theorem ok_Opened_wants_with {f : Addr} {fd : FuncData} (F : Fun K "wants_with" "Opened.wants_with" s_Opened_wants_with f fd) (T : Txt w K mg) : FnG P w K mg base CX0 1 f fd ["self"] (spA K 1 S_Opened_wants_with) :=
  fn_ok F sc_Opened_wants_with ar_Opened_wants_with (fun _ _ _ _ _ _ _ hr gd => walk_Opened_wants_with T hr gd) rd_Opened_wants_with
theorem ok_Lines___init__ {f : Addr} {fd : FuncData} (F : Fun K "__init__" "Lines.__init__" s_Lines___init__ f fd) (T : Txt w K mg) : FnG P w K mg base CX0 1 f fd ["self"] (spA K 1 S_Lines___init__) :=
  fn_ok F sc_Lines___init__ ar_Lines___init__ (fun _ _ _ _ _ _ _ hr gd => walk_Lines___init__ T hr gd) rd_Lines___init__
theorem ok_Lines_put {f : Addr} {fd : FuncData} (F : Fun K "put" "Lines.put" s_Lines_put f fd) (T : Txt w K mg) : FnG P w K mg base CX0 1 f fd ["self", "deed"] (spA K 2 S_Lines_put) :=
  fn_ok F sc_Lines_put ar_Lines_put (fun _ _ _ _ _ _ _ hr gd => walk_Lines_put T hr gd) rd_Lines_put
theorem ok_Lines_takes_wires {f : Addr} {fd : FuncData} (F : Fun K "takes_wires" "Lines.takes_wires" s_Lines_takes_wires f fd) (T : Txt w K mg) (c_are_names : CalD P w K mg base "are_names" ["thing", "low", "high"] 2 S_are_names [.int 1, .int 5] [.int 1, .int 5]) (c_are_unlike : Cal P w K mg base "are_unlike" ["things"] 1 S_are_unlike) : FnG P w K mg base CX0 3 f fd ["self", "names"] (spA K 2 S_Lines_takes_wires) :=
  fn_ok F sc_Lines_takes_wires ar_Lines_takes_wires (fun _ _ _ _ _ _ _ hr gd => walk_Lines_takes_wires T c_are_names c_are_unlike hr gd) rd_Lines_takes_wires
theorem ok_Lines_takes_body {f : Addr} {fd : FuncData} (F : Fun K "takes_body" "Lines.takes_body" s_Lines_takes_body f fd) (T : Txt w K mg) (c_is_name : Cal P w K mg base "is_name" ["thing"] 1 S_is_name) (c_Opened___init__ : CalI P w K mg base "Opened" ["self", "word", "parts"] 1 S_Opened___init__) (c_are_names : CalD P w K mg base "are_names" ["thing", "low", "high"] 2 S_are_names [.int 1, .int 5] [.int 1, .int 5]) (c_are_unlike : Cal P w K mg base "are_unlike" ["things"] 1 S_are_unlike) : FnG P w K mg base CX0 3 f fd ["self", "words"] (spA K 2 S_Lines_takes_body) :=
  fn_ok F sc_Lines_takes_body ar_Lines_takes_body (fun _ _ _ _ _ _ _ hr gd => walk_Lines_takes_body T c_is_name c_Opened___init__ c_are_names c_are_unlike hr gd) rd_Lines_takes_body
theorem ok_Lines_takes_turn {f : Addr} {fd : FuncData} (F : Fun K "takes_turn" "Lines.takes_turn" s_Lines_takes_turn f fd) (T : Txt w K mg) (c_Opened_wants_with : CalM P w K mg base "Opened" "wants_with" ["self"] 1 S_Opened_wants_with) (c_Lines_put : CalM P w K mg base "Lines" "put" ["self", "deed"] 1 S_Lines_put) : FnG P w K mg base CX0 2 f fd ["self", "word"] (spA K 2 S_Lines_takes_turn) :=
  fn_ok F sc_Lines_takes_turn ar_Lines_takes_turn (fun _ _ _ _ _ _ _ hr gd => walk_Lines_takes_turn T c_Opened_wants_with c_Lines_put hr gd) rd_Lines_takes_turn
theorem ok_Lines_takes_deed {f : Addr} {fd : FuncData} (F : Fun K "takes_deed" "Lines.takes_deed" s_Lines_takes_deed f fd) (T : Txt w K mg) (c_head_parts : Cal P w K mg base "head_parts" ["words"] 3 S_head_parts) (c_Opened___init__ : CalI P w K mg base "Opened" ["self", "word", "parts"] 1 S_Opened___init__) (c_Lines_put : CalM P w K mg base "Lines" "put" ["self", "deed"] 1 S_Lines_put) : FnG P w K mg base CX0 4 f fd ["self", "words"] (spA K 2 S_Lines_takes_deed) :=
  fn_ok F sc_Lines_takes_deed ar_Lines_takes_deed (fun _ _ _ _ _ _ _ hr gd => walk_Lines_takes_deed T c_head_parts c_Opened___init__ c_Lines_put hr gd) rd_Lines_takes_deed
theorem ok_Lines_takes_line {f : Addr} {fd : FuncData} (F : Fun K "takes_line" "Lines.takes_line" s_Lines_takes_line f fd) (T : Txt w K mg) (c_Lines_takes_wires : CalM P w K mg base "Lines" "takes_wires" ["self", "names"] 3 S_Lines_takes_wires) (c_Lines_takes_body : CalM P w K mg base "Lines" "takes_body" ["self", "words"] 3 S_Lines_takes_body) (c_Lines_takes_turn : CalM P w K mg base "Lines" "takes_turn" ["self", "word"] 2 S_Lines_takes_turn) (c_Lines_takes_deed : CalM P w K mg base "Lines" "takes_deed" ["self", "words"] 4 S_Lines_takes_deed) : FnG P w K mg base CX0 5 f fd ["self", "line"] (spA K 2 S_Lines_takes_line) :=
  fn_ok F sc_Lines_takes_line ar_Lines_takes_line (fun _ _ _ _ _ _ _ hr gd => walk_Lines_takes_line T c_Lines_takes_wires c_Lines_takes_body c_Lines_takes_turn c_Lines_takes_deed hr gd) rd_Lines_takes_line
theorem ok_read {f : Addr} {fd : FuncData} (F : Fun K "read" "read" s_read f fd) (T : Txt w K mg) (c_Lines___init__ : CalI P w K mg base "Lines" ["self"] 1 S_Lines___init__) (c_Lines_takes_line : CalM P w K mg base "Lines" "takes_line" ["self", "line"] 5 S_Lines_takes_line) (x_NoText : Xcl P w K mg base "NoText" ["line"] 1) (ag : Agr K mg) : FnG P w K mg base (L2.CX P w) 6 f fd ["text"] (spX K 1 S_read) :=
  fn_okXW F sc_read arX_read (fun _ _ _ _ _ _ _ _ hr gd cn => walk_read T c_Lines___init__ c_Lines_takes_line x_NoText ag hr gd cn) rd_read
theorem ok_lines_of {f : Addr} {fd : FuncData} (F : Fun K "lines_of" "lines_of" s_lines_of f fd) (T : Txt w K mg) (c_rows_shown : Cal P w K mg base "rows_shown" ["program"] 16 S_rows_shown) : FnG P w K mg base CX0 17 f fd ["program"] (spA K 1 S_lines_of) :=
  fn_ok F sc_lines_of ar_lines_of (fun _ _ _ _ _ _ _ hr gd => walk_lines_of T c_rows_shown hr gd) rd_lines_of
theorem ok__law_hand {f : Addr} {fd : FuncData} (F : Fun K "_law_hand" "_law_hand" s__law_hand f fd) (T : Txt w K mg) : FnG P w K mg base CX0 1 f fd ["_law_script", "_law_k"] (spA K 2 S__law_hand) :=
  fn_ok F sc__law_hand ar__law_hand (fun _ _ _ _ _ _ _ hr gd => walk__law_hand T hr gd) rd__law_hand
theorem ok__law_take {f : Addr} {fd : FuncData} (F : Fun K "_law_take" "_law_take" s__law_take f fd) (T : Txt w K mg) : FnG P w K mg base CX0 1 f fd ["_law_hand_here", "_law_many"] (spA K 2 S__law_take) :=
  fn_ok F sc__law_take ar__law_take (fun _ _ _ _ _ _ _ hr gd => walk__law_take T hr gd) rd__law_take
theorem ok__law_pick {f : Addr} {fd : FuncData} (F : Fun K "_law_pick" "_law_pick" s__law_pick f fd) (T : Txt w K mg) (c__law_take : Cal P w K mg base "_law_take" ["_law_hand_here", "_law_many"] 1 S__law_take) : FnG P w K mg base CX0 2 f fd ["_law_hand_here", "_law_some"] (spA K 2 S__law_pick) :=
  fn_ok F sc__law_pick ar__law_pick (fun _ _ _ _ _ _ _ hr gd => walk__law_pick T c__law_take hr gd) rd__law_pick
theorem ok__law_forms {f : Addr} {fd : FuncData} (F : Fun K "_law_forms" "_law_forms" s__law_forms f fd) (T : Txt w K mg) : FnG P w K mg base CX0 1 f fd [] (spA K 0 S__law_forms) :=
  fn_ok F sc__law_forms ar__law_forms (fun _ _ _ _ _ _ _ hr gd => walk__law_forms T hr gd) rd__law_forms
theorem ok__law_name {f : Addr} {fd : FuncData} (F : Fun K "_law_name" "_law_name" s__law_name f fd) (T : Txt w K mg) (c__law_pick : Cal P w K mg base "_law_pick" ["_law_hand_here", "_law_some"] 2 S__law_pick) : FnG P w K mg base CX0 3 f fd ["_law_hand_here", "_law_pot"] (spA K 2 S__law_name) :=
  fn_ok F sc__law_name ar__law_name (fun _ _ _ _ _ _ _ hr gd => walk__law_name T c__law_pick hr gd) rd__law_name
theorem okg__law_deed {f__law_deed : Addr} {fd__law_deed : FuncData} (F__law_deed : Fun K "_law_deed" "_law_deed" s__law_deed f__law_deed fd__law_deed) {f__law_deeds : Addr} {fd__law_deeds : FuncData} (F__law_deeds : Fun K "_law_deeds" "_law_deeds" s__law_deeds f__law_deeds fd__law_deeds) (T : Txt w K mg) (c__law_pick : Cal P w K mg base "_law_pick" ["_law_hand_here", "_law_some"] 2 S__law_pick) (c__law_forms : Cal P w K mg base "_law_forms" [] 1 S__law_forms) (c__law_take : Cal P w K mg base "_law_take" ["_law_hand_here", "_law_many"] 1 S__law_take) (c__law_name : Cal P w K mg base "_law_name" ["_law_hand_here", "_law_pot"] 3 S__law_name) (hk__law_deed : mg "_law_deed" = some (.ref f__law_deed)) (kp__law_deed : PySem.W.keepIn K (.ref f__law_deed) = true) (hb__law_deed : Binds K fd__law_deed ["_law_hand_here", "_law_pot", "_law_level"] []) (hk__law_deeds : mg "_law_deeds" = some (.ref f__law_deeds)) (kp__law_deeds : PySem.W.keepIn K (.ref f__law_deeds) = true) (hb__law_deeds : Binds K fd__law_deeds ["_law_hand_here", "_law_pot", "_law_level"] []) : ∀ n, FnG P w K mg base CX0 (4 + n) f__law_deed fd__law_deed ["_law_hand_here", "_law_pot", "_law_level"] (spA K 3 (R__law_deed n)) ∧ FnG P w K mg base CX0 (4 + n) f__law_deeds fd__law_deeds ["_law_hand_here", "_law_pot", "_law_level"] (spA K 3 (R__law_deeds n))
  | 0 => ⟨fnG_no no__law_deed, fnG_no no__law_deeds⟩
  | n + 1 => by
    have ih := okg__law_deed F__law_deed F__law_deeds T c__law_pick c__law_forms c__law_take c__law_name hk__law_deed kp__law_deed hb__law_deed hk__law_deeds kp__law_deeds hb__law_deeds n
    have r__law_deed : Cal P w K mg base "_law_deed" ["_law_hand_here", "_law_pot", "_law_level"] (4 + n) (R__law_deed n) := ⟨_, _, ih.1, hk__law_deed, kp__law_deed, hb__law_deed, arR__law_deed n⟩
    have r__law_deeds : Cal P w K mg base "_law_deeds" ["_law_hand_here", "_law_pot", "_law_level"] (4 + n) (R__law_deeds n) := ⟨_, _, ih.2, hk__law_deeds, kp__law_deeds, hb__law_deeds, arR__law_deeds n⟩
    exact ⟨fn_ok F__law_deed sc__law_deed (arR__law_deed (n + 1)) (fun _ _ _ _ _ _ _ hr gd => walk__law_deed T c__law_pick c__law_forms c__law_take c__law_name r__law_deeds hr gd) (rd__law_deed n), fn_ok F__law_deeds sc__law_deeds (arR__law_deeds (n + 1)) (fun _ _ _ _ _ _ _ hr gd => walk__law_deeds T c__law_pick r__law_deed hr gd) (rd__law_deeds n)⟩
theorem ok__law_unlike {f : Addr} {fd : FuncData} (F : Fun K "_law_unlike" "_law_unlike" s__law_unlike f fd) (T : Txt w K mg) (c__law_take : Cal P w K mg base "_law_take" ["_law_hand_here", "_law_many"] 1 S__law_take) : FnG P w K mg base CX0 2 f fd ["_law_hand_here", "_law_many"] (spA K 2 S__law_unlike) :=
  fn_ok F sc__law_unlike ar__law_unlike (fun _ _ _ _ _ _ _ hr gd => walk__law_unlike T c__law_take hr gd) rd__law_unlike
theorem ok__law_formed {f : Addr} {fd : FuncData} (F : Fun K "_law_formed" "_law_formed" s__law_formed f fd) (T : Txt w K mg) (c__law_unlike : Cal P w K mg base "_law_unlike" ["_law_hand_here", "_law_many"] 2 S__law_unlike) (c__law_pick : Cal P w K mg base "_law_pick" ["_law_hand_here", "_law_some"] 2 S__law_pick) (c__law_deeds : Cal P w K mg base "_law_deeds" ["_law_hand_here", "_law_pot", "_law_level"] 17 S__law_deeds) (c__law_take : Cal P w K mg base "_law_take" ["_law_hand_here", "_law_many"] 1 S__law_take) : FnG P w K mg base CX0 18 f fd ["_law_hand_here", "_law_size"] (spA K 2 S__law_formed) :=
  fn_okW F sc__law_formed ar__law_formed (fun _ _ _ _ _ _ _ hr gd => walk__law_formed T c__law_unlike c__law_pick c__law_deeds c__law_take hr gd) rd__law_formed
theorem ok__law_lines {f : Addr} {fd : FuncData} (F : Fun K "_law_lines" "_law_lines" s__law_lines f fd) (T : Txt w K mg) (c__law_forms : Cal P w K mg base "_law_forms" [] 1 S__law_forms) (hk : mg "_law_lines" = some (.ref f)) (kp : PySem.W.keepIn K (.ref f) = true) (hb : Binds K fd ["_law_deeds_here", "_law_spot", "_law_begin", "_law_found"] []) : ∀ n, FnG P w K mg base CX0 (2 + n) f fd ["_law_deeds_here", "_law_spot", "_law_begin", "_law_found"] (spA K 4 (R__law_lines n))
  | 0 => fnG_no no__law_lines
  | n + 1 => fn_ok F sc__law_lines (arR__law_lines (n + 1)) (fun _ _ _ _ _ _ _ hr gd => walk__law_lines T c__law_forms ⟨_, _, ok__law_lines F T c__law_forms hk kp hb n, hk, kp, hb, arR__law_lines n⟩ hr gd) (rd__law_lines n)
theorem ok__law_written {f : Addr} {fd : FuncData} (F : Fun K "_law_written" "_law_written" s__law_written f fd) (T : Txt w K mg) (c__law_lines : Cal P w K mg base "_law_lines" ["_law_deeds_here", "_law_spot", "_law_begin", "_law_found"] 11 S__law_lines) : FnG P w K mg base CX0 12 f fd ["_law_code"] (spA K 1 S__law_written) :=
  fn_okK F sc__law_written ar__law_written (fun _ _ _ _ _ _ _ hr gd => walk__law_written T c__law_lines hr gd) rd__law_written
theorem ok_law {f : Addr} {fd : FuncData} (F : Fun K "law" "law" s_law f fd) (T : Txt w K mg) (c__law_hand : Cal P w K mg base "_law_hand" ["_law_script", "_law_k"] 1 S__law_hand) (c__law_formed : Cal P w K mg base "_law_formed" ["_law_hand_here", "_law_size"] 18 S__law_formed) (c__law_pick : Cal P w K mg base "_law_pick" ["_law_hand_here", "_law_some"] 2 S__law_pick) (c__law_written : Cal P w K mg base "_law_written" ["_law_code"] 12 S__law_written) (c_show : Cal P w K mg base "show" ["program"] 17 S_show) (c_lines_of : Cal P w K mg base "lines_of" ["program"] 17 S_lines_of) (p_show_0 : PCal P w K mg base "show" ["program"] 0 ["program"] [0] 17 S_show) (p_read_0 : PCalX P w K mg base "read" ["text"] 0 ["text"] [0] 6 S_read) (p_lines_of_0 : PCal P w K mg base "lines_of" ["program"] 0 ["program"] [0] 17 S_lines_of) (x_read : CalX P w K mg base "read" ["text"] 6 S_read) : FnG P w K mg base CX0 19 f fd ["_law_script"] (spA K 1 S_law) :=
  fn_ok F sc_law ar_law (fun _ _ _ _ _ _ _ hr gd => walk_law T c__law_hand c__law_formed c__law_pick c__law_written c_show c_lines_of p_show_0 p_read_0 p_lines_of_0 x_read hr gd) rd_law
end
theorem all_mk {l : PySem.W.OpenLaw} {w : World} {K : PySem.W.Frag} {h : Heap} {mg : Str → Option Value} {fa : Addr} (X : K.In h) (G : h.Ns mainGlobals mg) (hfa : mg "law" = some (.ref fa))
    {O_Opened : Addr}
    (ca_Opened : PySem.W.nsIn K mainGlobals "Opened" = some (some (.ref O_Opened)))
    (cp_Opened : PySem.W.plainGet K O_Opened Str.empty = true)
    (ch_Opened : PySem.W.hasDictIn K O_Opened = true)
    (co_Opened : PySem.W.plainOver K O_Opened = true)
    (cs_Opened : PySem.W.findIn K (.ref O_Opened) "__setattr__" = some (some (.builtin "object.__setattr__")))
    (cm_Opened : PySem.W.makesIn K O_Opened = true)
    (ck_Opened : PySem.W.keepIn K (.ref O_Opened) = true)
    (cf0_Opened : PySem.W.findIn K (.ref O_Opened) "word" = some none)
    (cf1_Opened : PySem.W.findIn K (.ref O_Opened) "parts" = some none)
    (cf2_Opened : PySem.W.findIn K (.ref O_Opened) "lots" = some none)
    {O_Lines : Addr}
    (ca_Lines : PySem.W.nsIn K mainGlobals "Lines" = some (some (.ref O_Lines)))
    (cp_Lines : PySem.W.plainGet K O_Lines Str.empty = true)
    (ch_Lines : PySem.W.hasDictIn K O_Lines = true)
    (co_Lines : PySem.W.plainOver K O_Lines = true)
    (cs_Lines : PySem.W.findIn K (.ref O_Lines) "__setattr__" = some (some (.builtin "object.__setattr__")))
    (cm_Lines : PySem.W.makesIn K O_Lines = true)
    (ck_Lines : PySem.W.keepIn K (.ref O_Lines) = true)
    (cf0_Lines : PySem.W.findIn K (.ref O_Lines) "wires" = some none)
    (cf1_Lines : PySem.W.findIn K (.ref O_Lines) "bodies" = some none)
    (cf2_Lines : PySem.W.findIn K (.ref O_Lines) "own_deeds" = some none)
    (cf3_Lines : PySem.W.findIn K (.ref O_Lines) "opened" = some none)
    (cf4_Lines : PySem.W.findIn K (.ref O_Lines) "many" = some none)
    {f0 : Addr} {od0 an0 : Option Addr} {sl0 : Array (Option Value)} {oc0 kV0 dc0 pm0 cd0 ct0 : Value} (a0 : PySem.W.nsIn K mainGlobals "is_name" = some (some (.ref f0))) (l0 : K.lookup f0 = some ⟨oc0, od0, .func (PySem.W.fnOf "is_name" "is_name" (defArgs s_is_name) (defBody s_is_name) (defScope s_is_name) .none kV0 dc0 pm0 an0 cd0 ct0), sl0⟩) (q0 : PySem.W.codeIn K cd0 "is_name" = true) (k0 : PySem.W.keepIn K (.ref f0) = true)
    {D1 : Addr}    {f1 : Addr} {od1 an1 : Option Addr} {sl1 : Array (Option Value)} {oc1 dc1 pm1 cd1 ct1 : Value} (a1 : PySem.W.nsIn K mainGlobals "are_names" = some (some (.ref f1))) (l1 : K.lookup f1 = some ⟨oc1, od1, .func (PySem.W.fnOf "are_names" "are_names" (defArgs s_are_names) (defBody s_are_names) (defScope s_are_names) .none (.ref D1) dc1 pm1 an1 cd1 ct1), sl1⟩) (q1 : PySem.W.codeIn K cd1 "are_names" = true) (k1 : PySem.W.keepIn K (.ref f1) = true) {kt1_0 : Tok} {kt1_1 : Tok}  (kd1_0 : PySem.W.nsIn K D1 "low" = some (some (.int 1 kt1_0))) (kd1_1 : PySem.W.nsIn K D1 "high" = some (some (.int 5 kt1_1)))
    {f2 : Addr} {od2 an2 : Option Addr} {sl2 : Array (Option Value)} {oc2 kV2 dc2 pm2 cd2 ct2 : Value} (a2 : PySem.W.nsIn K mainGlobals "are_unlike" = some (some (.ref f2))) (l2 : K.lookup f2 = some ⟨oc2, od2, .func (PySem.W.fnOf "are_unlike" "are_unlike" (defArgs s_are_unlike) (defBody s_are_unlike) (defScope s_are_unlike) .none kV2 dc2 pm2 an2 cd2 ct2), sl2⟩) (q2 : PySem.W.codeIn K cd2 "are_unlike" = true) (k2 : PySem.W.keepIn K (.ref f2) = true)
    {f3 : Addr} {od3 an3 : Option Addr} {sl3 : Array (Option Value)} {oc3 kV3 dc3 pm3 cd3 ct3 : Value} (a3 : PySem.W.nsIn K mainGlobals "head_of" = some (some (.ref f3))) (l3 : K.lookup f3 = some ⟨oc3, od3, .func (PySem.W.fnOf "head_of" "head_of" (defArgs s_head_of) (defBody s_head_of) (defScope s_head_of) .none kV3 dc3 pm3 an3 cd3 ct3), sl3⟩) (q3 : PySem.W.codeIn K cd3 "head_of" = true) (k3 : PySem.W.keepIn K (.ref f3) = true)
    {f4 : Addr} {od4 an4 : Option Addr} {sl4 : Array (Option Value)} {oc4 kV4 dc4 pm4 cd4 ct4 : Value} (a4 : PySem.W.nsIn K mainGlobals "rows_of_deed" = some (some (.ref f4))) (l4 : K.lookup f4 = some ⟨oc4, od4, .func (PySem.W.fnOf "rows_of_deed" "rows_of_deed" (defArgs s_rows_of_deed) (defBody s_rows_of_deed) (defScope s_rows_of_deed) .none kV4 dc4 pm4 an4 cd4 ct4), sl4⟩) (q4 : PySem.W.codeIn K cd4 "rows_of_deed" = true) (k4 : PySem.W.keepIn K (.ref f4) = true)
    {f5 : Addr} {od5 an5 : Option Addr} {sl5 : Array (Option Value)} {oc5 kV5 dc5 pm5 cd5 ct5 : Value} (a5 : PySem.W.nsIn K mainGlobals "rows_of_deeds" = some (some (.ref f5))) (l5 : K.lookup f5 = some ⟨oc5, od5, .func (PySem.W.fnOf "rows_of_deeds" "rows_of_deeds" (defArgs s_rows_of_deeds) (defBody s_rows_of_deeds) (defScope s_rows_of_deeds) .none kV5 dc5 pm5 an5 cd5 ct5), sl5⟩) (q5 : PySem.W.codeIn K cd5 "rows_of_deeds" = true) (k5 : PySem.W.keepIn K (.ref f5) = true)
    {f6 : Addr} {od6 an6 : Option Addr} {sl6 : Array (Option Value)} {oc6 kV6 dc6 pm6 cd6 ct6 : Value} (a6 : PySem.W.nsIn K mainGlobals "rows_shown" = some (some (.ref f6))) (l6 : K.lookup f6 = some ⟨oc6, od6, .func (PySem.W.fnOf "rows_shown" "rows_shown" (defArgs s_rows_shown) (defBody s_rows_shown) (defScope s_rows_shown) .none kV6 dc6 pm6 an6 cd6 ct6), sl6⟩) (q6 : PySem.W.codeIn K cd6 "rows_shown" = true) (k6 : PySem.W.keepIn K (.ref f6) = true)
    {f7 : Addr} {od7 an7 : Option Addr} {sl7 : Array (Option Value)} {oc7 kV7 dc7 pm7 cd7 ct7 : Value} (a7 : PySem.W.nsIn K mainGlobals "show" = some (some (.ref f7))) (l7 : K.lookup f7 = some ⟨oc7, od7, .func (PySem.W.fnOf "show" "show" (defArgs s_show) (defBody s_show) (defScope s_show) .none kV7 dc7 pm7 an7 cd7 ct7), sl7⟩) (q7 : PySem.W.codeIn K cd7 "show" = true) (k7 : PySem.W.keepIn K (.ref f7) = true)
    {f8 : Addr} {od8 an8 : Option Addr} {sl8 : Array (Option Value)} {oc8 kV8 dc8 pm8 cd8 ct8 : Value} (a8 : PySem.W.nsIn K mainGlobals "part_of_word" = some (some (.ref f8))) (l8 : K.lookup f8 = some ⟨oc8, od8, .func (PySem.W.fnOf "part_of_word" "part_of_word" (defArgs s_part_of_word) (defBody s_part_of_word) (defScope s_part_of_word) .none kV8 dc8 pm8 an8 cd8 ct8), sl8⟩) (q8 : PySem.W.codeIn K cd8 "part_of_word" = true) (k8 : PySem.W.keepIn K (.ref f8) = true)
    {f9 : Addr} {od9 an9 : Option Addr} {sl9 : Array (Option Value)} {oc9 kV9 dc9 pm9 cd9 ct9 : Value} (a9 : PySem.W.nsIn K mainGlobals "head_parts" = some (some (.ref f9))) (l9 : K.lookup f9 = some ⟨oc9, od9, .func (PySem.W.fnOf "head_parts" "head_parts" (defArgs s_head_parts) (defBody s_head_parts) (defScope s_head_parts) .none kV9 dc9 pm9 an9 cd9 ct9), sl9⟩) (q9 : PySem.W.codeIn K cd9 "head_parts" = true) (k9 : PySem.W.keepIn K (.ref f9) = true)
    {f10 : Addr} {od10 an10 : Option Addr} {sl10 : Array (Option Value)} {oc10 kV10 dc10 pm10 cd10 ct10 : Value} (a10 : PySem.W.findIn K (.ref O_Opened) "__init__" = some (some (.ref f10))) (i10 : PySem.W.isFn K (.ref f10) = true) (l10 : K.lookup f10 = some ⟨oc10, od10, .func (PySem.W.fnOf "__init__" "Opened.__init__" (defArgs s_Opened___init__) (defBody s_Opened___init__) (defScope s_Opened___init__) .none kV10 dc10 pm10 an10 cd10 ct10), sl10⟩) (q10 : PySem.W.codeIn K cd10 "Opened.__init__" = true) (k10 : PySem.W.keepIn K (.ref f10) = true)
    {f11 : Addr} {od11 an11 : Option Addr} {sl11 : Array (Option Value)} {oc11 kV11 dc11 pm11 cd11 ct11 : Value} (a11 : PySem.W.findIn K (.ref O_Opened) "wants_with" = some (some (.ref f11))) (i11 : PySem.W.isFn K (.ref f11) = true) (l11 : K.lookup f11 = some ⟨oc11, od11, .func (PySem.W.fnOf "wants_with" "Opened.wants_with" (defArgs s_Opened_wants_with) (defBody s_Opened_wants_with) (defScope s_Opened_wants_with) .none kV11 dc11 pm11 an11 cd11 ct11), sl11⟩) (q11 : PySem.W.codeIn K cd11 "Opened.wants_with" = true) (k11 : PySem.W.keepIn K (.ref f11) = true)
    {f12 : Addr} {od12 an12 : Option Addr} {sl12 : Array (Option Value)} {oc12 kV12 dc12 pm12 cd12 ct12 : Value} (a12 : PySem.W.findIn K (.ref O_Lines) "__init__" = some (some (.ref f12))) (i12 : PySem.W.isFn K (.ref f12) = true) (l12 : K.lookup f12 = some ⟨oc12, od12, .func (PySem.W.fnOf "__init__" "Lines.__init__" (defArgs s_Lines___init__) (defBody s_Lines___init__) (defScope s_Lines___init__) .none kV12 dc12 pm12 an12 cd12 ct12), sl12⟩) (q12 : PySem.W.codeIn K cd12 "Lines.__init__" = true) (k12 : PySem.W.keepIn K (.ref f12) = true)
    {f13 : Addr} {od13 an13 : Option Addr} {sl13 : Array (Option Value)} {oc13 kV13 dc13 pm13 cd13 ct13 : Value} (a13 : PySem.W.findIn K (.ref O_Lines) "put" = some (some (.ref f13))) (i13 : PySem.W.isFn K (.ref f13) = true) (l13 : K.lookup f13 = some ⟨oc13, od13, .func (PySem.W.fnOf "put" "Lines.put" (defArgs s_Lines_put) (defBody s_Lines_put) (defScope s_Lines_put) .none kV13 dc13 pm13 an13 cd13 ct13), sl13⟩) (q13 : PySem.W.codeIn K cd13 "Lines.put" = true) (k13 : PySem.W.keepIn K (.ref f13) = true)
    {f14 : Addr} {od14 an14 : Option Addr} {sl14 : Array (Option Value)} {oc14 kV14 dc14 pm14 cd14 ct14 : Value} (a14 : PySem.W.findIn K (.ref O_Lines) "takes_wires" = some (some (.ref f14))) (i14 : PySem.W.isFn K (.ref f14) = true) (l14 : K.lookup f14 = some ⟨oc14, od14, .func (PySem.W.fnOf "takes_wires" "Lines.takes_wires" (defArgs s_Lines_takes_wires) (defBody s_Lines_takes_wires) (defScope s_Lines_takes_wires) .none kV14 dc14 pm14 an14 cd14 ct14), sl14⟩) (q14 : PySem.W.codeIn K cd14 "Lines.takes_wires" = true) (k14 : PySem.W.keepIn K (.ref f14) = true)
    {f15 : Addr} {od15 an15 : Option Addr} {sl15 : Array (Option Value)} {oc15 kV15 dc15 pm15 cd15 ct15 : Value} (a15 : PySem.W.findIn K (.ref O_Lines) "takes_body" = some (some (.ref f15))) (i15 : PySem.W.isFn K (.ref f15) = true) (l15 : K.lookup f15 = some ⟨oc15, od15, .func (PySem.W.fnOf "takes_body" "Lines.takes_body" (defArgs s_Lines_takes_body) (defBody s_Lines_takes_body) (defScope s_Lines_takes_body) .none kV15 dc15 pm15 an15 cd15 ct15), sl15⟩) (q15 : PySem.W.codeIn K cd15 "Lines.takes_body" = true) (k15 : PySem.W.keepIn K (.ref f15) = true)
    {f16 : Addr} {od16 an16 : Option Addr} {sl16 : Array (Option Value)} {oc16 kV16 dc16 pm16 cd16 ct16 : Value} (a16 : PySem.W.findIn K (.ref O_Lines) "takes_turn" = some (some (.ref f16))) (i16 : PySem.W.isFn K (.ref f16) = true) (l16 : K.lookup f16 = some ⟨oc16, od16, .func (PySem.W.fnOf "takes_turn" "Lines.takes_turn" (defArgs s_Lines_takes_turn) (defBody s_Lines_takes_turn) (defScope s_Lines_takes_turn) .none kV16 dc16 pm16 an16 cd16 ct16), sl16⟩) (q16 : PySem.W.codeIn K cd16 "Lines.takes_turn" = true) (k16 : PySem.W.keepIn K (.ref f16) = true)
    {f17 : Addr} {od17 an17 : Option Addr} {sl17 : Array (Option Value)} {oc17 kV17 dc17 pm17 cd17 ct17 : Value} (a17 : PySem.W.findIn K (.ref O_Lines) "takes_deed" = some (some (.ref f17))) (i17 : PySem.W.isFn K (.ref f17) = true) (l17 : K.lookup f17 = some ⟨oc17, od17, .func (PySem.W.fnOf "takes_deed" "Lines.takes_deed" (defArgs s_Lines_takes_deed) (defBody s_Lines_takes_deed) (defScope s_Lines_takes_deed) .none kV17 dc17 pm17 an17 cd17 ct17), sl17⟩) (q17 : PySem.W.codeIn K cd17 "Lines.takes_deed" = true) (k17 : PySem.W.keepIn K (.ref f17) = true)
    {f18 : Addr} {od18 an18 : Option Addr} {sl18 : Array (Option Value)} {oc18 kV18 dc18 pm18 cd18 ct18 : Value} (a18 : PySem.W.findIn K (.ref O_Lines) "takes_line" = some (some (.ref f18))) (i18 : PySem.W.isFn K (.ref f18) = true) (l18 : K.lookup f18 = some ⟨oc18, od18, .func (PySem.W.fnOf "takes_line" "Lines.takes_line" (defArgs s_Lines_takes_line) (defBody s_Lines_takes_line) (defScope s_Lines_takes_line) .none kV18 dc18 pm18 an18 cd18 ct18), sl18⟩) (q18 : PySem.W.codeIn K cd18 "Lines.takes_line" = true) (k18 : PySem.W.keepIn K (.ref f18) = true)
    {f19 : Addr} {od19 an19 : Option Addr} {sl19 : Array (Option Value)} {oc19 kV19 dc19 pm19 cd19 ct19 : Value} (a19 : PySem.W.nsIn K mainGlobals "read" = some (some (.ref f19))) (l19 : K.lookup f19 = some ⟨oc19, od19, .func (PySem.W.fnOf "read" "read" (defArgs s_read) (defBody s_read) (defScope s_read) .none kV19 dc19 pm19 an19 cd19 ct19), sl19⟩) (q19 : PySem.W.codeIn K cd19 "read" = true) (k19 : PySem.W.keepIn K (.ref f19) = true)
    {f20 : Addr} {od20 an20 : Option Addr} {sl20 : Array (Option Value)} {oc20 kV20 dc20 pm20 cd20 ct20 : Value} (a20 : PySem.W.nsIn K mainGlobals "lines_of" = some (some (.ref f20))) (l20 : K.lookup f20 = some ⟨oc20, od20, .func (PySem.W.fnOf "lines_of" "lines_of" (defArgs s_lines_of) (defBody s_lines_of) (defScope s_lines_of) .none kV20 dc20 pm20 an20 cd20 ct20), sl20⟩) (q20 : PySem.W.codeIn K cd20 "lines_of" = true) (k20 : PySem.W.keepIn K (.ref f20) = true)
    {f21 : Addr} {od21 an21 : Option Addr} {sl21 : Array (Option Value)} {oc21 kV21 dc21 pm21 cd21 ct21 : Value} (a21 : PySem.W.nsIn K mainGlobals "_law_hand" = some (some (.ref f21))) (l21 : K.lookup f21 = some ⟨oc21, od21, .func (PySem.W.fnOf "_law_hand" "_law_hand" (defArgs s__law_hand) (defBody s__law_hand) (defScope s__law_hand) .none kV21 dc21 pm21 an21 cd21 ct21), sl21⟩) (q21 : PySem.W.codeIn K cd21 "_law_hand" = true) (k21 : PySem.W.keepIn K (.ref f21) = true)
    {f22 : Addr} {od22 an22 : Option Addr} {sl22 : Array (Option Value)} {oc22 kV22 dc22 pm22 cd22 ct22 : Value} (a22 : PySem.W.nsIn K mainGlobals "_law_take" = some (some (.ref f22))) (l22 : K.lookup f22 = some ⟨oc22, od22, .func (PySem.W.fnOf "_law_take" "_law_take" (defArgs s__law_take) (defBody s__law_take) (defScope s__law_take) .none kV22 dc22 pm22 an22 cd22 ct22), sl22⟩) (q22 : PySem.W.codeIn K cd22 "_law_take" = true) (k22 : PySem.W.keepIn K (.ref f22) = true)
    {f23 : Addr} {od23 an23 : Option Addr} {sl23 : Array (Option Value)} {oc23 kV23 dc23 pm23 cd23 ct23 : Value} (a23 : PySem.W.nsIn K mainGlobals "_law_pick" = some (some (.ref f23))) (l23 : K.lookup f23 = some ⟨oc23, od23, .func (PySem.W.fnOf "_law_pick" "_law_pick" (defArgs s__law_pick) (defBody s__law_pick) (defScope s__law_pick) .none kV23 dc23 pm23 an23 cd23 ct23), sl23⟩) (q23 : PySem.W.codeIn K cd23 "_law_pick" = true) (k23 : PySem.W.keepIn K (.ref f23) = true)
    {f24 : Addr} {od24 an24 : Option Addr} {sl24 : Array (Option Value)} {oc24 kV24 dc24 pm24 cd24 ct24 : Value} (a24 : PySem.W.nsIn K mainGlobals "_law_forms" = some (some (.ref f24))) (l24 : K.lookup f24 = some ⟨oc24, od24, .func (PySem.W.fnOf "_law_forms" "_law_forms" (defArgs s__law_forms) (defBody s__law_forms) (defScope s__law_forms) .none kV24 dc24 pm24 an24 cd24 ct24), sl24⟩) (q24 : PySem.W.codeIn K cd24 "_law_forms" = true) (k24 : PySem.W.keepIn K (.ref f24) = true)
    {f25 : Addr} {od25 an25 : Option Addr} {sl25 : Array (Option Value)} {oc25 kV25 dc25 pm25 cd25 ct25 : Value} (a25 : PySem.W.nsIn K mainGlobals "_law_name" = some (some (.ref f25))) (l25 : K.lookup f25 = some ⟨oc25, od25, .func (PySem.W.fnOf "_law_name" "_law_name" (defArgs s__law_name) (defBody s__law_name) (defScope s__law_name) .none kV25 dc25 pm25 an25 cd25 ct25), sl25⟩) (q25 : PySem.W.codeIn K cd25 "_law_name" = true) (k25 : PySem.W.keepIn K (.ref f25) = true)
    {f26 : Addr} {od26 an26 : Option Addr} {sl26 : Array (Option Value)} {oc26 kV26 dc26 pm26 cd26 ct26 : Value} (a26 : PySem.W.nsIn K mainGlobals "_law_deed" = some (some (.ref f26))) (l26 : K.lookup f26 = some ⟨oc26, od26, .func (PySem.W.fnOf "_law_deed" "_law_deed" (defArgs s__law_deed) (defBody s__law_deed) (defScope s__law_deed) .none kV26 dc26 pm26 an26 cd26 ct26), sl26⟩) (q26 : PySem.W.codeIn K cd26 "_law_deed" = true) (k26 : PySem.W.keepIn K (.ref f26) = true)
    {f27 : Addr} {od27 an27 : Option Addr} {sl27 : Array (Option Value)} {oc27 kV27 dc27 pm27 cd27 ct27 : Value} (a27 : PySem.W.nsIn K mainGlobals "_law_deeds" = some (some (.ref f27))) (l27 : K.lookup f27 = some ⟨oc27, od27, .func (PySem.W.fnOf "_law_deeds" "_law_deeds" (defArgs s__law_deeds) (defBody s__law_deeds) (defScope s__law_deeds) .none kV27 dc27 pm27 an27 cd27 ct27), sl27⟩) (q27 : PySem.W.codeIn K cd27 "_law_deeds" = true) (k27 : PySem.W.keepIn K (.ref f27) = true)
    {f28 : Addr} {od28 an28 : Option Addr} {sl28 : Array (Option Value)} {oc28 kV28 dc28 pm28 cd28 ct28 : Value} (a28 : PySem.W.nsIn K mainGlobals "_law_unlike" = some (some (.ref f28))) (l28 : K.lookup f28 = some ⟨oc28, od28, .func (PySem.W.fnOf "_law_unlike" "_law_unlike" (defArgs s__law_unlike) (defBody s__law_unlike) (defScope s__law_unlike) .none kV28 dc28 pm28 an28 cd28 ct28), sl28⟩) (q28 : PySem.W.codeIn K cd28 "_law_unlike" = true) (k28 : PySem.W.keepIn K (.ref f28) = true)
    {f29 : Addr} {od29 an29 : Option Addr} {sl29 : Array (Option Value)} {oc29 kV29 dc29 pm29 cd29 ct29 : Value} (a29 : PySem.W.nsIn K mainGlobals "_law_formed" = some (some (.ref f29))) (l29 : K.lookup f29 = some ⟨oc29, od29, .func (PySem.W.fnOf "_law_formed" "_law_formed" (defArgs s__law_formed) (defBody s__law_formed) (defScope s__law_formed) .none kV29 dc29 pm29 an29 cd29 ct29), sl29⟩) (q29 : PySem.W.codeIn K cd29 "_law_formed" = true) (k29 : PySem.W.keepIn K (.ref f29) = true)
    {f30 : Addr} {od30 an30 : Option Addr} {sl30 : Array (Option Value)} {oc30 kV30 dc30 pm30 cd30 ct30 : Value} (a30 : PySem.W.nsIn K mainGlobals "_law_lines" = some (some (.ref f30))) (l30 : K.lookup f30 = some ⟨oc30, od30, .func (PySem.W.fnOf "_law_lines" "_law_lines" (defArgs s__law_lines) (defBody s__law_lines) (defScope s__law_lines) .none kV30 dc30 pm30 an30 cd30 ct30), sl30⟩) (q30 : PySem.W.codeIn K cd30 "_law_lines" = true) (k30 : PySem.W.keepIn K (.ref f30) = true)
    {f31 : Addr} {od31 an31 : Option Addr} {sl31 : Array (Option Value)} {oc31 kV31 dc31 pm31 cd31 ct31 : Value} (a31 : PySem.W.nsIn K mainGlobals "_law_written" = some (some (.ref f31))) (l31 : K.lookup f31 = some ⟨oc31, od31, .func (PySem.W.fnOf "_law_written" "_law_written" (defArgs s__law_written) (defBody s__law_written) (defScope s__law_written) .none kV31 dc31 pm31 an31 cd31 ct31), sl31⟩) (q31 : PySem.W.codeIn K cd31 "_law_written" = true) (k31 : PySem.W.keepIn K (.ref f31) = true)
    {f32 : Addr} {od32 an32 : Option Addr} {sl32 : Array (Option Value)} {oc32 kV32 dc32 pm32 cd32 ct32 : Value} (a32 : PySem.W.nsIn K mainGlobals "law" = some (some (.ref f32))) (l32 : K.lookup f32 = some ⟨oc32, od32, .func (PySem.W.fnOf "law" "law" (defArgs s_law) (defBody s_law) (defScope s_law) .none kV32 dc32 pm32 an32 cd32 ct32), sl32⟩) (q32 : PySem.W.codeIn K cd32 "law" = true) (k32 : PySem.W.keepIn K (.ref f32) = true)
    (z_isinstance : PySem.W.nsIn K mainGlobals "isinstance" = some none)
    (z_str : PySem.W.nsIn K mainGlobals "str" = some none)
    (z_len : PySem.W.nsIn K mainGlobals "len" = some none)
    (z_all : PySem.W.nsIn K mainGlobals "all" = some none)
    (z_tuple : PySem.W.nsIn K mainGlobals "tuple" = some none)
    (z_set : PySem.W.nsIn K mainGlobals "set" = some none)
    (z_zip : PySem.W.nsIn K mainGlobals "zip" = some none)
    (z_list : PySem.W.nsIn K mainGlobals "list" = some none)
    (z_enumerate : PySem.W.nsIn K mainGlobals "enumerate" = some none)
    (z_int : PySem.W.nsIn K mainGlobals "int" = some none)
    (z_abs : PySem.W.nsIn K mainGlobals "abs" = some none)
    (z_range : PySem.W.nsIn K mainGlobals "range" = some none)
    (z_sum : PySem.W.nsIn K mainGlobals "sum" = some none)
    (z_max : PySem.W.nsIn K mainGlobals "max" = some none)
    (z_min : PySem.W.nsIn K mainGlobals "min" = some none)
    (z_repr : PySem.W.nsIn K mainGlobals "repr" = some none)
    {C_NoText I_NoText : Addr} {od_NoText an_NoText : Option Addr} {sl_NoText : Array (Option Value)} {oc_NoText kV_NoText dc_NoText pm_NoText cd_NoText ct_NoText : Value}
    (xa_NoText : PySem.W.nsIn K mainGlobals "NoText" = some (some (.ref C_NoText)))
    (xo_NoText : PySem.W.excInitIn K C_NoText [.type "ValueError", .type "Exception", .type "BaseException", .type "object"] "ValueError.__new__" = true)
    (xv_NoText : PySem.W.excOver K C_NoText [.type "ValueError", .type "Exception", .type "BaseException", .type "object"] = true)
    (xh_NoText : PySem.W.hasDictIn K C_NoText = true)
    (xs_NoText : PySem.W.findIn K (.ref C_NoText) "__setattr__" = some (some (.builtin "object.__setattr__")))
    (xe_NoText : PySem.W.subIn K (.ref C_NoText) (.type "BaseException") = some true)
    (xy_NoText : PySem.W.typeIn K (.ref C_NoText) = some (.type "type"))
    (xk_NoText : PySem.W.keepIn K (.ref C_NoText) = true)
    (xf0_NoText : PySem.W.findIn K (.ref C_NoText) "line" = some none)
    (xi_NoText : PySem.W.findIn K (.ref C_NoText) "__init__" = some (some (.ref I_NoText)))
    (xz_NoText : PySem.W.typeIn K (.ref I_NoText) = some (.type "function"))
    (xl_NoText : K.lookup I_NoText = some ⟨oc_NoText, od_NoText, .func (PySem.W.fnOf "__init__" "NoText.__init__" (defArgs i_NoText) (defBody i_NoText) (defScope i_NoText) .none kV_NoText dc_NoText pm_NoText an_NoText cd_NoText ct_NoText), sl_NoText⟩)
    (xq_NoText : PySem.W.codeIn K cd_NoText "NoText.__init__" = true)
    (xj_NoText : PySem.W.keepIn K (.ref I_NoText) = true)
    {t_MOST_SIGNS : Tok} (g_MOST_SIGNS : PySem.W.nsIn K mainGlobals "MOST_SIGNS" = some (some (.int (8) t_MOST_SIGNS)))
    {p_WORDS : Addr} {t_WORDS_0 t_WORDS_1 t_WORDS_2 t_WORDS_3 t_WORDS_4 t_WORDS_5 t_WORDS_6 t_WORDS_7 t_WORDS_8 t_WORDS_9 t_WORDS_10 t_WORDS_11 t_WORDS_12 t_WORDS_13 t_WORDS_14 t_WORDS_15 t_WORDS_16 t_WORDS_17 : Tok} {n_WORDS : Nat} {s_WORDS : Array (Option Value)} (g_WORDS : PySem.W.nsIn K mainGlobals "WORDS" = some (some (.ref p_WORDS))) (h_WORDS : K.lookup p_WORDS = some ⟨.type "tuple", none, .seq #[.str "not" t_WORDS_0, .str "half" t_WORDS_1, .str "turn" t_WORDS_2, .str "phase" t_WORDS_3, .str "flip" t_WORDS_4, .str "cross" t_WORDS_5, .str "under" t_WORDS_6, .str "back" t_WORDS_7, .str "borrow" t_WORDS_8, .str "around" t_WORDS_9, .str "call" t_WORDS_10, .str "times" t_WORDS_11, .str "look" t_WORDS_12, .str "when" t_WORDS_13, .str "wires" t_WORDS_14, .str "body" t_WORDS_15, .str "end" t_WORDS_16, .str "with" t_WORDS_17] n_WORDS, s_WORDS⟩)
    {t_LETTERS : Tok} (g_LETTERS : PySem.W.nsIn K mainGlobals "LETTERS" = some (some (.str "abcdefghijklmnopqrstuvwxyz" t_LETTERS)))
    {t_FIGURES : Tok} (g_FIGURES : PySem.W.nsIn K mainGlobals "FIGURES" = some (some (.str "0123456789" t_FIGURES)))
    {t_MOST_BODIES : Tok} (g_MOST_BODIES : PySem.W.nsIn K mainGlobals "MOST_BODIES" = some (some (.int (8) t_MOST_BODIES)))
    {t_MOST_DEEP : Tok} (g_MOST_DEEP : PySem.W.nsIn K mainGlobals "MOST_DEEP" = some (some (.int (6) t_MOST_DEEP)))
    {t_MOST_DEEDS : Tok} (g_MOST_DEEDS : PySem.W.nsIn K mainGlobals "MOST_DEEDS" = some (some (.int (60) t_MOST_DEEDS)))
    {p_DEED_PARTS : Addr} {t_DEED_PARTS_0 u_DEED_PARTS_0 t_DEED_PARTS_1 u_DEED_PARTS_1 t_DEED_PARTS_2 u_DEED_PARTS_2 t_DEED_PARTS_3 u_DEED_PARTS_3 t_DEED_PARTS_4 u_DEED_PARTS_4 t_DEED_PARTS_5 u_DEED_PARTS_5 t_DEED_PARTS_6 u_DEED_PARTS_6 t_DEED_PARTS_7 u_DEED_PARTS_7 t_DEED_PARTS_8 u_DEED_PARTS_8 t_DEED_PARTS_9 u_DEED_PARTS_9 t_DEED_PARTS_10 u_DEED_PARTS_10 t_DEED_PARTS_11 u_DEED_PARTS_11 t_DEED_PARTS_12 u_DEED_PARTS_12 t_DEED_PARTS_13 u_DEED_PARTS_13 : Tok} {n_DEED_PARTS : Nat} (gd_DEED_PARTS : PySem.W.nsIn K mainGlobals "DEED_PARTS" = some (some (.ref p_DEED_PARTS))) (hd_DEED_PARTS : K.lookup p_DEED_PARTS = some ⟨.type "dict", none, .dict #[⟨hashStr w "not", .str "not" t_DEED_PARTS_0, .str "n" u_DEED_PARTS_0⟩, ⟨hashStr w "half", .str "half" t_DEED_PARTS_1, .str "n" u_DEED_PARTS_1⟩, ⟨hashStr w "turn", .str "turn" t_DEED_PARTS_2, .str "jn" u_DEED_PARTS_2⟩, ⟨hashStr w "phase", .str "phase" t_DEED_PARTS_3, .str "j" u_DEED_PARTS_3⟩, ⟨hashStr w "flip", .str "flip" t_DEED_PARTS_4, .str "nn" u_DEED_PARTS_4⟩, ⟨hashStr w "cross", .str "cross" t_DEED_PARTS_5, .str "nn" u_DEED_PARTS_5⟩, ⟨hashStr w "under", .str "under" t_DEED_PARTS_6, .str "nd" u_DEED_PARTS_6⟩, ⟨hashStr w "back", .str "back" t_DEED_PARTS_7, .str "d" u_DEED_PARTS_7⟩, ⟨hashStr w "times", .str "times" t_DEED_PARTS_8, .str "td" u_DEED_PARTS_8⟩, ⟨hashStr w "borrow", .str "borrow" t_DEED_PARTS_9, .str "nd" u_DEED_PARTS_9⟩, ⟨hashStr w "around", .str "around" t_DEED_PARTS_10, .str "dd" u_DEED_PARTS_10⟩, ⟨hashStr w "call", .str "call" t_DEED_PARTS_11, .str "nw" u_DEED_PARTS_11⟩, ⟨hashStr w "look", .str "look" t_DEED_PARTS_12, .str "nn" u_DEED_PARTS_12⟩, ⟨hashStr w "when", .str "when" t_DEED_PARTS_13, .str "nd" u_DEED_PARTS_13⟩] n_DEED_PARTS, #[]⟩) (sd_DEED_PARTS : (p_DEED_PARTS == sysModules) = false) :
    ∃ fd : FuncData, (∀ (s : Shared) (v : Value), BindsTo s fd ⟨[v], []⟩ [("_law_script", v)]) ∧ ∀ base : Heap, K.In base → base.Ns mainGlobals mg → FnG l.prog w K mg base CX0 19 fa fd ["_law_script"] (spLaw K SLawP) := by
  have oe_Opened : clsAd K "Opened" = O_Opened := by unfold clsAd; rw [ca_Opened]
  have oc_Opened : PySem.W.nsIn K mainGlobals "Opened" = some (some (.ref (clsAd K "Opened"))) := by rw [oe_Opened]; exact ca_Opened
  have ok_Opened : Cls K (clsAd K "Opened") := by rw [oe_Opened]; exact ⟨cp_Opened, ch_Opened, co_Opened, cs_Opened⟩
  have op_Opened : ClsP K "Opened" ["word", "parts", "lots"] := ⟨O_Opened, ca_Opened, ⟨cp_Opened, ch_Opened, co_Opened, cs_Opened⟩, fun f hf => by simp only [List.mem_cons, List.not_mem_nil, or_false] at hf; rcases hf with rfl | rfl | rfl <;> first | exact cf0_Opened | exact cf1_Opened | exact cf2_Opened⟩
  have oe_Lines : clsAd K "Lines" = O_Lines := by unfold clsAd; rw [ca_Lines]
  have oc_Lines : PySem.W.nsIn K mainGlobals "Lines" = some (some (.ref (clsAd K "Lines"))) := by rw [oe_Lines]; exact ca_Lines
  have ok_Lines : Cls K (clsAd K "Lines") := by rw [oe_Lines]; exact ⟨cp_Lines, ch_Lines, co_Lines, cs_Lines⟩
  have op_Lines : ClsP K "Lines" ["wires", "bodies", "own_deeds", "opened", "many"] := ⟨O_Lines, ca_Lines, ⟨cp_Lines, ch_Lines, co_Lines, cs_Lines⟩, fun f hf => by simp only [List.mem_cons, List.not_mem_nil, or_false] at hf; rcases hf with rfl | rfl | rfl | rfl | rfl <;> first | exact cf0_Lines | exact cf1_Lines | exact cf2_Lines | exact cf3_Lines | exact cf4_Lines⟩
  have T : Txt w K mg := ⟨PySem.W.mg_none_of X G z_isinstance, PySem.W.mg_none_of X G z_str, PySem.W.mg_none_of X G z_len, PySem.W.mg_none_of X G z_all, PySem.W.mg_none_of X G z_tuple, PySem.W.mg_none_of X G z_set, PySem.W.mg_none_of X G z_zip, PySem.W.mg_none_of X G z_list, PySem.W.mg_none_of X G z_enumerate, PySem.W.mg_none_of X G z_int, PySem.W.mg_none_of X G z_abs, PySem.W.mg_none_of X G z_range, PySem.W.mg_none_of X G z_sum, PySem.W.mg_none_of X G z_max, PySem.W.mg_none_of X G z_min, PySem.W.mg_none_of X G z_repr, glob_int (PySem.W.mg_of X G g_MOST_SIGNS), glob_tup (xs := [.str "not", .str "half", .str "turn", .str "phase", .str "flip", .str "cross", .str "under", .str "back", .str "borrow", .str "around", .str "call", .str "times", .str "look", .str "when", .str "wires", .str "body", .str "end", .str "with"]) (PySem.W.mg_of X G g_WORDS) h_WORDS rfl rfl rfl (by simp [sizeLine]) (.cons ⟨_, rfl⟩ (.cons ⟨_, rfl⟩ (.cons ⟨_, rfl⟩ (.cons ⟨_, rfl⟩ (.cons ⟨_, rfl⟩ (.cons ⟨_, rfl⟩ (.cons ⟨_, rfl⟩ (.cons ⟨_, rfl⟩ (.cons ⟨_, rfl⟩ (.cons ⟨_, rfl⟩ (.cons ⟨_, rfl⟩ (.cons ⟨_, rfl⟩ (.cons ⟨_, rfl⟩ (.cons ⟨_, rfl⟩ (.cons ⟨_, rfl⟩ (.cons ⟨_, rfl⟩ (.cons ⟨_, rfl⟩ (.cons ⟨_, rfl⟩ (.nil))))))))))))))))))) (fun _ => by simp [RepL, Rep]), glob_str (PySem.W.mg_of X G g_LETTERS), glob_str (PySem.W.mg_of X G g_FIGURES), glob_int (PySem.W.mg_of X G g_MOST_BODIES), glob_int (PySem.W.mg_of X G g_MOST_DEEP), glob_int (PySem.W.mg_of X G g_MOST_DEEDS), glo_dct (PySem.W.mg_of X G gd_DEED_PARTS) hd_DEED_PARTS sd_DEED_PARTS (.cons ⟨rfl, ⟨_, rfl⟩, _, rfl⟩ (.cons ⟨rfl, ⟨_, rfl⟩, _, rfl⟩ (.cons ⟨rfl, ⟨_, rfl⟩, _, rfl⟩ (.cons ⟨rfl, ⟨_, rfl⟩, _, rfl⟩ (.cons ⟨rfl, ⟨_, rfl⟩, _, rfl⟩ (.cons ⟨rfl, ⟨_, rfl⟩, _, rfl⟩ (.cons ⟨rfl, ⟨_, rfl⟩, _, rfl⟩ (.cons ⟨rfl, ⟨_, rfl⟩, _, rfl⟩ (.cons ⟨rfl, ⟨_, rfl⟩, _, rfl⟩ (.cons ⟨rfl, ⟨_, rfl⟩, _, rfl⟩ (.cons ⟨rfl, ⟨_, rfl⟩, _, rfl⟩ (.cons ⟨rfl, ⟨_, rfl⟩, _, rfl⟩ (.cons ⟨rfl, ⟨_, rfl⟩, _, rfl⟩ (.cons ⟨rfl, ⟨_, rfl⟩, _, rfl⟩ (.nil))))))))))))))) (by decide +kernel), op_Opened, op_Lines⟩
  have e := hfa.symm.trans (PySem.W.mg_of X G a32)
  cases e
  refine ⟨_, fun s v => BindsTo.of_eq (fd := PySem.W.fnOf "law" "law" (defArgs s_law) (defBody s_law) (defScope s_law) .none kV32 dc32 pm32 an32 cd32 ct32) rfl, fun base _ _ => ?_⟩
  have ag : Agr K mg := agr_of X G
  have e_NoText : clsAd K "NoText" = C_NoText := by unfold clsAd; rw [xa_NoText]
  have o_NoText : OxG K C_NoText := ⟨⟨_, _, _, _, PySem.F.excBase_ValueError, PySem.F.store_ValueError, xo_NoText, xv_NoText⟩, xh_NoText, xs_NoText, xe_NoText, xy_NoText, xk_NoText⟩
  have x_NoText : Xcl l.prog w K mg base "NoText" ["line"] 1 := ⟨by rw [e_NoText]; exact xa_NoText, by rw [e_NoText]; exact o_NoText, by rw [e_NoText]; exact fun f hf => by rw [List.mem_singleton.mp hf]; exact xf0_NoText, ⟨I_NoText, _, ["self", "line"], by rw [e_NoText]; exact xi_NoText, xz_NoText, init1 (fun_mk (st := i_NoText) xl_NoText xq_NoText xj_NoText) (N := ["self", "line"]) ⟨rfl, rfl, rfl, by decide +kernel, rfl, by decide +kernel, by decide +kernel⟩ (fun vs hv => match vs, hv with | [_, _], _ => ⟨rfl, rfl⟩) fun _ _ _ _ _ _ => pss_one (ps_st (pv 0) (pv 1)), (fun_mk (st := i_NoText) xl_NoText xq_NoText xj_NoText).binds fun _ _ _ _ _ _ us hl => match us, hl with | [_, _], _ => rfl⟩, by decide⟩
  have F_is_name := fun_mk (st := s_is_name) l0 q0 k0
  have c_is_name : Cal l.prog w K mg base "is_name" ["thing"] 1 S_is_name := ⟨_, _, ok_is_name F_is_name T, PySem.W.mg_of X G a0, k0, F_is_name.binds fun _ _ _ _ _ _ us hl => match us, hl with | [_], _ => rfl, ar_is_name⟩
  have F_are_names := fun_mk (st := s_are_names) l1 q1 k1
  have hq_are_names : ∀ q ∈ ([("low", .int 1), ("high", .int 5)] : List (Str × V)), ∃ u, PySem.W.nsIn K D1 q.1 = some (some u) ∧ RelV q.2 u := fun q hq => match q, hq with | _, .head _ => ⟨_, kd1_0, ⟨_, rfl⟩⟩ | _, .tail _ (.head _) => ⟨_, kd1_1, ⟨_, rfl⟩⟩
  have D_are_names : FunD K "are_names" "are_names" (defArgs s_are_names) (defBody s_are_names) (defScope s_are_names) [] [("low", .int 1), ("high", .int 5)] _ _ := ⟨⟨_, _, _, _, _, _, _, _, _, _, rfl, l1, q1, .inl ⟨rfl, rfl⟩, .inr ⟨D1, rfl, hq_are_names⟩⟩, k1⟩
  obtain ⟨ds_are_names, dv_are_names, db_are_names⟩ := FunD.binds0 (ps := ["thing", "low", "high"]) D_are_names 1 (by simp) rfl (fun D doc pm an cdv ct us ks h1 h2 => match us, ks, h1, h2 with | [_], [_, _], _, _ => ⟨_, _, _, _, _, _, rfl, rfl, ⟨_, _, _, _, _, _, rfl, rfl, rfl⟩⟩)
  have c_are_names : CalD l.prog w K mg base "are_names" ["thing", "low", "high"] 2 S_are_names [.int 1, .int 5] [.int 1, .int 5] := ⟨_, _, ds_are_names, ok_are_names F_are_names T c_is_name, PySem.W.mg_of X G a1, k1, db_are_names, dv_are_names, fun _ => by simp [RepL, Rep], ar_are_names⟩
  have F_are_unlike := fun_mk (st := s_are_unlike) l2 q2 k2
  have c_are_unlike : Cal l.prog w K mg base "are_unlike" ["things"] 1 S_are_unlike := ⟨_, _, ok_are_unlike F_are_unlike T, PySem.W.mg_of X G a2, k2, F_are_unlike.binds fun _ _ _ _ _ _ us hl => match us, hl with | [_], _ => rfl, ar_are_unlike⟩
  have F_head_of := fun_mk (st := s_head_of) l3 q3 k3
  have c_head_of : Cal l.prog w K mg base "head_of" ["deed"] 1 S_head_of := ⟨_, _, ok_head_of F_head_of T, PySem.W.mg_of X G a3, k3, F_head_of.binds fun _ _ _ _ _ _ us hl => match us, hl with | [_], _ => rfl, ar_head_of⟩
  have F_rows_of_deed := fun_mk (st := s_rows_of_deed) l4 q4 k4
  have b_rows_of_deed : Binds K _ ["deed", "place"] [] := F_rows_of_deed.binds fun _ _ _ _ _ _ us hl => match us, hl with | [_, _], _ => rfl
  have F_rows_of_deeds := fun_mk (st := s_rows_of_deeds) l5 q5 k5
  have b_rows_of_deeds : Binds K _ ["deeds", "place", "begin"] [] := F_rows_of_deeds.binds fun _ _ _ _ _ _ us hl => match us, hl with | [_, _, _], _ => rfl
  have og := okg_rows_of_deed F_rows_of_deed F_rows_of_deeds T c_head_of (PySem.W.mg_of X G a4) k4 b_rows_of_deed (PySem.W.mg_of X G a5) k5 b_rows_of_deeds
  have c_rows_of_deed : Cal l.prog w K mg base "rows_of_deed" ["deed", "place"] 15 S_rows_of_deed := ⟨_, _, (og 13).1, PySem.W.mg_of X G a4, k4, b_rows_of_deed, ar_rows_of_deed⟩
  have c_rows_of_deeds : Cal l.prog w K mg base "rows_of_deeds" ["deeds", "place", "begin"] 15 S_rows_of_deeds := ⟨_, _, (og 13).2, PySem.W.mg_of X G a5, k5, b_rows_of_deeds, ar_rows_of_deeds⟩
  have F_rows_shown := fun_mk (st := s_rows_shown) l6 q6 k6
  have c_rows_shown : Cal l.prog w K mg base "rows_shown" ["program"] 16 S_rows_shown := ⟨_, _, ok_rows_shown F_rows_shown T c_rows_of_deeds, PySem.W.mg_of X G a6, k6, F_rows_shown.binds fun _ _ _ _ _ _ us hl => match us, hl with | [_], _ => rfl, ar_rows_shown⟩
  have F_show := fun_mk (st := s_show) l7 q7 k7
  have c_show : Cal l.prog w K mg base "show" ["program"] 17 S_show := ⟨_, _, ok_show F_show T c_rows_shown, PySem.W.mg_of X G a7, k7, F_show.binds fun _ _ _ _ _ _ us hl => match us, hl with | [_], _ => rfl, ar_show⟩
  have p_show_0 : PCal l.prog w K mg base "show" ["program"] 0 ["program"] [0] 17 S_show := ⟨_, _, ok_show F_show T c_rows_shown, PySem.W.mg_of X G a7, k7, (fun s us ws _ h1 h2 => .of_eq (match us, ws, h1, h2 with | [], [_], _, _ => rfl)), ar_show⟩
  have F_part_of_word := fun_mk (st := s_part_of_word) l8 q8 k8
  have c_part_of_word : Cal l.prog w K mg base "part_of_word" ["sort", "word"] 2 S_part_of_word := ⟨_, _, ok_part_of_word F_part_of_word T c_is_name, PySem.W.mg_of X G a8, k8, F_part_of_word.binds fun _ _ _ _ _ _ us hl => match us, hl with | [_, _], _ => rfl, ar_part_of_word⟩
  have F_head_parts := fun_mk (st := s_head_parts) l9 q9 k9
  have c_head_parts : Cal l.prog w K mg base "head_parts" ["words"] 3 S_head_parts := ⟨_, _, ok_head_parts F_head_parts T c_is_name c_are_names c_part_of_word, PySem.W.mg_of X G a9, k9, F_head_parts.binds fun _ _ _ _ _ _ us hl => match us, hl with | [_], _ => rfl, ar_head_parts⟩
  have F_Opened___init__ := fun_mk (st := s_Opened___init__) l10 q10 k10
  have c_Opened___init__ : CalI l.prog w K mg base "Opened" ["self", "word", "parts"] 1 S_Opened___init__ := ⟨oc_Opened, by rw [oe_Opened]; exact PySem.W.mg_of X G ca_Opened, _, _, by rw [oe_Opened]; exact ⟨cm_Opened, a10, i10, ck_Opened⟩, ok_Opened___init__ F_Opened___init__ T, F_Opened___init__.binds fun _ _ _ _ _ _ us hl => match us, hl with | [_, _, _], _ => rfl, ar_Opened___init__⟩
  have F_Opened_wants_with := fun_mk (st := s_Opened_wants_with) l11 q11 k11
  have m_Opened_wants_with : Meth K (clsAd K "Opened") "wants_with" f11 := by rw [oe_Opened]; exact ⟨a11, i11, k11⟩
  have b_Opened_wants_with : Binds K _ ["self"] [] := F_Opened_wants_with.binds fun _ _ _ _ _ _ us hl => match us, hl with | [_], _ => rfl
  have c_Opened_wants_with : CalM l.prog w K mg base "Opened" "wants_with" ["self"] 1 S_Opened_wants_with := ⟨oc_Opened, ok_Opened, _, _, m_Opened_wants_with, ok_Opened_wants_with F_Opened_wants_with T, b_Opened_wants_with, ar_Opened_wants_with⟩
  have F_Lines___init__ := fun_mk (st := s_Lines___init__) l12 q12 k12
  have c_Lines___init__ : CalI l.prog w K mg base "Lines" ["self"] 1 S_Lines___init__ := ⟨oc_Lines, by rw [oe_Lines]; exact PySem.W.mg_of X G ca_Lines, _, _, by rw [oe_Lines]; exact ⟨cm_Lines, a12, i12, ck_Lines⟩, ok_Lines___init__ F_Lines___init__ T, F_Lines___init__.binds fun _ _ _ _ _ _ us hl => match us, hl with | [_], _ => rfl, ar_Lines___init__⟩
  have F_Lines_put := fun_mk (st := s_Lines_put) l13 q13 k13
  have m_Lines_put : Meth K (clsAd K "Lines") "put" f13 := by rw [oe_Lines]; exact ⟨a13, i13, k13⟩
  have b_Lines_put : Binds K _ ["self", "deed"] [] := F_Lines_put.binds fun _ _ _ _ _ _ us hl => match us, hl with | [_, _], _ => rfl
  have c_Lines_put : CalM l.prog w K mg base "Lines" "put" ["self", "deed"] 1 S_Lines_put := ⟨oc_Lines, ok_Lines, _, _, m_Lines_put, ok_Lines_put F_Lines_put T, b_Lines_put, ar_Lines_put⟩
  have F_Lines_takes_wires := fun_mk (st := s_Lines_takes_wires) l14 q14 k14
  have m_Lines_takes_wires : Meth K (clsAd K "Lines") "takes_wires" f14 := by rw [oe_Lines]; exact ⟨a14, i14, k14⟩
  have b_Lines_takes_wires : Binds K _ ["self", "names"] [] := F_Lines_takes_wires.binds fun _ _ _ _ _ _ us hl => match us, hl with | [_, _], _ => rfl
  have c_Lines_takes_wires : CalM l.prog w K mg base "Lines" "takes_wires" ["self", "names"] 3 S_Lines_takes_wires := ⟨oc_Lines, ok_Lines, _, _, m_Lines_takes_wires, ok_Lines_takes_wires F_Lines_takes_wires T c_are_names c_are_unlike, b_Lines_takes_wires, ar_Lines_takes_wires⟩
  have F_Lines_takes_body := fun_mk (st := s_Lines_takes_body) l15 q15 k15
  have m_Lines_takes_body : Meth K (clsAd K "Lines") "takes_body" f15 := by rw [oe_Lines]; exact ⟨a15, i15, k15⟩
  have b_Lines_takes_body : Binds K _ ["self", "words"] [] := F_Lines_takes_body.binds fun _ _ _ _ _ _ us hl => match us, hl with | [_, _], _ => rfl
  have c_Lines_takes_body : CalM l.prog w K mg base "Lines" "takes_body" ["self", "words"] 3 S_Lines_takes_body := ⟨oc_Lines, ok_Lines, _, _, m_Lines_takes_body, ok_Lines_takes_body F_Lines_takes_body T c_is_name c_Opened___init__ c_are_names c_are_unlike, b_Lines_takes_body, ar_Lines_takes_body⟩
  have F_Lines_takes_turn := fun_mk (st := s_Lines_takes_turn) l16 q16 k16
  have m_Lines_takes_turn : Meth K (clsAd K "Lines") "takes_turn" f16 := by rw [oe_Lines]; exact ⟨a16, i16, k16⟩
  have b_Lines_takes_turn : Binds K _ ["self", "word"] [] := F_Lines_takes_turn.binds fun _ _ _ _ _ _ us hl => match us, hl with | [_, _], _ => rfl
  have c_Lines_takes_turn : CalM l.prog w K mg base "Lines" "takes_turn" ["self", "word"] 2 S_Lines_takes_turn := ⟨oc_Lines, ok_Lines, _, _, m_Lines_takes_turn, ok_Lines_takes_turn F_Lines_takes_turn T c_Opened_wants_with c_Lines_put, b_Lines_takes_turn, ar_Lines_takes_turn⟩
  have F_Lines_takes_deed := fun_mk (st := s_Lines_takes_deed) l17 q17 k17
  have m_Lines_takes_deed : Meth K (clsAd K "Lines") "takes_deed" f17 := by rw [oe_Lines]; exact ⟨a17, i17, k17⟩
  have b_Lines_takes_deed : Binds K _ ["self", "words"] [] := F_Lines_takes_deed.binds fun _ _ _ _ _ _ us hl => match us, hl with | [_, _], _ => rfl
  have c_Lines_takes_deed : CalM l.prog w K mg base "Lines" "takes_deed" ["self", "words"] 4 S_Lines_takes_deed := ⟨oc_Lines, ok_Lines, _, _, m_Lines_takes_deed, ok_Lines_takes_deed F_Lines_takes_deed T c_head_parts c_Opened___init__ c_Lines_put, b_Lines_takes_deed, ar_Lines_takes_deed⟩
  have F_Lines_takes_line := fun_mk (st := s_Lines_takes_line) l18 q18 k18
  have m_Lines_takes_line : Meth K (clsAd K "Lines") "takes_line" f18 := by rw [oe_Lines]; exact ⟨a18, i18, k18⟩
  have b_Lines_takes_line : Binds K _ ["self", "line"] [] := F_Lines_takes_line.binds fun _ _ _ _ _ _ us hl => match us, hl with | [_, _], _ => rfl
  have c_Lines_takes_line : CalM l.prog w K mg base "Lines" "takes_line" ["self", "line"] 5 S_Lines_takes_line := ⟨oc_Lines, ok_Lines, _, _, m_Lines_takes_line, ok_Lines_takes_line F_Lines_takes_line T c_Lines_takes_wires c_Lines_takes_body c_Lines_takes_turn c_Lines_takes_deed, b_Lines_takes_line, ar_Lines_takes_line⟩
  have F_read := fun_mk (st := s_read) l19 q19 k19
  have x_read : CalX l.prog w K mg base "read" ["text"] 6 S_read := ⟨⟨_, _, ok_read F_read T c_Lines___init__ c_Lines_takes_line x_NoText ag, PySem.W.mg_of X G a19, k19, F_read.binds fun _ _ _ _ _ _ us hl => match us, hl with | [_], _ => rfl⟩, arX_read⟩
  have p_read_0 : PCalX l.prog w K mg base "read" ["text"] 0 ["text"] [0] 6 S_read := ⟨⟨_, _, ok_read F_read T c_Lines___init__ c_Lines_takes_line x_NoText ag, PySem.W.mg_of X G a19, k19, (fun s us ws _ h1 h2 => .of_eq (match us, ws, h1, h2 with | [], [_], _, _ => rfl)), arX_read⟩⟩
  have F_lines_of := fun_mk (st := s_lines_of) l20 q20 k20
  have c_lines_of : Cal l.prog w K mg base "lines_of" ["program"] 17 S_lines_of := ⟨_, _, ok_lines_of F_lines_of T c_rows_shown, PySem.W.mg_of X G a20, k20, F_lines_of.binds fun _ _ _ _ _ _ us hl => match us, hl with | [_], _ => rfl, ar_lines_of⟩
  have p_lines_of_0 : PCal l.prog w K mg base "lines_of" ["program"] 0 ["program"] [0] 17 S_lines_of := ⟨_, _, ok_lines_of F_lines_of T c_rows_shown, PySem.W.mg_of X G a20, k20, (fun s us ws _ h1 h2 => .of_eq (match us, ws, h1, h2 with | [], [_], _, _ => rfl)), ar_lines_of⟩
  have F__law_hand := fun_mk (st := s__law_hand) l21 q21 k21
  have c__law_hand : Cal l.prog w K mg base "_law_hand" ["_law_script", "_law_k"] 1 S__law_hand := ⟨_, _, ok__law_hand F__law_hand T, PySem.W.mg_of X G a21, k21, F__law_hand.binds fun _ _ _ _ _ _ us hl => match us, hl with | [_, _], _ => rfl, ar__law_hand⟩
  have F__law_take := fun_mk (st := s__law_take) l22 q22 k22
  have c__law_take : Cal l.prog w K mg base "_law_take" ["_law_hand_here", "_law_many"] 1 S__law_take := ⟨_, _, ok__law_take F__law_take T, PySem.W.mg_of X G a22, k22, F__law_take.binds fun _ _ _ _ _ _ us hl => match us, hl with | [_, _], _ => rfl, ar__law_take⟩
  have F__law_pick := fun_mk (st := s__law_pick) l23 q23 k23
  have c__law_pick : Cal l.prog w K mg base "_law_pick" ["_law_hand_here", "_law_some"] 2 S__law_pick := ⟨_, _, ok__law_pick F__law_pick T c__law_take, PySem.W.mg_of X G a23, k23, F__law_pick.binds fun _ _ _ _ _ _ us hl => match us, hl with | [_, _], _ => rfl, ar__law_pick⟩
  have F__law_forms := fun_mk (st := s__law_forms) l24 q24 k24
  have c__law_forms : Cal l.prog w K mg base "_law_forms" [] 1 S__law_forms := ⟨_, _, ok__law_forms F__law_forms T, PySem.W.mg_of X G a24, k24, F__law_forms.binds fun _ _ _ _ _ _ us hl => match us, hl with | [], _ => rfl, ar__law_forms⟩
  have F__law_name := fun_mk (st := s__law_name) l25 q25 k25
  have c__law_name : Cal l.prog w K mg base "_law_name" ["_law_hand_here", "_law_pot"] 3 S__law_name := ⟨_, _, ok__law_name F__law_name T c__law_pick, PySem.W.mg_of X G a25, k25, F__law_name.binds fun _ _ _ _ _ _ us hl => match us, hl with | [_, _], _ => rfl, ar__law_name⟩
  have F__law_deed := fun_mk (st := s__law_deed) l26 q26 k26
  have b__law_deed : Binds K _ ["_law_hand_here", "_law_pot", "_law_level"] [] := F__law_deed.binds fun _ _ _ _ _ _ us hl => match us, hl with | [_, _, _], _ => rfl
  have F__law_deeds := fun_mk (st := s__law_deeds) l27 q27 k27
  have b__law_deeds : Binds K _ ["_law_hand_here", "_law_pot", "_law_level"] [] := F__law_deeds.binds fun _ _ _ _ _ _ us hl => match us, hl with | [_, _, _], _ => rfl
  have og := okg__law_deed F__law_deed F__law_deeds T c__law_pick c__law_forms c__law_take c__law_name (PySem.W.mg_of X G a26) k26 b__law_deed (PySem.W.mg_of X G a27) k27 b__law_deeds
  have c__law_deed : Cal l.prog w K mg base "_law_deed" ["_law_hand_here", "_law_pot", "_law_level"] 16 S__law_deed := ⟨_, _, (og 12).1, PySem.W.mg_of X G a26, k26, b__law_deed, ar__law_deed⟩
  have c__law_deeds : Cal l.prog w K mg base "_law_deeds" ["_law_hand_here", "_law_pot", "_law_level"] 17 S__law_deeds := ⟨_, _, (og 13).2, PySem.W.mg_of X G a27, k27, b__law_deeds, ar__law_deeds⟩
  have F__law_unlike := fun_mk (st := s__law_unlike) l28 q28 k28
  have c__law_unlike : Cal l.prog w K mg base "_law_unlike" ["_law_hand_here", "_law_many"] 2 S__law_unlike := ⟨_, _, ok__law_unlike F__law_unlike T c__law_take, PySem.W.mg_of X G a28, k28, F__law_unlike.binds fun _ _ _ _ _ _ us hl => match us, hl with | [_, _], _ => rfl, ar__law_unlike⟩
  have F__law_formed := fun_mk (st := s__law_formed) l29 q29 k29
  have c__law_formed : Cal l.prog w K mg base "_law_formed" ["_law_hand_here", "_law_size"] 18 S__law_formed := ⟨_, _, ok__law_formed F__law_formed T c__law_unlike c__law_pick c__law_deeds c__law_take, PySem.W.mg_of X G a29, k29, F__law_formed.binds fun _ _ _ _ _ _ us hl => match us, hl with | [_, _], _ => rfl, ar__law_formed⟩
  have F__law_lines := fun_mk (st := s__law_lines) l30 q30 k30
  have b__law_lines : Binds K _ ["_law_deeds_here", "_law_spot", "_law_begin", "_law_found"] [] := F__law_lines.binds fun _ _ _ _ _ _ us hl => match us, hl with | [_, _, _, _], _ => rfl
  have c__law_lines : Cal l.prog w K mg base "_law_lines" ["_law_deeds_here", "_law_spot", "_law_begin", "_law_found"] 11 S__law_lines := ⟨_, _, ok__law_lines F__law_lines T c__law_forms (PySem.W.mg_of X G a30) k30 b__law_lines 9, PySem.W.mg_of X G a30, k30, b__law_lines, ar__law_lines⟩
  have F__law_written := fun_mk (st := s__law_written) l31 q31 k31
  have c__law_written : Cal l.prog w K mg base "_law_written" ["_law_code"] 12 S__law_written := ⟨_, _, ok__law_written F__law_written T c__law_lines, PySem.W.mg_of X G a31, k31, F__law_written.binds fun _ _ _ _ _ _ us hl => match us, hl with | [_], _ => rfl, ar__law_written⟩
  exact law_fn (ok_law (fun_mk (st := s_law) l32 q32 k32) T c__law_hand c__law_formed c__law_pick c__law_written c_show c_lines_of p_show_0 p_read_0 p_lines_of_0 x_read)
theorem walk {l : PySem.W.OpenLaw} {q : Program} {loose : List Str} {XP : (Str → Option Value) → Heap → Prop} {YP : World → Heap → Prop} {d : DefRec} {K : Params → PySem.W.Frag} (hn : l.most = some 63) (hdf : d.params.defaults = [])
    (hY : ∀ (w : World) (h : Heap), YP w h → (K w.params).In h)
    (F : ∀ (w : World) (mg : Str → Option Value) (fa : Addr) (h : Heap), (K w.params).In h → h.Ns mainGlobals mg → mg d.name = some (.ref fa) → ∃ fd : FuncData, (∀ (s : Shared) (u : Value), BindsTo s fd ⟨[u], []⟩ [("_law_script", u)]) ∧
      ∀ base : Heap, (K w.params).In base → base.Ns mainGlobals mg → FnG l.prog w (K w.params) mg base CX0 19 fa fd ["_law_script"] (spLaw (K w.params) SLawP)) : PySem.W.WalkO q loose XP YP l.row.toRowW d [] (fun f vs => PySem.call f vs) :=
  law_walk (n := 63) (k := 19) hn (by decide) hdf ⟨rfl, by decide, by decide⟩ hY F sLawP_all
end Law
open PySem PySem.W PyProof.Rows in
set_option maxRecDepth 100000 in
set_option maxHeartbeats 0 in
theorem PySem.Challenge.cw_gatewaves_k20_programs_written_holds : PySem.Challenge.rw_gatewaves_k20_programs_written.Holds := by
  w_on; o_law; k_head; (case hw => w_witness2)
  k_fill
  refine Law.walk (l := PySem.Challenge.rw_gatewaves_k20_programs_written) rfl rfl (fun w h Y => PySem.W.kIn_of Y) ?F
  case F =>
    intro w mg fa h KX G hmg
    refine' Law.all_mk KX G hmg ?ca_Opened ?cp_Opened ?ch_Opened ?co_Opened ?cs_Opened ?cm_Opened ?ck_Opened ?cf0_Opened ?cf1_Opened ?cf2_Opened ?ca_Lines ?cp_Lines ?ch_Lines ?co_Lines ?cs_Lines ?cm_Lines ?ck_Lines ?cf0_Lines ?cf1_Lines ?cf2_Lines ?cf3_Lines ?cf4_Lines ?a0 ?l0 ?q0 ?k0 ?a1 ?l1 ?q1 ?k1 ?kd1_0 ?kd1_1 ?a2 ?l2 ?q2 ?k2 ?a3 ?l3 ?q3 ?k3 ?a4 ?l4 ?q4 ?k4 ?a5 ?l5 ?q5 ?k5 ?a6 ?l6 ?q6 ?k6 ?a7 ?l7 ?q7 ?k7 ?a8 ?l8 ?q8 ?k8 ?a9 ?l9 ?q9 ?k9 ?a10 ?i10 ?l10 ?q10 ?k10 ?a11 ?i11 ?l11 ?q11 ?k11 ?a12 ?i12 ?l12 ?q12 ?k12 ?a13 ?i13 ?l13 ?q13 ?k13 ?a14 ?i14 ?l14 ?q14 ?k14 ?a15 ?i15 ?l15 ?q15 ?k15 ?a16 ?i16 ?l16 ?q16 ?k16 ?a17 ?i17 ?l17 ?q17 ?k17 ?a18 ?i18 ?l18 ?q18 ?k18 ?a19 ?l19 ?q19 ?k19 ?a20 ?l20 ?q20 ?k20 ?a21 ?l21 ?q21 ?k21 ?a22 ?l22 ?q22 ?k22 ?a23 ?l23 ?q23 ?k23 ?a24 ?l24 ?q24 ?k24 ?a25 ?l25 ?q25 ?k25 ?a26 ?l26 ?q26 ?k26 ?a27 ?l27 ?q27 ?k27 ?a28 ?l28 ?q28 ?k28 ?a29 ?l29 ?q29 ?k29 ?a30 ?l30 ?q30 ?k30 ?a31 ?l31 ?q31 ?k31 ?a32 ?l32 ?q32 ?k32 ?z_isinstance ?z_str ?z_len ?z_all ?z_tuple ?z_set ?z_zip ?z_list ?z_enumerate ?z_int ?z_abs ?z_range ?z_sum ?z_max ?z_min ?z_repr ?xa_NoText ?xo_NoText ?xv_NoText ?xh_NoText ?xs_NoText ?xe_NoText ?xy_NoText ?xk_NoText ?xf0_NoText ?xi_NoText ?xz_NoText ?xl_NoText ?xq_NoText ?xj_NoText ?g_MOST_SIGNS ?g_WORDS ?h_WORDS ?g_LETTERS ?g_FIGURES ?g_MOST_BODIES ?g_MOST_DEEP ?g_MOST_DEEDS ?gd_DEED_PARTS ?hd_DEED_PARTS ?sd_DEED_PARTS
    (case ca_Opened => k_is)
    (case cp_Opened => k_is)
    (case ch_Opened => k_is)
    (case co_Opened => k_is)
    (case cs_Opened => k_is)
    (case cm_Opened => k_is)
    (case ck_Opened => k_is)
    (case cf0_Opened => k_is)
    (case cf1_Opened => k_is)
    (case cf2_Opened => k_is)
    (case ca_Lines => k_is)
    (case cp_Lines => k_is)
    (case ch_Lines => k_is)
    (case co_Lines => k_is)
    (case cs_Lines => k_is)
    (case cm_Lines => k_is)
    (case ck_Lines => k_is)
    (case cf0_Lines => k_is)
    (case cf1_Lines => k_is)
    (case cf2_Lines => k_is)
    (case cf3_Lines => k_is)
    (case cf4_Lines => k_is)
    (case a0 => k_is)
    (case l0 => k_is)
    (case q0 => k_is)
    (case k0 => k_is)
    (case a1 => k_is)
    (case l1 => k_is)
    (case q1 => k_is)
    (case k1 => k_is)
    (case kd1_0 => k_is)
    (case kd1_1 => k_is)
    (case a2 => k_is)
    (case l2 => k_is)
    (case q2 => k_is)
    (case k2 => k_is)
    (case a3 => k_is)
    (case l3 => k_is)
    (case q3 => k_is)
    (case k3 => k_is)
    (case a4 => k_is)
    (case l4 => k_is)
    (case q4 => k_is)
    (case k4 => k_is)
    (case a5 => k_is)
    (case l5 => k_is)
    (case q5 => k_is)
    (case k5 => k_is)
    (case a6 => k_is)
    (case l6 => k_is)
    (case q6 => k_is)
    (case k6 => k_is)
    (case a7 => k_is)
    (case l7 => k_is)
    (case q7 => k_is)
    (case k7 => k_is)
    (case a8 => k_is)
    (case l8 => k_is)
    (case q8 => k_is)
    (case k8 => k_is)
    (case a9 => k_is)
    (case l9 => k_is)
    (case q9 => k_is)
    (case k9 => k_is)
    (case a10 => k_is)
    (case i10 => k_is)
    (case l10 => k_is)
    (case q10 => k_is)
    (case k10 => k_is)
    (case a11 => k_is)
    (case i11 => k_is)
    (case l11 => k_is)
    (case q11 => k_is)
    (case k11 => k_is)
    (case a12 => k_is)
    (case i12 => k_is)
    (case l12 => k_is)
    (case q12 => k_is)
    (case k12 => k_is)
    (case a13 => k_is)
    (case i13 => k_is)
    (case l13 => k_is)
    (case q13 => k_is)
    (case k13 => k_is)
    (case a14 => k_is)
    (case i14 => k_is)
    (case l14 => k_is)
    (case q14 => k_is)
    (case k14 => k_is)
    (case a15 => k_is)
    (case i15 => k_is)
    (case l15 => k_is)
    (case q15 => k_is)
    (case k15 => k_is)
    (case a16 => k_is)
    (case i16 => k_is)
    (case l16 => k_is)
    (case q16 => k_is)
    (case k16 => k_is)
    (case a17 => k_is)
    (case i17 => k_is)
    (case l17 => k_is)
    (case q17 => k_is)
    (case k17 => k_is)
    (case a18 => k_is)
    (case i18 => k_is)
    (case l18 => k_is)
    (case q18 => k_is)
    (case k18 => k_is)
    (case a19 => k_is)
    (case l19 => k_is)
    (case q19 => k_is)
    (case k19 => k_is)
    (case a20 => k_is)
    (case l20 => k_is)
    (case q20 => k_is)
    (case k20 => k_is)
    (case a21 => k_is)
    (case l21 => k_is)
    (case q21 => k_is)
    (case k21 => k_is)
    (case a22 => k_is)
    (case l22 => k_is)
    (case q22 => k_is)
    (case k22 => k_is)
    (case a23 => k_is)
    (case l23 => k_is)
    (case q23 => k_is)
    (case k23 => k_is)
    (case a24 => k_is)
    (case l24 => k_is)
    (case q24 => k_is)
    (case k24 => k_is)
    (case a25 => k_is)
    (case l25 => k_is)
    (case q25 => k_is)
    (case k25 => k_is)
    (case a26 => k_is)
    (case l26 => k_is)
    (case q26 => k_is)
    (case k26 => k_is)
    (case a27 => k_is)
    (case l27 => k_is)
    (case q27 => k_is)
    (case k27 => k_is)
    (case a28 => k_is)
    (case l28 => k_is)
    (case q28 => k_is)
    (case k28 => k_is)
    (case a29 => k_is)
    (case l29 => k_is)
    (case q29 => k_is)
    (case k29 => k_is)
    (case a30 => k_is)
    (case l30 => k_is)
    (case q30 => k_is)
    (case k30 => k_is)
    (case a31 => k_is)
    (case l31 => k_is)
    (case q31 => k_is)
    (case k31 => k_is)
    (case a32 => k_is)
    (case l32 => k_is)
    (case q32 => k_is)
    (case k32 => k_is)
    (case z_isinstance => k_is)
    (case z_str => k_is)
    (case z_len => k_is)
    (case z_all => k_is)
    (case z_tuple => k_is)
    (case z_set => k_is)
    (case z_zip => k_is)
    (case z_list => k_is)
    (case z_enumerate => k_is)
    (case z_int => k_is)
    (case z_abs => k_is)
    (case z_range => k_is)
    (case z_sum => k_is)
    (case z_max => k_is)
    (case z_min => k_is)
    (case z_repr => k_is)
    (case xa_NoText => k_is)
    (case xo_NoText => kernel_rfl)
    (case xv_NoText => kernel_rfl)
    (case xh_NoText => k_is)
    (case xs_NoText => k_is)
    (case xe_NoText => k_is)
    (case xy_NoText => k_is)
    (case xk_NoText => k_is)
    (case xf0_NoText => k_is)
    (case xi_NoText => k_is)
    (case xz_NoText => k_is)
    (case xl_NoText => k_is)
    (case xq_NoText => k_is)
    (case xj_NoText => k_is)
    (case g_MOST_SIGNS => k_is)
    (case g_WORDS => k_is)
    (case h_WORDS => k_is)
    (case g_LETTERS => k_is)
    (case g_FIGURES => k_is)
    (case g_MOST_BODIES => k_is)
    (case g_MOST_DEEP => k_is)
    (case g_MOST_DEEDS => k_is)
    (case gd_DEED_PARTS => k_is)
    (case hd_DEED_PARTS => k_is)
    (case sd_DEED_PARTS => kernel_rfl)
