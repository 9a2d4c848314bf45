import PyProof.Rows.All
import Wide.All
import OpenK.AllK
import Wide.FinOn
import HandS.Dict
import HandS.TupSets
import KE.KeyNested
import HandS.Lambda
import HandS.ForMost
import HandS.Walk
import HandS.Style
import HandS.Flow
import HandS.Wide
import HandS.Zip
import HandS.More
import HandS.Rev
import HandS.Flt
import HandS.TupAny
import HandS.SortInts
import HandS.Exc
import HandS.EndBits
import PyProof.ReprLen
import HandS.Iter
import HandS.ListItems
import HandS.NoneIn
import KE.KDictZip
import HandS.IsInst
import HandS.Deep
import KE.KUnpackStar
import KE.SortData
import KE.DataCmp
import HandS.ForExc
import HandS.ExcInit
import HandS.ExcOwn
import HandS.ExcField
import HandS.ExcIs
import HandS.TryMany
import KE.KExcIs
import KE.KTryMore
import KE.KExcInit
import HandS.ExcValue
import PyProof.ExcBaseAll.LookupError
import PyProof.ExcBaseAll.RuntimeError
import PyProof.ExcBaseAll.ValueError
import HandS.Text
import HandS.Strs
import HandS.SetFor
import HandS.TupMul
import PyProof.NeKinds
import PyProof.TwoTypes
import PyProof.TwoTypesSub
import PyProof.AutoIntG7
import PyProof.Rows.StrBin
import PyProof.Rows.StrDigits
import HandS.DictTup
import KE.KDictWalk
import HandS.Conv
import KE.KDictSum
import KE.KDictPairs
import HandS.DictComp
import PyProof.Rows.TupDisplay
import PyProof.ReprRoads
import HandS.SetBool
import PyProof.EnumMake
import KE.GoesEnum
import KE.GoesRaise
import KE.KAsSuite
import KE.GoesZip
import KE.GoesMore
import PyProof.DictUpdate
import KE.GoesSet
import HandS.Defaults
import HandS.ToBytes
import HandS.SetKeys
import KE.DatumOrd
import HandS.SortKw
import HandS.ReCall
import HandS.WordsDict
import HandS.RevTup
import KE.DataMinMax
import KE.KDictItemsList
import HandS.CallSlots
import HandS.MakeKwOnly
import HandS.ReplaceLit
import HandS.ReplaceDef
import PyProof.ListStr
import HandS.EndTab
import KE.KNestM
import PySem.Challenge.RW_gatewaves_k67_what_letters_do
set_option Elab.async false
set_option linter.all false
set_option maxRecDepth 100000
set_option maxHeartbeats 8000000
namespace Gw
open PySem L2
def hashRow (r : List Int) : Int := reduceHash (Builtin.Tuple.tupleHashOf (r.map hashInt))
abbrev RE := List Int × Addr × V
abbrev REv := List Int × Addr × Value
def entR (x : REv) : DictEntry := ⟨hashRow x.1, .ref x.2.1, x.2.2⟩
def ReIs (p : RE) (q : REv) : Prop := p.1 = q.1 ∧ p.2.1 = q.2.1 ∧ RelV p.2.2 q.2.2
structure DcT (h : Heap) (a : Addr) (L : List RE) : Prop where
  ex : ∃ xs : List REv, Paired ReIs L xs ∧ ∃ o es ep, h.get? a = some o ∧ o.ExactDict ∧ o.data = .dict es ep ∧ es.toList = xs.map entR ∧ (xs.map (·.1)).Nodup
  few : L.length ≤ sizeLine
  sys : (a == sysModules) = false
def DcO (a : Addr) (L : List RE) : HO := .ext fun h => DcT h a L
def Nd (K : PySem.W.Frag) (H : Hp) (a : Addr) : Prop := (∃ o u, H a = some (.frz o u) ∧ o.dict = none) ∨ ∃ o, K.lookup a = some o ∧ o.dict = none
def SqN (K : PySem.W.Frag) (H : Hp) (a : Addr) (xs : List V) : Prop := SqT K H a xs ∧ Nd K H a
def KeyR (K : PySem.W.Frag) (H : Hp) (L : List RE) : Prop := ∀ p ∈ L, SqN K H p.2.1 (p.1.map V.int)
def colA (p : Pos) : Arguments := { posonlyargs := [], args := [{ arg := "keeper", annotation := none, pos := p : PySem.Arg }], vararg := none, kwonlyargs := [], kw_defaults := [], kwarg := none, defaults := [] }
def colB (F : Str) (p1 p2 p3 p4 : Pos) : Expr := .Subscript (.Attribute (.Name "keeper" p1) F p2) (.Name "wire" p3) p4
def colS : Scope := { kind := .function, names := [("keeper", .local), ("wire", .free)], isGenerator := false, isCoroutine := false, more := [] }
def colO (q F : Str) (p p1 p2 p3 p4 : Pos) (c c' : Addr) (pm ct : Value) : Obj := PySem.W.kla_obj "<lambda>" q (colA p) (colB F p1 p2 p3 p4) colS [("wire", c)] pm c' ct
def lamOf (x : Str) : Str := x ++ ".<locals>." ++ "<lambda>"
theorem lamOf_inj {x y : Str} (h : lamOf x = lamOf y) : x = y := by
  have e : ∀ a b : Str, (a ++ b).cps.toList = a.cps.toList ++ b.cps.toList := fun a b => by
    show (a.cps ++ b.cps).toList = _
    simp
  have h' := congrArg (fun s : Str => s.cps.toList) h
  unfold lamOf at h'
  simp only [e] at h'
  have h2 := List.append_cancel_right (List.append_cancel_right h')
  cases x with
  | mk xs =>
    cases y with
    | mk ys =>
      simp only at h2
      rw [Array.toList_inj.mp h2]
def TabAt (K : PySem.W.Frag) (a : Addr) (q : Str) : Prop := ∀ (x : Str) (c P : Addr), PySem.W.tabIn K x = some (c, P) → lamOf x = q → P = a
theorem TabAt.of {K : PySem.W.Frag} {x : Str} {c P : Addr} (h : PySem.W.tabIn K x = some (c, P)) : TabAt K P (lamOf x) := fun y c' P' h' e => by
  rw [lamOf_inj e, h] at h'
  cases h'
  rfl
def cloO (a : Addr) (F q : Str) (c c' : Addr) : HO := .ext fun h => ∃ (p p1 p2 p3 p4 : Pos) (pm ct : Value), h.get? a = some (colO q F p p1 p2 p3 p4 c c' pm ct)
def celO (c : Addr) (w : Int) : HO := .ext fun h => ∃ u, RelV (.int w) u ∧ h.IsCell c (some u)
mutual
def hashN : NestedKey → Int
  | .none => reduceHash 0xFCA86420
  | .num i => hashInt i
  | .text _ => 0
  | .tup ks => reduceHash (Builtin.Tuple.tupleHashOf (hashNs ks))
def hashNs : List NestedKey → List Int
  | [] => []
  | k :: ks => hashN k :: hashNs ks
end
mutual
def freeN : NestedKey → Bool
  | .none => true
  | .num _ => true
  | .text _ => false
  | .tup ks => freeNs ks
def freeNs : List NestedKey → Bool
  | [] => true
  | k :: ks => freeN k && freeNs ks
end
abbrev NE := NestedKey × Addr × V
abbrev NEv := NestedKey × Addr × Value
def entN (x : NEv) : DictEntry := ⟨hashN x.1, .ref x.2.1, x.2.2⟩
def NeIs (p : NE) (q : NEv) : Prop := p.1 = q.1 ∧ p.2.1 = q.2.1 ∧ RelV p.2.2 q.2.2
structure DcM (h : Heap) (a : Addr) (L : List NE) : Prop where
  ex : ∃ xs : List NEv, Paired NeIs L xs ∧ ∃ o es ep, h.get? a = some o ∧ o.ExactDict ∧ o.data = .dict es ep ∧ es.toList = xs.map entN ∧ (xs.map (·.1)).Nodup
  few : L.length ≤ sizeLine
  sys : (a == sysModules) = false
def DcN (a : Addr) (L : List NE) : HO := .ext fun h => DcM h a L
mutual
/-- the value is such a key -/
def NkR (K : PySem.W.Frag) (H : Hp) : NestedKey → V → Prop
  | .none, v => v = .non
  | .num i, v => v = .int i
  | .text x, v => v = .str x
  | .tup ks, v => ∃ a xs, v = .ref a ∧ SqN K H a xs ∧ NkRL K H ks xs
def NkRL (K : PySem.W.Frag) (H : Hp) : List NestedKey → List V → Prop
  | [], vs => vs = []
  | k :: ks, vs => ∃ x r, vs = x :: r ∧ NkR K H k x ∧ NkRL K H ks r
end
def KeyN (K : PySem.W.Frag) (H : Hp) (L : List NE) : Prop := ∀ p ∈ L, freeN p.1 = true ∧ p.1.depth ≤ 8 ∧ NkR K H p.1 (.ref p.2.1)
end Gw

namespace Gw
open PySem L2

def Ex (H H' : Hp) : Prop := ∀ a o, H a = some o → H' a = some o
theorem Ex.refl (H : Hp) : Ex H H := fun _ _ h => h
theorem Ex.trans {H H1 H2 : Hp} (a : Ex H H1) (b : Ex H1 H2) : Ex H H2 := fun x o h => b x o (a x o h)
theorem Ex.new {H : Hp} {p : Addr} {o : HO} (h : H p = none) : Ex H (upd H p o) := fun a u e => by
  rw [upd_ne (ne_of_none e h)]; exact e
theorem Ex.none {H H' : Hp} {p : Addr} (e : Ex H H') (h : H' p = none) : H p = none := by
  cases q : H p with
  | none => rfl
  | some o => rw [e p o q] at h; cases h
theorem ex_rd {H H' : Hp} {a : Addr} {u : HO} (e : Ex H H') (h : Rd H a u) : Rd H' a u := by
  rcases h with h | ⟨o, h⟩
  · exact .inl (e _ _ h)
  · exact .inr ⟨o, e _ _ h⟩
theorem ex_l {K : PySem.W.Frag} {H H' : Hp} {a : Addr} {xs : List V} (e : Ex H H') (h : SqL K H a xs) : SqL K H' a xs := by
  rcases h with h | h
  · exact .inl (ex_rd e h)
  · exact .inr h
theorem ex_t {K : PySem.W.Frag} {H H' : Hp} {a : Addr} {xs : List V} (e : Ex H H') (h : SqT K H a xs) : SqT K H' a xs := by
  rcases h with h | h
  · exact .inl (ex_rd e h)
  · exact .inr h

theorem ex_nd {K : PySem.W.Frag} {H H' : Hp} {a : Addr} (e : Ex H H') (h : Nd K H a) : Nd K H' a := by
  rcases h with ⟨o, u, h, d⟩ | h
  · exact .inl ⟨o, u, e _ _ h, d⟩
  · exact .inr h
theorem ex_n {K : PySem.W.Frag} {H H' : Hp} {a : Addr} {xs : List V} (e : Ex H H') (h : SqN K H a xs) : SqN K H' a xs := ⟨ex_t e h.1, ex_nd e h.2⟩
def newT (H : Hp) (p : Addr) (o : Obj) (xs : List V) : Hp := upd H p (.frz o (.tup xs))
theorem SqN.new {K : PySem.W.Frag} {H : Hp} {p : Addr} {o : Obj} {xs : List V} (h : o.dict = none) : SqN K (upd H p (.frz o (.tup xs))) p xs :=
  ⟨.inl (.inr ⟨o, upd_same⟩), .inl ⟨o, _, upd_same, h⟩⟩

inductive D where
  | non | bl (b : Bool) | int (i : Int) | str (x : Str)
  | tup (ds : List D) | lst (ds : List D) | scr (ds : List D) | ref (a : Addr)
  | dct (ks : List L2.Key) (ds : List D)
  | exc (cn : Str) (ns : List Str) (ds : List D)
  | dcT (ks : List (List Int)) (ds : List D)
  | dcN (ks : List NestedKey) (ds : List D)
  | clo (f : Str) (w : Int)

def xob (a C : Addr) (d : Option Addr) : HO := .ext fun h => ∃ (oe : Obj) (vs : Array Value), h.get? a = some oe ∧ Zc (.ref C) d oe ∧ oe.data = .fields vs
def XD (G : Hp) (d : Option Addr) (ws : List (Str × V)) : Prop := (d = none ∧ ws = []) ∨ ∃ dd, d = some dd ∧ G dd = some (.xd ws)
theorem XD.mono {G G' : Hp} {d : Option Addr} {ws : List (Str × V)} (e : Ex G G') (h : XD G d ws) : XD G' d ws := by
  rcases h with h | ⟨dd, h1, h2⟩
  · exact .inl h
  · exact .inr ⟨dd, h1, e _ _ h2⟩
mutual
def Rep (K : PySem.W.Frag) (G : Hp) : D → V → Prop
  | .non, v => v = .non
  | .bl b, v => v = .bl b
  | .int i, v => v = .int i
  | .str x, v => v = .str x
  | .ref a, v => v = .ref a
  | .tup ds, v => ∃ a xs, v = .ref a ∧ SqN K G a xs ∧ RepL K G ds xs
  | .lst ds, v => ∃ a xs, v = .ref a ∧ G a = some (.lst xs) ∧ RepL K G ds xs
  | .scr ds, v => ∃ a xs, v = .ref a ∧ SqL K G a xs ∧ RepL K G ds xs
  | .dct ks ds, v => ∃ a o xs, v = .ref a ∧ G a = some (.frz o (.dK (ks.zip xs))) ∧ ks.length = ds.length ∧ RepL K G ds xs
  | .exc cn ns ds, v => ∃ a C d ws, v = .ref a ∧ PySem.W.nsIn K mainGlobals cn = some (some (.ref C)) ∧ G a = some (xob a C d) ∧ XD G d ws ∧ ws.map (·.1) = ns ∧ RepL K G ds (ws.map (·.2))
  | .dcT ks ds, v => ∃ a o L, v = .ref a ∧ G a = some (.frz o (DcO a L)) ∧ L.map (·.1) = ks ∧ KeyR K G L ∧ RepL K G ds (L.map (·.2.2))
  | .dcN ks ds, v => ∃ a o L, v = .ref a ∧ G a = some (.frz o (DcN a L)) ∧ L.map (·.1) = ks ∧ KeyN K G L ∧ RepL K G ds (L.map (·.2.2))
  | .clo f w, v => ∃ (a c c' : Addr) (q : Str), v = .ref a ∧ G a = some (cloO a f q c c') ∧ G c = some (celO c w) ∧ G c' = some (LamX.CodeO c' q)
def RepL (K : PySem.W.Frag) (G : Hp) : List D → List V → Prop
  | [], vs => vs = []
  | d :: ds, vs => ∃ x r, vs = x :: r ∧ Rep K G d x ∧ RepL K G ds r
end
section
variable {K : PySem.W.Frag} {G G' H H' : Hp}
theorem rep_tupN {ds : List D} {v : V} : Rep K G (.tup ds) v ↔ ∃ a xs, v = .ref a ∧ SqN K G a xs ∧ RepL K G ds xs := by rw [Rep]
theorem rep_tup {ds : List D} {v : V} (h : Rep K G (.tup ds) v) : ∃ a xs, v = .ref a ∧ SqT K G a xs ∧ RepL K G ds xs := by
  obtain ⟨a, xs, e, h1, h2⟩ := rep_tupN.mp h
  exact ⟨a, xs, e, h1.1, h2⟩
theorem rep_lst {ds : List D} {v : V} : Rep K G (.lst ds) v ↔ ∃ a xs, v = .ref a ∧ G a = some (.lst xs) ∧ RepL K G ds xs := by rw [Rep]
theorem rep_scr {ds : List D} {v : V} : Rep K G (.scr ds) v ↔ ∃ a xs, v = .ref a ∧ SqL K G a xs ∧ RepL K G ds xs := by rw [Rep]
theorem rep_dct {ks : List L2.Key} {ds : List D} {v : V} : Rep K G (.dct ks ds) v ↔ ∃ a o xs, v = .ref a ∧ G a = some (.frz o (.dK (ks.zip xs))) ∧ ks.length = ds.length ∧ RepL K G ds xs := by rw [Rep]
theorem rep_exc {cn : Str} {ns : List Str} {ds : List D} {v : V} : Rep K G (.exc cn ns ds) v ↔ ∃ a C d ws, v = .ref a ∧ PySem.W.nsIn K mainGlobals cn = some (some (.ref C)) ∧ G a = some (xob a C d) ∧ XD G d ws ∧ ws.map (·.1) = ns ∧ RepL K G ds (ws.map (·.2)) := by rw [Rep]
theorem rep_dcT {ks : List (List Int)} {ds : List D} {v : V} : Rep K G (.dcT ks ds) v ↔ ∃ a o L, v = .ref a ∧ G a = some (.frz o (DcO a L)) ∧ L.map (·.1) = ks ∧ KeyR K G L ∧ RepL K G ds (L.map (·.2.2)) := by rw [Rep]
theorem rep_dcN {ks : List NestedKey} {ds : List D} {v : V} : Rep K G (.dcN ks ds) v ↔ ∃ a o L, v = .ref a ∧ G a = some (.frz o (DcN a L)) ∧ L.map (·.1) = ks ∧ KeyN K G L ∧ RepL K G ds (L.map (·.2.2)) := by rw [Rep]
theorem rep_clo {f : Str} {w : Int} {v : V} : Rep K G (.clo f w) v ↔ ∃ (a c c' : Addr) (q : Str), v = .ref a ∧ G a = some (cloO a f q c c') ∧ G c = some (celO c w) ∧ G c' = some (LamX.CodeO c' q) := by rw [Rep]
theorem KeyR.mono {L : List RE} (e : Ex G G') (h : KeyR K G L) : KeyR K G' L := fun p hp => ex_n e (h p hp)
mutual
theorem NkR.mono (e : Ex G G') : ∀ (k : NestedKey) (v : V), NkR K G k v → NkR K G' k v
  | .none, _, h => by rw [NkR] at *; exact h
  | .num _, _, h => by rw [NkR] at *; exact h
  | .text _, _, h => by rw [NkR] at *; exact h
  | .tup ks, v, h => by
    rw [NkR] at h ⊢
    obtain ⟨a, xs, e1, h1, h2⟩ := h
    exact ⟨a, xs, e1, ex_n e h1, NkRL.mono e ks xs h2⟩
theorem NkRL.mono (e : Ex G G') : ∀ (ks : List NestedKey) (vs : List V), NkRL K G ks vs → NkRL K G' ks vs
  | [], _, h => by rw [NkRL] at *; exact h
  | k :: ks, vs, h => by
    rw [NkRL] at h ⊢
    obtain ⟨x, r, e1, h1, h2⟩ := h
    exact ⟨x, r, e1, NkR.mono e k x h1, NkRL.mono e ks r h2⟩
end
theorem KeyN.mono {L : List NE} (e : Ex G G') (h : KeyN K G L) : KeyN K G' L := fun p hp => ⟨(h p hp).1, (h p hp).2.1, NkR.mono e _ _ (h p hp).2.2⟩
theorem repL_cons {d : D} {ds : List D} {vs : List V} : RepL K G (d :: ds) vs ↔ ∃ x r, vs = x :: r ∧ Rep K G d x ∧ RepL K G ds r := by rw [RepL]
theorem repL_nil {vs : List V} : RepL K G [] vs ↔ vs = [] := by rw [RepL]
mutual
theorem Rep.mono (e : Ex G G') : ∀ {d : D} {v : V}, Rep K G d v → Rep K G' d v
  | .non, _, h => by rw [Rep] at *; exact h
  | .bl _, _, h => by rw [Rep] at *; exact h
  | .int _, _, h => by rw [Rep] at *; exact h
  | .str _, _, h => by rw [Rep] at *; exact h
  | .ref _, _, h => by rw [Rep] at *; exact h
  | .tup _, _, h => by
    obtain ⟨a, xs, e1, h1, h2⟩ := rep_tupN.mp h
    exact rep_tupN.mpr ⟨a, xs, e1, ex_n e h1, RepL.mono e h2⟩
  | .lst _, _, h => by
    obtain ⟨a, xs, e1, h1, h2⟩ := rep_lst.mp h
    exact rep_lst.mpr ⟨a, xs, e1, e _ _ h1, RepL.mono e h2⟩
  | .scr _, _, h => by
    obtain ⟨a, xs, e1, h1, h2⟩ := rep_scr.mp h
    exact rep_scr.mpr ⟨a, xs, e1, ex_l e h1, RepL.mono e h2⟩
  | .dct _ _, _, h => by
    obtain ⟨a, o, xs, e1, h1, h0, h2⟩ := rep_dct.mp h
    exact rep_dct.mpr ⟨a, o, xs, e1, e _ _ h1, h0, RepL.mono e h2⟩
  | .exc _ _ _, _, h => by
    obtain ⟨a, C, d, ws, e1, h1, h2, h3, h4, h5⟩ := rep_exc.mp h
    exact rep_exc.mpr ⟨a, C, d, ws, e1, h1, e _ _ h2, h3.mono e, h4, RepL.mono e h5⟩
  | .dcT _ _, _, h => by
    obtain ⟨a, o, L, e1, h1, h2, h3, h4⟩ := rep_dcT.mp h
    exact rep_dcT.mpr ⟨a, o, L, e1, e _ _ h1, h2, h3.mono e, RepL.mono e h4⟩
  | .dcN _ _, _, h => by
    obtain ⟨a, o, L, e1, h1, h2, h3, h4⟩ := rep_dcN.mp h
    exact rep_dcN.mpr ⟨a, o, L, e1, e _ _ h1, h2, h3.mono e, RepL.mono e h4⟩
  | .clo _ _, _, h => by
    obtain ⟨a, c, c', q, e1, h1, h2, h3⟩ := rep_clo.mp h
    exact rep_clo.mpr ⟨a, c, c', q, e1, e _ _ h1, e _ _ h2, e _ _ h3⟩
theorem RepL.mono (e : Ex G G') : ∀ {ds : List D} {vs : List V}, RepL K G ds vs → RepL K G' ds vs
  | [], _, h => by rw [RepL] at *; exact h
  | d :: ds, _, h => by
    obtain ⟨x, r, e1, h1, h2⟩ := repL_cons.mp h
    exact repL_cons.mpr ⟨x, r, e1, Rep.mono e h1, RepL.mono e h2⟩
end
theorem RepL.length : ∀ {ds : List D} {vs : List V}, RepL K G ds vs → vs.length = ds.length
  | [], _, h => by rw [repL_nil.mp h]; rfl
  | d :: ds, _, h => by
    obtain ⟨x, r, rfl, h1, h2⟩ := repL_cons.mp h
    rw [List.length_cons, List.length_cons, RepL.length h2]
theorem RepL.get : ∀ {ds : List D} {vs : List V} {i : Nat} {d : D}, RepL K G ds vs → ds[i]? = some d → ∃ v, vs[i]? = some v ∧ Rep K G d v
  | [], _, i, d, h, e => by simp at e
  | d0 :: ds, _, 0, d, h, e => by
    obtain ⟨x, r, rfl, h1, h2⟩ := repL_cons.mp h
    simp at e; subst e; exact ⟨x, rfl, h1⟩
  | d0 :: ds, _, i + 1, d, h, e => by
    obtain ⟨x, r, rfl, h1, h2⟩ := repL_cons.mp h
    simpa using RepL.get (i := i) h2 (by simpa using e)
theorem RepL.append : ∀ {ds es : List D} {vs ws : List V}, RepL K G ds vs → RepL K G es ws → RepL K G (ds ++ es) (vs ++ ws)
  | [], _, _, _, h, h' => by rw [repL_nil.mp h]; exact h'
  | d :: ds, es, _, ws, h, h' => by
    obtain ⟨x, r, rfl, h1, h2⟩ := repL_cons.mp h
    exact repL_cons.mpr ⟨x, r ++ ws, rfl, h1, RepL.append h2 h'⟩
theorem RepL.one {d : D} {v : V} (h : Rep K G d v) : RepL K G [d] [v] := repL_cons.mpr ⟨v, [], rfl, h, repL_nil.mpr rfl⟩
theorem RepL.of_get : ∀ {ds : List D} {vs : List V}, vs.length = ds.length → (∀ (i : Nat) (d : D) (v : V), ds[i]? = some d → vs[i]? = some v → Rep K G d v) → RepL K G ds vs
  | [], vs, hl, _ => repL_nil.mpr (List.length_eq_zero_iff.mp hl)
  | d :: ds, [], hl, _ => by simp at hl
  | d :: ds, v :: vs, hl, h => repL_cons.mpr ⟨v, vs, rfl, h 0 d v rfl rfl, RepL.of_get (by simpa using hl) fun i d' v' a b => h (i + 1) d' v' (by simpa using a) (by simpa using b)⟩
theorem RepL.drop {ds : List D} {vs : List V} (n : Nat) (h : RepL K G ds vs) : RepL K G (ds.drop n) (vs.drop n) := by
  refine .of_get (by rw [List.length_drop, List.length_drop, h.length]) fun i d v a b => ?_
  rw [List.getElem?_drop] at a b
  obtain ⟨v', e, r⟩ := h.get a
  rw [b] at e; cases e; exact r
theorem RepL.take {ds : List D} {vs : List V} (n : Nat) (h : RepL K G ds vs) : RepL K G (ds.take n) (vs.take n) := by
  refine .of_get (by rw [List.length_take, List.length_take, h.length]) fun i d v a b => ?_
  rw [List.getElem?_take] at a b
  split at a
  · rename_i hi
    rw [if_pos hi] at b
    obtain ⟨v', e, r⟩ := h.get a
    rw [b] at e; cases e; exact r
  · cases a
theorem RepL.set {ds : List D} {vs : List V} {d : D} {v : V} (n : Nat) (h : RepL K G ds vs) (r : Rep K G d v) : RepL K G (ds.set n d) (vs.set n v) := by
  refine .of_get (by rw [List.length_set, List.length_set, h.length]) fun i d' v' a b => ?_
  rw [List.getElem?_set] at a b
  by_cases hi : n = i
  · rw [if_pos hi] at a b
    split at a
    · rename_i hn
      rw [if_pos (by rw [h.length]; exact hn)] at b
      cases a; cases b; exact r
    · cases a
  · rw [if_neg hi] at a b
    obtain ⟨w, e, q⟩ := h.get a
    rw [b] at e; cases e; exact q
theorem RepL.reverse {ds : List D} {vs : List V} (h : RepL K G ds vs) : RepL K G ds.reverse vs.reverse := by
  refine .of_get (by rw [List.length_reverse, List.length_reverse, h.length]) fun i d v a b => ?_
  have hi : i < ds.length := by simpa using (List.getElem?_eq_some_iff.mp a).1
  rw [List.getElem?_reverse hi] at a
  rw [List.getElem?_reverse (by rw [h.length]; exact hi), h.length] at b
  obtain ⟨w, e, q⟩ := h.get a
  rw [b] at e; cases e; exact q
theorem repL_map_int {ns : List Int} {vs : List V} : RepL K G (ns.map D.int) vs ↔ vs = ns.map V.int := by
  induction ns generalizing vs with
  | nil => exact repL_nil
  | cons n ns ih =>
    rw [List.map_cons, repL_cons]
    constructor
    · rintro ⟨x, r, rfl, h1, h2⟩
      rw [ih.mp h2, show x = V.int n by rw [Rep] at h1; exact h1]; rfl
    · rintro rfl
      exact ⟨_, _, rfl, by rw [Rep], ih.mpr rfl⟩
theorem repL_map_bl {bs : List Bool} {vs : List V} : RepL K G (bs.map D.bl) vs ↔ vs = bs.map V.bl := by
  induction bs generalizing vs with
  | nil => exact repL_nil
  | cons n ns ih =>
    rw [List.map_cons, repL_cons]
    constructor
    · rintro ⟨x, r, rfl, h1, h2⟩
      rw [ih.mp h2, show x = V.bl n by rw [Rep] at h1; exact h1]; rfl
    · rintro rfl
      exact ⟨_, _, rfl, by rw [Rep], ih.mpr rfl⟩
end

inductive Cell where
  | lst (ds : List D) | dct (ks : List L2.Key) (ds : List D) | dcT (ks : List (List Int)) (ds : List D) | dcN (ks : List NestedKey) (ds : List D) | ins (cn : Str) (ns : List Str) (ds : List D) | tab (q : Str)
inductive Slot where
  | non | dat (d : D) | own (c : Cell)
abbrev Mem := List (Addr × Cell)
abbrev Sl := List Slot
inductive Ret where
  | dat (d : D) | tmp (c : Cell) | var (i : Nat)
def CellOk (K : PySem.W.Frag) (G : Hp) (a : Addr) : Cell → HO → Prop
  | .lst ds, o => ∃ vs, o = .lst vs ∧ RepL K G ds vs
  | .dct ks ds, o => ∃ vs, o = .dK (ks.zip vs) ∧ ks.length = ds.length ∧ RepL K G ds vs
  | .dcT ks ds, o => ∃ L, o = DcO a L ∧ L.map (·.1) = ks ∧ KeyR K G L ∧ RepL K G ds (L.map (·.2.2))
  | .dcN ks ds, o => ∃ L, o = DcN a L ∧ L.map (·.1) = ks ∧ KeyN K G L ∧ RepL K G ds (L.map (·.2.2))
  | .ins cn ns ds, o => ∃ C dx ws, PySem.W.nsIn K mainGlobals cn = some (some (.ref C)) ∧ o = .ins C dx ws ∧ ws.map (·.1) = ns ∧ RepL K G ds (ws.map (·.2))
  | .tab q, o => TabAt K a q ∧ ∃ ps : Array Value, o = .tbl ps ∧ TriplesOk ps.toList ∧ ∀ (pos : Pos) (cv : Value), codeAmong pos ps.toList = some cv → ∃ c, cv = .ref c ∧ G c = some (LamX.CodeO c q)
def Cel (K : PySem.W.Frag) (H G : Hp) (a : Addr) (c : Cell) : Prop := G a = none ∧ ∃ o, H a = some o ∧ CellOk K G a c o
def dom (M : Mem) : List Addr := M.map (·.1)
theorem CellOk.mono {K : PySem.W.Frag} {G G' : Hp} {a : Addr} {c : Cell} {o : HO} (e : Ex G G') (h : CellOk K G a c o) : CellOk K G' a c o := by
  cases c with
  | lst ds => obtain ⟨vs, e1, h1⟩ := h; exact ⟨vs, e1, h1.mono e⟩
  | dct ks ds => obtain ⟨vs, e1, h0, h1⟩ := h; exact ⟨vs, e1, h0, h1.mono e⟩
  | dcT ks ds => obtain ⟨L, e1, h0, h1, h2⟩ := h; exact ⟨L, e1, h0, h1.mono e, h2.mono e⟩
  | dcN ks ds => obtain ⟨L, e1, h0, h1, h2⟩ := h; exact ⟨L, e1, h0, h1.mono e, h2.mono e⟩
  | ins cn ns ds => obtain ⟨C, dx, ws, e0, e1, h0, h1⟩ := h; exact ⟨C, dx, ws, e0, e1, h0, h1.mono e⟩
  | tab q =>
    obtain ⟨ta, ps, e1, h0, h1⟩ := h
    exact ⟨ta, ps, e1, h0, fun pos cv hc => (h1 pos cv hc).imp fun c z => ⟨z.1, e _ _ z.2⟩⟩

structure Ent where
  H : Hp
  G : Hp
  A : List Addr
variable {ρ : Ent}
structure Refi (P B : Ent) : Prop where
  h : B.H = P.H
  a : B.A = P.A
  g : Ex P.G B.G
  gn : ∀ a o, B.G a = some o → P.G a = some o ∨ P.H a = none
theorem Refi.refl (P : Ent) : Refi P P := ⟨rfl, rfl, Ex.refl _, fun _ _ h => .inl h⟩
structure Stp (B : Ent) (H G : Hp) (M : Mem) : Prop where
  g : Ex B.G G
  fr : ∀ a o, B.H a = some o → a ∉ B.A → H a = some o
  gn : ∀ a o, G a = some o → B.G a = some o ∨ B.H a = none
  mn : ∀ a ∈ dom M, a ∈ B.A ∨ B.H a = none
  nn : ∀ a, H a = none → B.H a = none
def owned (σ : St) (Γ : Sl) (a : Addr) : Prop := ∃ (i : Nat) (c : Cell), Γ[i]? = some (Slot.own c) ∧ σ[i]? = some (some (V.ref a))
structure Ok (K : PySem.W.Frag) (ρ : Ent) (B : Ent) (σ : St) (H G : Hp) (Γ : Sl) (M : Mem) : Prop where
  st : Stp B H G M
  ex : Ex G H
  nd : (dom M).Nodup
  ms : ∀ a c, (a, c) ∈ M → Cel K H G a c
  dat : ∀ (i : Nat) (d : D), Γ[i]? = some (.dat d) → ∃ v, σ[i]? = some (some v) ∧ Rep K G d v
  own : ∀ (i : Nat) (c : Cell), Γ[i]? = some (.own c) → ∃ p, σ[i]? = some (some (.ref p)) ∧ B.H p = none ∧ p ∉ dom M ∧ Cel K H G p c
  dis : ∀ (i j : Nat) (ci cj : Cell) (p : Addr), Γ[i]? = some (.own ci) → Γ[j]? = some (.own cj) → σ[i]? = some (some (.ref p)) → σ[j]? = some (some (.ref p)) → i = j
  len : Γ.length = σ.length
  pb : Refi ρ B
structure Es (σ : St) (H G : Hp) (Γ : Sl) (M : Mem) (H' G' : Hp) (Γ' : Sl) (M' : Mem) : Prop where
  g : Ex G G'
  tmp : ∀ a o, H a = some o → G a = none → a ∉ dom M → ¬ owned σ Γ a → H' a = some o ∧ G' a = none ∧ a ∉ dom M' ∧ ¬ owned σ Γ' a
  nn : ∀ a, H' a = none → H a = none
def RepR (K : PySem.W.Frag) (B : Ent) (σ : St) (H0 H G : Hp) (Γ : Sl) (M : Mem) : Ret → V → Prop
  | .dat d, v => Rep K G d v
  | .tmp c, v => ∃ p, v = .ref p ∧ H0 p = none ∧ B.H p = none ∧ Cel K H G p c ∧ p ∉ dom M ∧ ¬ owned σ Γ p
  | .var i, v => σ[i]? = some (some v)
section
variable {K : PySem.W.Frag} {B : Ent} {σ : St} {H G H1 G1 H2 G2 H0 : Hp} {Γ Γ1 Γ2 : Sl} {M M1 M2 : Mem}
theorem Es.refl : Es σ H G Γ M H G Γ M := ⟨Ex.refl G, fun a o h g m n => ⟨h, g, m, n⟩, fun _ h => h⟩
theorem Es.trans (a : Es σ H G Γ M H1 G1 Γ1 M1) (b : Es σ H1 G1 Γ1 M1 H2 G2 Γ2 M2) : Es σ H G Γ M H2 G2 Γ2 M2 :=
  ⟨a.g.trans b.g, fun x o h g m n => let ⟨h', g', m', n'⟩ := a.tmp x o h g m n; b.tmp x o h' g' m' n', fun x h => a.nn x (b.nn x h)⟩
theorem RepR.old {r : Ret} {v : V} {H0' : Hp} (h : RepR K B σ H0 H G Γ M r v) (e : ∀ a, H0 a = none → H0' a = none) : RepR K B σ H0' H G Γ M r v := by
  cases r with
  | dat d => exact h
  | tmp c => obtain ⟨p, e1, h0, r⟩ := h; exact ⟨p, e1, e p h0, r⟩
  | var i => exact h
theorem RepR.es {r : Ret} {v : V} (h : RepR K B σ H0 H G Γ M r v) (e : Es σ H G Γ M H1 G1 Γ1 M1) : RepR K B σ H0 H1 G1 Γ1 M1 r v := by
  cases r with
  | dat d => exact Rep.mono e.g h
  | tmp c =>
    obtain ⟨p, e1, h0, hb, ⟨hg, o, ho, hc⟩, hm, hn⟩ := h
    obtain ⟨a1, a2, a3, a4⟩ := e.tmp p o ho hg hm hn
    exact ⟨p, e1, h0, hb, ⟨a2, o, a1, hc.mono e.g⟩, a3, a4⟩
  | var i => exact h
theorem Ok.new {p : Addr} {o : HO} (k : Ok K ρ B σ H G Γ M) (hp : H p = none) : Ok K ρ B σ (upd H p o) (upd G p o) Γ M ∧ Es σ H G Γ M (upd H p o) (upd G p o) Γ M := by
  have gp : G p = none := k.ex.none hp
  have eG : Ex G (upd G p o) := Ex.new gp
  have eH : Ex H (upd H p o) := Ex.new hp
  have cel : ∀ a c, Cel K H G a c → Cel K (upd H p o) (upd G p o) a c := fun a c ⟨h1, u, h2, h3⟩ =>
    have ne : a ≠ p := ne_of_none h2 hp
    ⟨by rw [upd_ne ne]; exact h1, u, eH _ _ h2, h3.mono eG⟩
  refine ⟨⟨⟨k.st.g.trans eG, fun a u h n => eH _ _ (k.st.fr a u h n), fun a u h => ?_, k.st.mn, fun a h => k.st.nn a (eH.none h)⟩, fun a u h => ?_, k.nd, fun a c h => cel a c (k.ms a c h), fun i d h => ?_, fun i c h => ?_, k.dis, k.len, k.pb⟩, eG, fun a u h g m n => ?_, fun _ h => eH.none h⟩
  · by_cases e : a = p
    · subst e; exact .inr (k.st.nn _ hp)
    · rw [upd_ne e] at h; exact k.st.gn a u h
  · by_cases e : a = p
    · subst e; rw [upd_same] at h ⊢; exact h
    · rw [upd_ne e] at h ⊢; exact k.ex a u h
  · obtain ⟨v, h1, h2⟩ := k.dat i d h
    exact ⟨v, h1, h2.mono eG⟩
  · obtain ⟨q, h1, h2, h3, h4⟩ := k.own i c h
    exact ⟨q, h1, h2, h3, cel q c h4⟩
  · have ne : a ≠ p := ne_of_none h hp
    exact ⟨eH _ _ h, by rw [upd_ne ne]; exact g, m, n⟩
theorem Ok.tmp {p : Addr} {o : HO} (k : Ok K ρ B σ H G Γ M) (hp : H p = none) : Ok K ρ B σ (upd H p o) G Γ M ∧ Es σ H G Γ M (upd H p o) G Γ M ∧ p ∉ dom M ∧ ¬ owned σ Γ p ∧ B.H p = none ∧ G p = none := by
  have gp : G p = none := k.ex.none hp
  have eH : Ex H (upd H p o) := Ex.new hp
  have cel : ∀ a c, Cel K H G a c → Cel K (upd H p o) G a c := fun a c ⟨h1, u, h2, h3⟩ => ⟨h1, u, eH _ _ h2, h3⟩
  have nm : p ∉ dom M := fun hm => by
    obtain ⟨⟨a, c⟩, h1, h2⟩ := List.mem_map.mp hm
    obtain ⟨_, u, h3, _⟩ := k.ms a c h1
    simp at h2; subst h2; rw [hp] at h3; cases h3
  have no : ¬ owned σ Γ p := fun ⟨i, c, h1, h2⟩ => by
    obtain ⟨q, h3, _, _, _, u, h4, _⟩ := k.own i c h1
    rw [h2] at h3; cases h3; rw [hp] at h4; cases h4
  exact ⟨⟨⟨k.st.g, fun a u h n => eH _ _ (k.st.fr a u h n), k.st.gn, k.st.mn, fun a h => k.st.nn a (eH.none h)⟩, k.ex.trans eH, k.nd, fun a c h => cel a c (k.ms a c h), k.dat, fun i c h => let ⟨q, h1, h2, h3, h4⟩ := k.own i c h; ⟨q, h1, h2, h3, cel q c h4⟩, k.dis, k.len, k.pb⟩,
    ⟨Ex.refl G, fun a u h g m n => ⟨eH _ _ h, g, m, n⟩, fun _ h => eH.none h⟩, nm, no, k.st.nn _ hp, gp⟩
theorem Ok.freeze {p : Addr} {o : HO} (k : Ok K ρ B σ H G Γ M) (hp : H p = some o) (hb : B.H p = none) (hm : p ∉ dom M) (hn : ¬ owned σ Γ p) (hg : G p = none) :
    Ok K ρ B σ H (upd G p o) Γ M ∧ Ex G (upd G p o) := by
  have eG : Ex G (upd G p o) := Ex.new hg
  have cel : ∀ a c, a ≠ p → Cel K H G a c → Cel K H (upd G p o) a c := fun a c ne ⟨h1, u, h2, h3⟩ => ⟨by rw [upd_ne ne]; exact h1, u, h2, h3.mono eG⟩
  refine ⟨⟨⟨k.st.g.trans eG, k.st.fr, fun a u h => ?_, k.st.mn, k.st.nn⟩, fun a u h => ?_, k.nd, fun a c h => cel a c (fun e => hm (e ▸ List.mem_map.mpr ⟨_, h, rfl⟩)) (k.ms a c h), fun i d h => ?_, fun i c h => ?_, k.dis, k.len, k.pb⟩, eG⟩
  · by_cases e : a = p
    · subst e; exact .inr hb
    · rw [upd_ne e] at h; exact k.st.gn a u h
  · by_cases e : a = p
    · subst e; rw [upd_same] at h; cases h; exact hp
    · rw [upd_ne e] at h; exact k.ex a u h
  · obtain ⟨v, h1, h2⟩ := k.dat i d h
    exact ⟨v, h1, h2.mono eG⟩
  · obtain ⟨q, h1, h2, h3, h4⟩ := k.own i c h
    exact ⟨q, h1, h2, h3, cel q c (fun e => hn ⟨i, c, h, e ▸ h1⟩) h4⟩
theorem getElem?_setS {l : Sl} {i j : Nat} {s t : Slot} (h : (l.set i s)[j]? = some t) : (j = i ∧ t = s) ∨ (j ≠ i ∧ l[j]? = some t) := by
  rw [List.getElem?_set] at h
  by_cases e : i = j
  · rw [if_pos e] at h
    split at h
    · cases h; exact .inl ⟨e.symm, rfl⟩
    · cases h
  · rw [if_neg e] at h; exact .inr ⟨fun q => e q.symm, h⟩
theorem Ok.frzSlot {i : Nat} {ds : List D} (k : Ok K ρ B σ H G Γ M) (hi : Γ[i]? = some (.own (.lst ds))) :
    ∃ G' v, Ok K ρ B σ H G' (Γ.set i (.dat (.lst ds))) M ∧ Es σ H G Γ M H G' (Γ.set i (.dat (.lst ds))) M ∧ σ[i]? = some (some v) ∧ Rep K G' (.lst ds) v := by
  obtain ⟨p, s1, hb, hm, hg, o, ho, vs, rfl, hr⟩ := k.own i _ hi
  have no : ¬ owned σ (Γ.set i .non) p := fun ⟨j, c, h1, h2⟩ => by
    rcases getElem?_setS h1 with ⟨_, e⟩ | ⟨ne, e⟩
    · cases e
    · exact ne (k.dis j i _ _ p e hi h2 s1)
  have k0 : Ok K ρ B σ H G (Γ.set i .non) M := ⟨k.st, k.ex, k.nd, k.ms, fun j d h => by
      rcases getElem?_setS h with ⟨_, e⟩ | ⟨_, e⟩
      · cases e
      · exact k.dat j d e, fun j c h => by
      rcases getElem?_setS h with ⟨_, e⟩ | ⟨_, e⟩
      · cases e
      · exact k.own j c e, fun j l c c' q h h' a b => by
      rcases getElem?_setS h with ⟨_, e⟩ | ⟨_, e⟩
      · cases e
      rcases getElem?_setS h' with ⟨_, e'⟩ | ⟨_, e'⟩
      · cases e'
      exact k.dis j l c c' q e e' a b, by rw [List.length_set]; exact k.len, k.pb⟩
  obtain ⟨k1, eG⟩ := k0.freeze ho hb hm no hg
  have rp : Rep K (upd G p (.lst vs)) (.lst ds) (.ref p) := rep_lst.mpr ⟨p, vs, rfl, upd_same, hr.mono eG⟩
  refine ⟨_, _, ⟨k1.st, k1.ex, k1.nd, k1.ms, fun j d h => ?_, fun j c h => ?_, fun j l c c' q h h' a b => ?_, by rw [List.length_set]; exact k.len, k.pb⟩, ⟨eG, fun a u h g m n => ?_, fun _ h => h⟩, s1, rp⟩
  · rcases getElem?_setS h with ⟨e1, e⟩ | ⟨ne, e⟩
    · cases e; subst e1; exact ⟨_, s1, rp⟩
    · exact k1.dat j d (by rw [List.getElem?_set_ne (fun q => ne q.symm)]; exact e)
  · rcases getElem?_setS h with ⟨_, e⟩ | ⟨ne, e⟩
    · cases e
    · exact k1.own j c (by rw [List.getElem?_set_ne (fun q => ne q.symm)]; exact e)
  · rcases getElem?_setS h with ⟨_, e⟩ | ⟨_, e⟩
    · cases e
    rcases getElem?_setS h' with ⟨_, e'⟩ | ⟨_, e'⟩
    · cases e'
    exact k.dis j l c c' q e e' a b
  · have ne : a ≠ p := fun e => n ⟨i, _, hi, e ▸ s1⟩
    refine ⟨h, by rw [upd_ne ne]; exact g, m, fun ⟨j, c, h1, h2⟩ => n ?_⟩
    rcases getElem?_setS h1 with ⟨_, e⟩ | ⟨_, e⟩
    · cases e
    · exact ⟨j, c, e, h2⟩
end
end Gw

namespace Gw
open PySem PySem.Spec L2 PyProof.Rows
abbrev tupO (us : List Value) : Obj := { cls := .type "tuple", data := .seq us.toArray }
def NewT (H : Hp) (xs : List V) (Q : VK) : Prop := ∀ p o, H p = none → o.dict = none → Q (.ref p) (upd H p (.frz o (.tup xs)))
section
variable {X : Cx} {pins : List (Addr × Obj)} {σ : L2.St} {H : Hp} {s : Shared}
theorem made_tup {xs : List V} {us : List Value} {Q : VK} (I : Inv X pins σ H s) (r : Vals xs us) (hz : xs.length ≤ sizeLine) (q : NewT H xs Q) : EP X pins σ Q (.ref s.heap.objs.size) { s with heap := s.heap.push (tupO us) } :=
  ⟨.ref _, _, I.laid (t' := s.toks) (o := .frz (tupO us) (.tup xs)) (fun _ _ z => Heap.get?_push_of_some _ z) (Nat.le_refl _) ⟨Heap.get?_push_size _ rfl, hz, us, r, IsTup.new _ _⟩, rfl, q _ _ (I.hok.fresh (Nat.le_refl _)) rfl⟩
theorem take_all {X : Cx} {pins : List (Addr × Obj)} {σ : L2.St} {H0 : Hp} {s : Shared} {h' : Heap} {tk : Nat} (I0 : Inv X pins σ H0 s) (P : Addr → HO → Prop) : ∀ (L : List Addr) (H1 : Hp), Inv X pins σ H1 { s with heap := h', toks := tk } → L.Nodup →
    (∀ a ∈ L, s.heap.objs.size ≤ a ∧ H1 a = none ∧ ∃ u, P a u ∧ ∀ H2, ObjOk X.prog X.w H2 h' a u) → ∃ H2, Inv X pins σ H2 { s with heap := h', toks := tk } ∧ Ex H1 H2 ∧ ∀ a ∈ L, ∃ u, P a u ∧ H2 a = some u := by
  intro L
  induction L with
  | nil => exact fun H1 I1 _ _ => ⟨H1, I1, Ex.refl _, fun _ z => nomatch z⟩
  | cons a L ih =>
    intro H1 I1 nd all
    obtain ⟨lo, new, u, pu, ok⟩ := all a List.mem_cons_self
    obtain ⟨na, nd'⟩ := List.nodup_cons.mp nd
    have I2 : Inv X pins σ (upd H1 a u) { s with heap := h', toks := tk } := I1.take (h' := h') (t' := tk) (fun _ _ _ e => e) (I0.fpOk lo new) (ok _)
    obtain ⟨H2, I3, e, r⟩ := ih (upd H1 a u) I2 nd' fun c hc => by
      obtain ⟨c1, c2, c3⟩ := all c (List.mem_cons_of_mem _ hc)
      exact ⟨c1, (upd_ne fun (z : c = a) => na (z ▸ hc)).trans c2, c3⟩
    refine ⟨H2, I3, (Ex.new new).trans e, fun c hc => (List.mem_cons.mp hc).elim (fun z => ?_) (r c)⟩
    subst z
    exact ⟨u, pu, e _ _ upd_same⟩
def tTupN (t : TA) : TE := fun σ H Q => t σ H fun xs H1 => xs.length ≤ sizeLine ∧ NewT H1 xs Q
theorem pe_tupN {es : List Expr} {t : TA} {x1} {pos : Pos} (h : PA X es t) : PE X (.Tuple es x1 pos) (tTupN t) := ⟨fun pins s σ H Q I hq => by
  refine wpAny_Tuple_spliced (thn (h.run pos pins s σ H _ I hq) ?_)
  rintro us s1 ⟨xs, H1, I1, r, z, q⟩
  exact ⟨r.length ▸ z, made_tup I1 r z q⟩⟩
def rTupN (K : PySem.W.Frag) : List V → Hp → VK → Prop := fun xs H Q => ∃ p ys, xs = [.ref p] ∧ ((SqL K H p ys ∧ NewT H ys Q) ∨ (SqT K H p ys ∧ Q (.ref p) H))
theorem call_tupN : CallR X (.type "tuple") (rTupN X.K) := by
  rintro pins s σ H xs us Q I r ⟨p, ys, rfl, h⟩
  rcases h with ⟨hl, q⟩ | ht
  · obtain ⟨u, rfl, ru⟩ := vals1 r
    cases ru
    obtain ⟨ws, rw_, l, hz⟩ := I.list hl
    refine call_tuple_list l.isList (fun h' k => ?_) (by rw [List.size_toArray, ← rw_.length]; exact hz)
    exact made_tup (s := { s with heap := h' }) (I.kept (t' := s.toks) k) rw_ hz q
  · exact call_tuple_of pins s σ H _ us Q I r ⟨p, ys, rfl, .inr ht⟩
end
end Gw

namespace Gw
open PySem L2
variable {ρ : Ent}

abbrev AE := Sl → Mem → (Ret → Sl → Mem → Prop) → Prop
abbrev AT := Sl → Mem → (Bool → Sl → Mem → Prop) → Prop
abbrev AA := Sl → Mem → (List D → Sl → Mem → Prop) → Prop
abbrev AOp := Ret → Ret → Sl → Mem → (Ret → Sl → Mem → Prop) → Prop
abbrev AUn := Ret → Sl → Mem → (Ret → Sl → Mem → Prop) → Prop
structure AEnds where
  nx : Sl → Mem → Prop
  rt : Ret → Sl → Mem → Prop
  bk : Sl → Mem → Prop
  ct : Sl → Mem → Prop
abbrev AS := AEnds → Sl → Mem → Prop

section
variable (K : PySem.W.Frag) (ρ : Ent)
def Kont (B : Ent) (σ : St) (H G : Hp) (Γ : Sl) (M : Mem) (Q : Ret → Sl → Mem → Prop) (R : VK) : Prop :=
  ∀ v H' G' Γ' M' r, Ok K ρ B σ H' G' Γ' M' → Es σ H G Γ M H' G' Γ' M' → RepR K B σ H H' G' Γ' M' r v → Q r Γ' M' → R v H'
def RdE (te : TE) (ae : AE) : Prop := ∀ B σ H G Γ M Q R, Ok K ρ B σ H G Γ M → ae Γ M Q → Kont K ρ B σ H G Γ M Q R → te σ H R
def RdT (tt : TT) (at' : AT) : Prop := ∀ B σ H G Γ M (Q : Bool → Sl → Mem → Prop) (R : Bool → Hp → Prop), Ok K ρ B σ H G Γ M → at' Γ M Q →
  (∀ b H' G' Γ' M', Ok K ρ B σ H' G' Γ' M' → Es σ H G Γ M H' G' Γ' M' → Q b Γ' M' → R b H') → tt σ H R
def RdA (ta : TA) (aa : AA) : Prop := ∀ B σ H G Γ M (Q : List D → Sl → Mem → Prop) (R : List V → Hp → Prop), Ok K ρ B σ H G Γ M → aa Γ M Q →
  (∀ vs H' G' Γ' M' ds, Ok K ρ B σ H' G' Γ' M' → Es σ H G Γ M H' G' Γ' M' → RepL K G' ds vs → Q ds Γ' M' → R vs H') → ta σ H R
def RdO (r : R2) (ao : AOp) : Prop := ∀ B σ H H1 H2 G Γ M rx ry x y Q R, Ok K ρ B σ H G Γ M → RepR K B σ H1 H G Γ M rx x → RepR K B σ H2 H G Γ M ry y → ao rx ry Γ M Q → Kont K ρ B σ H G Γ M Q R → r x y H R
def RdU (r : List V → Hp → VK → Prop) (au : AUn) : Prop := ∀ B σ H H1 G Γ M rx x Q R, Ok K ρ B σ H G Γ M → RepR K B σ H1 H G Γ M rx x → au rx Γ M Q → Kont K ρ B σ H G Γ M Q R → r [x] H R
def RdU2 (r : List V → Hp → VK → Prop) (ao : AOp) : Prop := ∀ B σ H H1 H2 G Γ M rx ry x y Q R, Ok K ρ B σ H G Γ M → RepR K B σ H1 H G Γ M rx x → RepR K B σ H2 H G Γ M ry y → ao rx ry Γ M Q → Kont K ρ B σ H G Γ M Q R → r [x, y] H R
def RdV (r : V → Hp → VK → Prop) (au : AUn) : Prop := ∀ B σ H H1 G Γ M rx x Q R, Ok K ρ B σ H G Γ M → RepR K B σ H1 H G Γ M rx x → au rx Γ M Q → Kont K ρ B σ H G Γ M Q R → r x H R
end
structure QE (X : Cx) (ρ : Ent) (e : Expr) (te : TE) (ae : AE) : Prop where
  pe : PE X e te
  rd : RdE X.K ρ te ae
structure QT (X : Cx) (ρ : Ent) (e : Expr) (tt : TT) (at' : AT) : Prop where
  pe : PT X e tt
  rd : RdT X.K ρ tt at'
structure QW (X : Cx) (ρ : Ent) (e : Expr) (tt : TT) (at' : AT) : Prop where
  pe : PW X e tt
  rd : RdT X.K ρ tt at'
structure QA (X : Cx) (ρ : Ent) (es : List Expr) (ta : TA) (aa : AA) : Prop where
  pe : PA X es ta
  rd : RdA X.K ρ ta aa

section
variable {X : Cx} {a b c : Expr} {ta tb tc te : TE} {aa ab ac ae : AE} {pos : Pos} {K : PySem.W.Frag} {B : Ent} {σ : St} {H G H1 G1 H2 G2 : Hp} {Γ Γ1 Γ2 : Sl} {M M1 M2 : Mem}
theorem Kont.es {Q : Ret → Sl → Mem → Prop} {R : VK} (k : Kont K ρ B σ H G Γ M Q R) (e : Es σ H G Γ M H1 G1 Γ1 M1) : Kont K ρ B σ H1 G1 Γ1 M1 Q R :=
  fun v H' G' Γ' M' r o e' rr q => k v H' G' Γ' M' r o (e.trans e') (rr.old fun p h => e.nn p h) q

def aVar (i : Nat) (Γ : Sl) (M : Mem) (Q : Ret → Sl → Mem → Prop) : Prop := match Γ[i]? with
  | some (.dat d) => Q (.dat d) Γ M
  | some (.own _) => Q (.var i) Γ M
  | _ => False
def aC (d : D) (Γ : Sl) (M : Mem) (Q : Ret → Sl → Mem → Prop) : Prop := Q (.dat d) Γ M
theorem rd_var (i : Nat) : RdE K ρ (tVar i) (aVar i) := by
  intro B σ H G Γ M Q R k h q
  unfold aVar at h
  split at h
  · rename_i d e
    obtain ⟨v, h1, h2⟩ := k.dat i d e
    exact ⟨v, h1, q v H G Γ M (.dat d) k .refl h2 h⟩
  · rename_i c e
    obtain ⟨p, h1, _⟩ := k.own i c e
    exact ⟨_, h1, q _ H G Γ M (.var i) k .refl h1 h⟩
  · exact h.elim
theorem rd_c {v : V} {d : D} (h : ∀ G, Rep K G d v) : RdE K ρ (tC v) (aC d) := fun _ _ H G Γ M _ _ k h' q => q v H G Γ M (.dat d) k .refl (h G) h'
theorem qv (i : Nat) {x : Str} {pos : Pos} (hN : X.N[i]? = some x := by rfl) (hv : Vis X.env.scope x := by first | exact Or.inl rfl | exact Or.inr (Or.inl rfl) | exact Or.inr (Or.inr rfl)) (hd : (x == ("__debug__" : Str)) = false := by decide)
    (hcd : (x == ("__classdict__" : Str)) = false := by decide) : QE X ρ (.Name x pos) (tVar i) (aVar i) := ⟨pe_var hN hv hd hcd, rd_var i⟩
theorem q_int {i j pos} : QE X ρ (.Constant (.int i) j pos) (tC (.int i)) (aC (.int i)) := ⟨pe_int, rd_c fun _ => by rw [Rep]⟩
theorem q_bl {b j pos} : QE X ρ (.Constant (.bool b) j pos) (tC (.bl b)) (aC (.bl b)) := ⟨pe_bl, rd_c fun _ => by rw [Rep]⟩
theorem q_str {x j pos} : QE X ρ (.Constant (.str x) j pos) (tC (.str x)) (aC (.str x)) := ⟨pe_str, rd_c fun _ => by rw [Rep]⟩

def frz (r : Ret) (Γ : Sl) (k : D → Sl → Prop) : Prop := match r with
  | .dat d => k d Γ
  | .tmp (.lst ds) => k (.lst ds) Γ
  | .tmp _ => False
  | .var i => match Γ[i]? with
    | some (.dat d) => k d Γ
    | some (.own (.lst ds)) => k (.lst ds) (Γ.set i (.dat (.lst ds)))
    | _ => False
theorem frz_ok {r : Ret} {v : V} {k : D → Sl → Prop} {H0 : Hp} (o : Ok K ρ B σ H1 G1 Γ1 M1) (e : Es σ H G Γ M H1 G1 Γ1 M1) (rr : RepR K B σ H H1 G1 Γ1 M1 r v) (h : frz r Γ1 k) :
    ∃ G2 Γ2 d, Ok K ρ B σ H1 G2 Γ2 M1 ∧ Es σ H G Γ M H1 G2 Γ2 M1 ∧ Rep K G2 d v ∧ k d Γ2 := by
  cases r with
  | dat d => exact ⟨G1, Γ1, d, o, e, rr, h⟩
  | tmp c =>
    obtain ⟨p, rfl, h0, hb, ⟨hg, u, hu, hc⟩, hm, hn⟩ := rr
    cases c with
    | lst ds =>
      obtain ⟨vs, rfl, hr⟩ := hc
      obtain ⟨k1, eG⟩ := o.freeze hu hb hm hn hg
      refine ⟨_, Γ1, .lst ds, k1, ⟨e.g.trans eG, fun a w h g m n => ?_, e.nn⟩, rep_lst.mpr ⟨p, vs, rfl, upd_same, hr.mono eG⟩, h⟩
      obtain ⟨a1, a2, a3, a4⟩ := e.tmp a w h g m n
      have ne : a ≠ p := ne_of_none h h0
      exact ⟨a1, by rw [upd_ne ne]; exact a2, a3, a4⟩
    | dct ks ds => exact h.elim
    | dcT ks ds => exact h.elim
    | dcN ks ds => exact h.elim
    | ins cn ns ds => exact h.elim
    | tab q => exact h.elim
  | var i =>
    unfold frz at h
    dsimp only at h
    split at h
    · rename_i d e1
      obtain ⟨v', h1, h2⟩ := o.dat i d e1
      have : v' = v := by have := (show σ[i]? = some (some v) from rr); rw [h1] at this; cases this; rfl
      subst this
      exact ⟨G1, Γ1, d, o, e, h2, h⟩
    · rename_i ds e1
      obtain ⟨G2, v', k1, e2, h1, h2⟩ := o.frzSlot e1
      have : v' = v := by have := (show σ[i]? = some (some v) from rr); rw [h1] at this; cases this; rfl
      subst this
      exact ⟨G2, _, _, k1, e.trans e2, h2, h⟩
    · exact h.elim
inductive Sq where
  | tup (ds : List D) | lst (ds : List D) | scr (ds : List D)
def Sq.ds : Sq → List D
  | .tup ds => ds
  | .lst ds => ds
  | .scr ds => ds
def sqD (M : Mem) : D → Option Sq
  | .tup ds => some (.tup ds)
  | .lst ds => some (.lst ds)
  | .scr ds => some (.scr ds)
  | .ref a => match M.lookup a with
    | some (.lst ds) => some (.lst ds)
    | _ => none
  | _ => none
def sqOf (r : Ret) (Γ : Sl) (M : Mem) : Option Sq := match r with
  | .dat d => sqD M d
  | .tmp (.lst ds) => some (.lst ds)
  | .tmp _ => none
  | .var i => match Γ[i]? with
    | some (.dat d) => sqD M d
    | some (.own (.lst ds)) => some (.lst ds)
    | _ => none
theorem lookup_mem {M : Mem} {a : Addr} {c : Cell} (h : M.lookup a = some c) : (a, c) ∈ M := by
  induction M with
  | nil => cases h
  | cons x M ih =>
    obtain ⟨b, c'⟩ := x
    rw [List.lookup_cons] at h
    by_cases e : a = b
    · subst e; rw [beq_self_eq_true] at h; cases h; exact List.mem_cons_self
    · rw [beq_eq_false_iff_ne.mpr e] at h; exact List.mem_cons_of_mem _ (ih h)
def SqR (K : PySem.W.Frag) (H G : Hp) (s : Sq) (v : V) : Prop := match s with
  | .tup ds => ∃ a xs, v = .ref a ∧ SqT K H a xs ∧ RepL K G ds xs
  | .lst ds => ∃ a xs, v = .ref a ∧ H a = some (.lst xs) ∧ RepL K G ds xs
  | .scr ds => ∃ a xs, v = .ref a ∧ SqL K H a xs ∧ RepL K G ds xs
theorem SqR.rd {s : Sq} {v : V} (h : SqR K H G s v) : ∃ a xs, v = .ref a ∧ ((∃ ds, s = .tup ds ∧ SqT K H a xs) ∨ ((∃ ds, s = .lst ds ∨ s = .scr ds) ∧ SqL K H a xs)) ∧ RepL K G s.ds xs := by
  cases s with
  | tup ds => obtain ⟨a, xs, e, h1, h2⟩ := h; exact ⟨a, xs, e, .inl ⟨ds, rfl, h1⟩, h2⟩
  | lst ds => obtain ⟨a, xs, e, h1, h2⟩ := h; exact ⟨a, xs, e, .inr ⟨⟨ds, .inl rfl⟩, SqL.of h1⟩, h2⟩
  | scr ds => obtain ⟨a, xs, e, h1, h2⟩ := h; exact ⟨a, xs, e, .inr ⟨⟨ds, .inr rfl⟩, h1⟩, h2⟩
theorem sqD_ok {d : D} {v : V} {s : Sq} (o : Ok K ρ B σ H G Γ M) (r : Rep K G d v) (h : sqD M d = some s) : SqR K H G s v := by
  unfold sqD at h
  split at h
  · cases h
    obtain ⟨a, xs, e, h1, h2⟩ := rep_tup r
    exact ⟨a, xs, e, ex_t o.ex h1, h2⟩
  · cases h
    obtain ⟨a, xs, e, h1, h2⟩ := rep_lst.mp r
    exact ⟨a, xs, e, o.ex _ _ h1, h2⟩
  · cases h
    obtain ⟨a, xs, e, h1, h2⟩ := rep_scr.mp r
    exact ⟨a, xs, e, ex_l o.ex h1, h2⟩
  · rename_i a
    split at h
    · rename_i ds e
      cases h
      obtain ⟨_, u, hu, vs, rfl, hr⟩ := o.ms a _ (lookup_mem e)
      rw [Rep] at r
      exact ⟨a, vs, r, hu, hr⟩
    · cases h
  · cases h
theorem sqOf_ok {r : Ret} {v : V} {s : Sq} {H0 : Hp} (o : Ok K ρ B σ H G Γ M) (rr : RepR K B σ H0 H G Γ M r v) (h : sqOf r Γ M = some s) : SqR K H G s v := by
  cases r with
  | dat d => exact sqD_ok o rr h
  | tmp c =>
    cases c with
    | lst ds =>
      cases h
      obtain ⟨p, rfl, h0, hb, ⟨hg, u, hu, vs, rfl, hr⟩, hm, hn⟩ := rr
      exact ⟨p, vs, rfl, hu, hr⟩
    | dct ks ds => cases h
    | dcT ks ds => cases h
    | dcN ks ds => cases h
    | ins cn ns ds => cases h
    | tab q => cases h
  | var i =>
    unfold sqOf at h
    dsimp only at h
    split at h
    · rename_i d e1
      obtain ⟨v', h1, h2⟩ := o.dat i d e1
      have : v' = v := by have := (show σ[i]? = some (some v) from rr); rw [h1] at this; cases this; rfl
      subst this
      exact sqD_ok o h2 h
    · rename_i ds e1
      cases h
      obtain ⟨p, s1, hb, hm, hg, u, ho, vs, rfl, hr⟩ := o.own i _ e1
      have : v = .ref p := by have := (show σ[i]? = some (some v) from rr); rw [s1] at this; cases this; rfl
      subst this
      exact ⟨p, vs, rfl, ho, hr⟩
    · cases h

def aOp (ao : AOp) (aa ab : AE) (Γ : Sl) (M : Mem) (Q : Ret → Sl → Mem → Prop) : Prop := aa Γ M fun x Γ1 M1 => ab Γ1 M1 fun y Γ2 M2 => ao x y Γ2 M2 Q
theorem rd_op {r : R2} {ao : AOp} (ho : RdO K ρ r ao) (ha : RdE K ρ ta aa) (hb : RdE K ρ tb ab) : RdE K ρ (tOp r ta tb) (aOp ao aa ab) := by
  intro B σ H G Γ M Q R k h q
  refine ha B σ H G Γ M _ _ k h fun v H1 G1 Γ1 M1 r1 k1 e1 rr1 h1 => ?_
  refine hb B σ H1 G1 Γ1 M1 _ _ k1 h1 fun u H2 G2 Γ2 M2 r2 k2 e2 rr2 h2 => ?_
  exact ho B σ H2 _ _ G2 Γ2 M2 r1 r2 v u Q R k2 (rr1.es e2) rr2 h2 (q.es (e1.trans e2))
theorem q_op {op : Operator} {r : R2} {ao : AOp} (ho : OpR X (binaryOp op) r) (hr : RdO X.K ρ r ao) (ha : QE X ρ a ta aa) (hb : QE X ρ b tb ab) : QE X ρ (.BinOp a op b pos) (tOp r ta tb) (aOp ao aa ab) := ⟨pe_op ho ha.pe hb.pe, rd_op hr ha.rd hb.rd⟩
structure CmpR (X : Cx) (ρ : Ent) (op : CmpOp) (r : R2) (ao : AOp) : Prop where
  ho : OpR X (compareOp op) r
  rd : RdO X.K ρ r ao
theorem q_cmp {op : CmpOp} {r : R2} {ao : AOp} (c : CmpR X ρ op r ao) (ha : QE X ρ a ta aa) (hb : QE X ρ b tb ab) (hm : behindInMarks op b = false := by first | exact nomark _ | rfl) : QE X ρ (.Compare a [op] [b] pos) (tOp r ta tb) (aOp ao aa ab) :=
  ⟨pe_cmpR c.ho ha.pe hb.pe hm, rd_op c.rd ha.rd hb.rd⟩
theorem q_ix {r : R2} {ao : AOp} (ho : IxR X r) (hr : RdO X.K ρ r ao) (ha : QE X ρ a ta aa) (hb : QE X ρ b tb ab) (hs : PlainIx b := by exact fun _ _ => rfl) : QE X ρ (.Subscript a b pos) (tOp r ta tb) (aOp ao aa ab) := ⟨pe_ix ho ha.pe hb.pe hs, rd_op hr ha.rd hb.rd⟩
def aI0 (g : Int → Int → D) (x : Ret) (y : Ret) (Γ : Sl) (M : Mem) (Q : Ret → Sl → Mem → Prop) : Prop := match x, y with
  | .dat (.int i), .dat (.int j) => Q (.dat (g i j)) Γ M
  | _, _ => False
def aIC (C : Int → Int → Prop) (g : Int → Int → D) (x : Ret) (y : Ret) (Γ : Sl) (M : Mem) (Q : Ret → Sl → Mem → Prop) : Prop := match x, y with
  | .dat (.int i), .dat (.int j) => C i j ∧ Q (.dat (g i j)) Γ M
  | _, _ => False
theorem rd_I0 {g : Int → Int → V} {g' : Int → Int → D} (hg : ∀ i j G, Rep K G (g' i j) (g i j)) : RdO K ρ (rI0 g) (aI0 g') := by
  intro B σ H H1 H2 G Γ M rx ry x y Q R k r1 r2 h q
  unfold aI0 at h
  split at h
  · rename_i i j
    have e1 : x = .int i := by have := r1; simp only [RepR, Rep] at this; exact this
    have e2 : y = .int j := by have := r2; simp only [RepR, Rep] at this; exact this
    exact ⟨i, j, e1, e2, q _ H G Γ M (.dat _) k .refl (hg i j G) h⟩
  · exact h.elim
theorem rd_IC {C : Int → Int → Prop} {g : Int → Int → V} {g' : Int → Int → D} (hg : ∀ i j G, Rep K G (g' i j) (g i j)) : RdO K ρ (rI C g) (aIC C g') := by
  intro B σ H H1 H2 G Γ M rx ry x y Q R k r1 r2 h q
  unfold aIC at h
  split at h
  · rename_i i j
    have e1 : x = .int i := by have := r1; simp only [RepR, Rep] at this; exact this
    have e2 : y = .int j := by have := r2; simp only [RepR, Rep] at this; exact this
    exact ⟨i, j, e1, e2, h.1, q _ H G Γ M (.dat _) k .refl (hg i j G) h.2⟩
  · exact h.elim
theorem q_add (ha : QE X ρ a ta aa) (hb : QE X ρ b tb ab) : QE X ρ (.BinOp a .Add b pos) (tOp (rI0 fun i j => .int (i + j)) ta tb) (aOp (aI0 fun i j => .int (i + j)) aa ab) := q_op op_add (rd_I0 fun _ _ _ => by rw [Rep]) ha hb
theorem q_sub (ha : QE X ρ a ta aa) (hb : QE X ρ b tb ab) : QE X ρ (.BinOp a .Sub b pos) (tOp (rI0 fun i j => .int (i - j)) ta tb) (aOp (aI0 fun i j => .int (i - j)) aa ab) := q_op op_sub (rd_I0 fun _ _ _ => by rw [Rep]) ha hb
def CM (i j : Int) : Prop := CMul i j ∨ CMulW i j
theorem op_mulA : OpR X (binaryOp .Mult) (rI CM fun i j => .int (i * j)) := fun pins s σ H x y v u Q I rx ry h => by
  obtain ⟨i, j, e1, e2, hc, q⟩ := h
  rcases hc with hc | hc
  · exact op_mul pins s σ H x y v u Q I rx ry ⟨i, j, e1, e2, hc, q⟩
  · exact op_mulW pins s σ H x y v u Q I rx ry ⟨i, j, e1, e2, hc, q⟩
theorem q_mul (ha : QE X ρ a ta aa) (hb : QE X ρ b tb ab) : QE X ρ (.BinOp a .Mult b pos) (tOp (rI CM fun i j => .int (i * j)) ta tb) (aOp (aIC CM fun i j => .int (i * j)) aa ab) := q_op op_mulA (rd_IC fun _ _ _ => by rw [Rep]) ha hb
theorem q_mod (ha : QE X ρ a ta aa) (hb : QE X ρ b tb ab) : QE X ρ (.BinOp a .Mod b pos) (tOp (rI (fun _ j => j ≠ 0) fun i j => .int (i.fmod j)) ta tb) (aOp (aIC (fun _ j => j ≠ 0) fun i j => .int (i.fmod j)) aa ab) := q_op op_modN (rd_IC fun _ _ _ => by rw [Rep]) ha hb
theorem q_div (ha : QE X ρ a ta aa) (hb : QE X ρ b tb ab) : QE X ρ (.BinOp a .FloorDiv b pos) (tOp (rI CDivW fun i j => .int (i / j)) ta tb) (aOp (aIC CDivW fun i j => .int (i / j)) aa ab) := q_op op_fdivW (rd_IC fun _ _ _ => by rw [Rep]) ha hb
theorem c_lt : CmpR X ρ .Lt (rI0 fun i j => .bl (decide (i < j))) (aI0 fun i j => .bl (decide (i < j))) := ⟨op_lt, rd_I0 fun _ _ _ => by rw [Rep]⟩
theorem c_le : CmpR X ρ .LtE (rI0 fun i j => .bl (decide (i ≤ j))) (aI0 fun i j => .bl (decide (i ≤ j))) := ⟨op_le, rd_I0 fun _ _ _ => by rw [Rep]⟩
theorem c_gt : CmpR X ρ .Gt (rI0 fun i j => .bl (decide (j < i))) (aI0 fun i j => .bl (decide (j < i))) := ⟨op_gt, rd_I0 fun _ _ _ => by rw [Rep]⟩
theorem c_ge : CmpR X ρ .GtE (rI0 fun i j => .bl (decide (j ≤ i))) (aI0 fun i j => .bl (decide (j ≤ i))) := ⟨op_ge, rd_I0 fun _ _ _ => by rw [Rep]⟩

def aNil (Γ : Sl) (M : Mem) (Q : List D → Sl → Mem → Prop) : Prop := Q [] Γ M
def aCons (aa : AE) (ar : AA) (Γ : Sl) (M : Mem) (Q : List D → Sl → Mem → Prop) : Prop := aa Γ M fun r Γ1 M1 => frz r Γ1 fun d Γ2 => ar Γ2 M1 fun ds Γ3 M3 => Q (d :: ds) Γ3 M3
theorem rd_nil : RdA K ρ tNil aNil := fun _ _ H G Γ M _ _ k h q => q [] H G Γ M [] k .refl (repL_nil.mpr rfl) h
theorem rd_cons {tr : TA} {ar : AA} (ha : RdE K ρ ta aa) (hr : RdA K ρ tr ar) : RdA K ρ (tCons ta tr) (aCons aa ar) := by
  intro B σ H G Γ M Q R k h q
  refine ha B σ H G Γ M _ _ k h fun v H1 G1 Γ1 M1 r k1 e1 rr h1 => ?_
  obtain ⟨G2, Γ2, d, k2, e2, rp, h2⟩ := frz_ok (H0 := H) k1 e1 rr h1
  refine hr B σ H1 G2 Γ2 M1 _ _ k2 h2 fun vs H3 G3 Γ3 M3 ds k3 e3 rl h3 => ?_
  exact q _ H3 G3 Γ3 M3 (d :: ds) k3 (e2.trans e3) (repL_cons.mpr ⟨v, vs, rfl, rp.mono e3.g, rl⟩) h3
theorem qa_nil : QA X ρ [] tNil aNil := ⟨pa_nil, rd_nil⟩
theorem qa_cons {es : List Expr} {tr : TA} {ar : AA} (ha : QE X ρ a ta aa) (hr : QA X ρ es tr ar) (hs : starEach (a :: es) X.env = (false, eval a X.env) :: starEach es X.env := by rfl) : QA X ρ (a :: es) (tCons ta tr) (aCons aa ar) := ⟨pa_cons ha.pe hr.pe hs, rd_cons ha.rd hr.rd⟩
def aTup (aa : AA) (Γ : Sl) (M : Mem) (Q : Ret → Sl → Mem → Prop) : Prop := aa Γ M fun ds Γ1 M1 => ds.length ≤ sizeLine ∧ Q (.dat (.tup ds)) Γ1 M1
def aLst (aa : AA) (Γ : Sl) (M : Mem) (Q : Ret → Sl → Mem → Prop) : Prop := aa Γ M fun ds Γ1 M1 => ds.length ≤ sizeLine ∧ Q (.tmp (.lst ds)) Γ1 M1
theorem rd_tup {tr : TA} {ar : AA} (ha : RdA K ρ tr ar) : RdE K ρ (tTupN tr) (aTup ar) := by
  intro B σ H G Γ M Q R k h q
  refine ha B σ H G Γ M _ _ k h fun vs H1 G1 Γ1 M1 ds k1 e1 rl ⟨hl, h1⟩ => ⟨by rw [rl.length]; exact hl, fun p o hp hd => ?_⟩
  obtain ⟨k2, e2⟩ := k1.new (o := .frz o (.tup vs)) hp
  exact q _ _ _ Γ1 M1 (.dat (.tup ds)) k2 (e1.trans e2) (rep_tupN.mpr ⟨p, vs, rfl, SqN.new hd, rl.mono e2.g⟩) h1
theorem rd_lst {tr : TA} {ar : AA} (ha : RdA K ρ tr ar) : RdE K ρ (tLst tr) (aLst ar) := by
  intro B σ H G Γ M Q R k h q
  refine ha B σ H G Γ M _ _ k h fun vs H1 G1 Γ1 M1 ds k1 e1 rl ⟨hl, h1⟩ => ⟨by rw [rl.length]; exact hl, fun p hp => ?_⟩
  obtain ⟨k2, e2, hm, hn, hb, hg⟩ := k1.tmp (o := .lst vs) hp
  exact q _ _ _ Γ1 M1 (.tmp (.lst ds)) k2 (e1.trans e2) ⟨p, rfl, e1.nn p hp, hb, ⟨hg, _, upd_same, vs, rfl, rl⟩, hm, hn⟩ h1
theorem q_tup {es : List Expr} {x1} {tr : TA} {ar : AA} (h : QA X ρ es tr ar) : QE X ρ (.Tuple es x1 pos) (tTupN tr) (aTup ar) := ⟨pe_tupN h.pe, rd_tup h.rd⟩
theorem q_lst {es : List Expr} {tr : TA} {ar : AA} (h : QA X ρ es tr ar) : QE X ρ (.List es pos) (tLst tr) (aLst ar) := ⟨pe_lst h.pe, rd_lst h.rd⟩
theorem Kont.newL {Q : Ret → Sl → Mem → Prop} {R : VK} {ds : List D} {vs : List V} (q : Kont K ρ B σ H G Γ M Q R) (k : Ok K ρ B σ H G Γ M) (rl : RepL K G ds vs) (h : Q (.tmp (.lst ds)) Γ M) : ∀ p, H p = none → R (.ref p) (upd H p (.lst vs)) := fun p hp => by
  obtain ⟨k2, e2, hm, hn, hb, hg⟩ := k.tmp (o := .lst vs) hp
  exact q _ _ _ Γ M (.tmp (.lst ds)) k2 e2 ⟨p, rfl, hp, hb, ⟨hg, _, upd_same, vs, rfl, rl⟩, hm, hn⟩ h
theorem Kont.newT {Q : Ret → Sl → Mem → Prop} {R : VK} {ds : List D} {vs : List V} (q : Kont K ρ B σ H G Γ M Q R) (k : Ok K ρ B σ H G Γ M) (rl : RepL K G ds vs) (h : Q (.dat (.tup ds)) Γ M) : NewT H vs R := fun p o hp hd => by
  obtain ⟨k2, e2⟩ := k.new (o := .frz o (.tup vs)) hp
  exact q _ _ _ Γ M (.dat (.tup ds)) k2 e2 (rep_tupN.mpr ⟨p, vs, rfl, SqN.new hd, rl.mono e2.g⟩) h

def aTst (aa : AE) (Γ : Sl) (M : Mem) (Q : Bool → Sl → Mem → Prop) : Prop := aa Γ M fun r Γ1 M1 => match r with
  | .dat (.bl b) => Q b Γ1 M1
  | _ => False
theorem rd_tst (ha : RdE K ρ ta aa) : RdT K ρ (tB ta) (aTst aa) := by
  intro B σ H G Γ M Q R k h q
  refine ha B σ H G Γ M _ _ k h fun v H1 G1 Γ1 M1 r k1 e1 rr h1 => ?_
  split at h1
  · rename_i b
    have e : v = .bl b := by have := rr; simp only [RepR, Rep] at this; exact this
    exact ⟨b, e, q b H1 G1 Γ1 M1 k1 e1 h1⟩
  · exact h1.elim
theorem qt_val (ha : QE X ρ a ta aa) (he : ∀ whole, isTrue a X.env whole = (do let v ← whole; standAt a.pos; holding [v] (truthy v)) := by intro _; rfl) : QT X ρ a (tB ta) (aTst aa) := ⟨pt_val ha.pe he, rd_tst ha.rd⟩
theorem rd_tst' (ha : RdE K ρ ta aa) : RdT K ρ (tTest ta) (aTst aa) := rd_tst ha
theorem qt_cmp {op : CmpOp} {r : R2} {ao : AOp} (c : CmpR X ρ op r ao) (ha : QE X ρ a ta aa) (hb : QE X ρ b tb ab) (hm : behindInMarks op b = false := by first | exact nomark _ | rfl) : QT X ρ (.Compare a [op] [b] pos) (tTest (tOp r ta tb)) (aTst (aOp ao aa ab)) :=
  ⟨pt_cmpR c.ho ha.pe hb.pe hm, rd_tst' (rd_op c.rd ha.rd hb.rd)⟩
def aChain (ao ao' : AOp) (aa ab ac : AE) (Γ : Sl) (M : Mem) (Q : Ret → Sl → Mem → Prop) : Prop := aa Γ M fun x Γ1 M1 => ab Γ1 M1 fun y Γ2 M2 => ao x y Γ2 M2 fun z Γ3 M3 => match z with
  | .dat (.bl k) => if k = true then ac Γ3 M3 fun w Γ4 M4 => ao' y w Γ4 M4 Q else Q (.dat (.bl false)) Γ3 M3
  | _ => False
def aAnd (t u : AT) (Γ : Sl) (M : Mem) (Q : Bool → Sl → Mem → Prop) : Prop := t Γ M fun c Γ1 M1 => if c = true then u Γ1 M1 Q else Q false Γ1 M1
def aOr (t u : AT) (Γ : Sl) (M : Mem) (Q : Bool → Sl → Mem → Prop) : Prop := t Γ M fun c Γ1 M1 => if c = true then Q true Γ1 M1 else u Γ1 M1 Q
def aNot (t : AT) (Γ : Sl) (M : Mem) (Q : Bool → Sl → Mem → Prop) : Prop := t Γ M fun c Γ1 M1 => Q (!c) Γ1 M1
theorem rd_and {tA tC : TT} {aA aC : AT} (ha : RdT K ρ tA aA) (hb : RdT K ρ tC aC) : RdT K ρ (tAnd tA tC) (aAnd aA aC) := by
  intro B σ H G Γ M Q R k h q
  refine ha B σ H G Γ M _ _ k h fun c H1 G1 Γ1 M1 k1 e1 h1 => ?_
  cases c with
  | true => exact hb B σ H1 G1 Γ1 M1 _ _ k1 (by simpa using h1) fun b H2 G2 Γ2 M2 k2 e2 h2 => q b H2 G2 Γ2 M2 k2 (e1.trans e2) h2
  | false => exact q false H1 G1 Γ1 M1 k1 e1 (by simpa using h1)
theorem rd_or {tA tC : TT} {aA aC : AT} (ha : RdT K ρ tA aA) (hb : RdT K ρ tC aC) : RdT K ρ (tOr tA tC) (aOr aA aC) := by
  intro B σ H G Γ M Q R k h q
  refine ha B σ H G Γ M _ _ k h fun c H1 G1 Γ1 M1 k1 e1 h1 => ?_
  cases c with
  | false => exact hb B σ H1 G1 Γ1 M1 _ _ k1 (by simpa using h1) fun b H2 G2 Γ2 M2 k2 e2 h2 => q b H2 G2 Γ2 M2 k2 (e1.trans e2) h2
  | true => exact q true H1 G1 Γ1 M1 k1 e1 (by simpa using h1)
theorem rd_not {tA : TT} {aA : AT} (ha : RdT K ρ tA aA) : RdT K ρ (tNot tA) (aNot aA) := by
  intro B σ H G Γ M Q R k h q
  exact ha B σ H G Γ M _ _ k h fun c H1 G1 Γ1 M1 k1 e1 h1 => q _ H1 G1 Γ1 M1 k1 e1 h1
theorem qw_and1 {tA : TT} {aA : AT} (ha : QT X ρ a tA aA) : QW X ρ (.BoolOp .And [a] pos) tA aA := ⟨pw_and1 ha.pe, ha.rd⟩
theorem qw_or1 {tA : TT} {aA : AT} (ha : QT X ρ a tA aA) : QW X ρ (.BoolOp .Or [a] pos) tA aA := ⟨pw_or1 ha.pe, ha.rd⟩
theorem qw_and {rest : List Expr} {tA tC : TT} {aA aC : AT} (ha : QT X ρ a tA aA) (hb : QW X ρ (.BoolOp .And (b :: rest) pos) tC aC) : QW X ρ (.BoolOp .And (a :: b :: rest) pos) (tAnd tA tC) (aAnd aA aC) := ⟨pw_and ha.pe hb.pe, rd_and ha.rd hb.rd⟩
theorem qw_or {rest : List Expr} {tA tC : TT} {aA aC : AT} (ha : QT X ρ a tA aA) (hb : QW X ρ (.BoolOp .Or (b :: rest) pos) tC aC) : QW X ρ (.BoolOp .Or (a :: b :: rest) pos) (tOr tA tC) (aOr aA aC) := ⟨pw_or ha.pe hb.pe, rd_or ha.rd hb.rd⟩
theorem QW.qt {t : TT} {at' : AT} (h : QW X ρ a t at') : QT X ρ a t at' := ⟨h.pe.pt, h.rd⟩
theorem qt_not {tA : TT} {aA : AT} (ha : QT X ρ a tA aA) : QT X ρ (.UnaryOp .Not a pos) (tNot tA) (aNot aA) := ⟨pt_not ha.pe, rd_not ha.rd⟩
def aAndV (aa ab : AE) (Γ : Sl) (M : Mem) (Q : Ret → Sl → Mem → Prop) : Prop := aa Γ M fun r Γ1 M1 => match r with
  | .dat (.bl c) => if c = true then ab Γ1 M1 Q else Q (.dat (.bl false)) Γ1 M1
  | _ => False
def aOrV (aa ab : AE) (Γ : Sl) (M : Mem) (Q : Ret → Sl → Mem → Prop) : Prop := aa Γ M fun r Γ1 M1 => match r with
  | .dat (.bl c) => if c = true then Q (.dat (.bl true)) Γ1 M1 else ab Γ1 M1 Q
  | _ => False
def aNotV (aa : AE) (Γ : Sl) (M : Mem) (Q : Ret → Sl → Mem → Prop) : Prop := aa Γ M fun r Γ1 M1 => match r with
  | .dat (.bl c) => Q (.dat (.bl (!c))) Γ1 M1
  | _ => False
theorem rd_andV (ha : RdE K ρ ta aa) (hb : RdE K ρ tb ab) : RdE K ρ (tAndV ta tb) (aAndV aa ab) := by
  intro B σ H G Γ M Q R k h q
  refine ha B σ H G Γ M _ _ k h fun v H1 G1 Γ1 M1 r k1 e1 rr h1 => ?_
  split at h1
  · rename_i c
    have e : v = .bl c := by have := rr; simp only [RepR, Rep] at this; exact this
    refine ⟨c, e, ?_⟩
    cases c with
    | true => exact hb B σ H1 G1 Γ1 M1 _ _ k1 (by simpa using h1) (q.es e1)
    | false => exact q _ H1 G1 Γ1 M1 (.dat (.bl false)) k1 e1 (by simp only [RepR, Rep]) (by simpa using h1)
  · exact h1.elim
theorem q_one {op} (h : QE X ρ a ta aa) : QE X ρ (.BoolOp op [a] pos) ta aa := ⟨pe_one h.pe, h.rd⟩
theorem q_and {rest : List Expr} (ha : QE X ρ a ta aa) (hb : QE X ρ (.BoolOp .And (b :: rest) pos) tb ab) : QE X ρ (.BoolOp .And (a :: b :: rest) pos) (tAndV ta tb) (aAndV aa ab) := ⟨pe_and ha.pe hb.pe, rd_andV ha.rd hb.rd⟩
def aIfE (t : AT) (aa ab : AE) (Γ : Sl) (M : Mem) (Q : Ret → Sl → Mem → Prop) : Prop := t Γ M fun c Γ1 M1 => if c = true then aa Γ1 M1 Q else ab Γ1 M1 Q
theorem q_ifExp {tA : TT} {aA : AT} (hc : QT X ρ c tA aA) (ha : QE X ρ a ta aa) (hb : QE X ρ b tb ab) : QE X ρ (.IfExp c a b pos) (tIf tA ta tb) (aIfE aA aa ab) := ⟨pe_ifExp hc.pe ha.pe hb.pe, by
  intro B σ H G Γ M Q R k h q
  refine hc.rd B σ H G Γ M _ _ k h fun c H1 G1 Γ1 M1 k1 e1 h1 => ?_
  cases c with
  | true => exact ha.rd B σ H1 G1 Γ1 M1 _ _ k1 (by simpa using h1) (q.es e1)
  | false => exact hb.rd B σ H1 G1 Γ1 M1 _ _ k1 (by simpa using h1) (q.es e1)⟩
def aUn (au : AUn) (aa : AE) (Γ : Sl) (M : Mem) (Q : Ret → Sl → Mem → Prop) : Prop := aa Γ M fun r Γ1 M1 => au r Γ1 M1 Q
theorem q_un {op : UnaryOp} {r : V → Hp → VK → Prop} {au : AUn} (ho : UnR X (unaryOp op) r) (hr : RdV X.K ρ r au) (ha : QE X ρ a ta aa) : QE X ρ (.UnaryOp op a pos) (tUn r ta) (aUn au aa) := ⟨pe_un ho ha.pe, fun B σ H G Γ M Q R k h q =>
  ha.rd B σ H G Γ M _ _ k h fun v H1 G1 Γ1 M1 rr k1 e1 r1 h1 => hr B σ H1 _ G1 Γ1 M1 rr v Q R k1 r1 h1 (q.es e1)⟩
def aNeg (r : Ret) (Γ : Sl) (M : Mem) (Q : Ret → Sl → Mem → Prop) : Prop := match r with
  | .dat (.int i) => Q (.dat (.int (-i))) Γ M
  | _ => False
theorem q_neg (ha : QE X ρ a ta aa) : QE X ρ (.UnaryOp .USub a pos) (tUn (rU fun i => .int (-i)) ta) (aUn aNeg aa) := q_un un_neg (fun B σ H H1 G Γ M rx x Q R k r1 h q => by
  unfold aNeg at h
  split at h
  · rename_i i
    have e1 : x = .int i := by have := r1; simp only [RepR, Rep] at this; exact this
    exact ⟨i, e1, q _ H G Γ M (.dat (.int (-i))) k .refl (by simp only [RepR, Rep]) h⟩
  · exact h.elim) ha

mutual
def toPy : D → PyData
  | .non => .none
  | .bl b => .bool b
  | .int i => .int i
  | .str x => .str x
  | .tup ds => .tuple (toPyL ds)
  | .lst ds => .list (toPyL ds)
  | .scr ds => .list (toPyL ds)
  | .ref _ => .none
  | .dct _ _ => .none
  | .exc _ _ _ => .none
  | .dcT _ _ => .none
  | .dcN _ _ => .none
  | .clo _ _ => .none
def toPyL : List D → List PyData
  | [] => []
  | d :: ds => toPy d :: toPyL ds
end
mutual
def plain : D → Bool
  | .tup ds => plainL ds
  | .lst ds => plainL ds
  | .scr ds => plainL ds
  | .ref _ => false
  | .dct _ _ => false
  | .exc _ _ _ => false
  | .dcT _ _ => false
  | .dcN _ _ => false
  | .clo _ _ => false
  | .non => true
  | .bl _ => true
  | .int _ => true
  | .str _ => true
def plainL : List D → Bool
  | [] => true
  | d :: ds => plain d && plainL ds
end
mutual
theorem Rep.dp : ∀ {d : D} {v : V}, Rep K H d v → plain d = true → Dp K H v (toPy d)
  | .non, _, h, _ => by rw [Rep] at h; subst h; rw [toPy]; exact .non
  | .bl b, _, h, _ => by rw [Rep] at h; subst h; rw [toPy]; exact .bl b
  | .int i, _, h, _ => by rw [Rep] at h; subst h; rw [toPy]; exact .int i
  | .str x, _, h, _ => by rw [Rep] at h; subst h; rw [toPy]; exact .str x
  | .ref a, _, h, p => by rw [plain] at p; cases p
  | .dct _ _, _, h, p => by rw [plain] at p; cases p
  | .exc _ _ _, _, h, p => by rw [plain] at p; cases p
  | .dcT _ _, _, h, p => by rw [plain] at p; cases p
  | .dcN _ _, _, h, p => by rw [plain] at p; cases p
  | .clo _ _, _, h, p => by rw [plain] at p; cases p
  | .tup ds, _, h, p => by
    obtain ⟨a, xs, rfl, h1, h2⟩ := rep_tup h
    rw [toPy]; exact .tup h1 (RepL.dp h2 (by rw [plain] at p; exact p))
  | .lst ds, _, h, p => by
    obtain ⟨a, xs, rfl, h1, h2⟩ := rep_lst.mp h
    rw [toPy]; exact .lst (SqL.of h1) (RepL.dp h2 (by rw [plain] at p; exact p))
  | .scr ds, _, h, p => by
    obtain ⟨a, xs, rfl, h1, h2⟩ := rep_scr.mp h
    rw [toPy]; exact .lst h1 (RepL.dp h2 (by rw [plain] at p; exact p))
theorem RepL.dp : ∀ {ds : List D} {vs : List V}, RepL K H ds vs → plainL ds = true → DpAll K H vs (toPyL ds)
  | [], _, h, _ => by rw [repL_nil.mp h, toPyL]; exact .nil
  | d :: ds, _, h, p => by
    obtain ⟨x, r, rfl, h1, h2⟩ := repL_cons.mp h
    rw [plainL, Bool.and_eq_true] at p
    rw [toPyL]; exact .cons (Rep.dp h1 p.1) (RepL.dp h2 p.2)
end
def dOf (r : Ret) (Γ : Sl) (M : Mem) : Option D := match r with
  | .dat (.ref a) => match M.lookup a with
    | some (.lst ds) => some (.lst ds)
    | _ => none
  | .dat d => some d
  | .tmp (.lst ds) => some (.lst ds)
  | .tmp _ => none
  | .var i => match Γ[i]? with
    | some (.dat d) => some d
    | some (.own (.lst ds)) => some (.lst ds)
    | _ => none
theorem dOf_ok {r : Ret} {v : V} {d : D} {H0 : Hp} (o : Ok K ρ B σ H G Γ M) (rr : RepR K B σ H0 H G Γ M r v) (h : dOf r Γ M = some d) : Rep K H d v := by
  have lst : ∀ ds, SqR K H G (.lst ds) v → Rep K H (.lst ds) v := fun ds ⟨a, xs, e, h1, h2⟩ => rep_lst.mpr ⟨a, xs, e, h1, h2.mono o.ex⟩
  cases r with
  | dat d' =>
    cases d' with
    | ref a =>
      simp only [dOf] at h
      split at h
      · rename_i ds e
        cases h
        exact lst ds (sqOf_ok o rr (by simp [sqOf, sqD, e]))
      · cases h
    | _ => cases h; exact Rep.mono o.ex rr
  | tmp c =>
    cases c with
    | lst ds => cases h; exact lst ds (sqOf_ok o rr rfl)
    | dct ks ds => cases h
    | dcT ks ds => cases h
    | dcN ks ds => cases h
    | ins cn ns ds => cases h
    | tab q => cases h
  | var i =>
    simp only [dOf] at h
    split at h
    · rename_i d' e1
      cases h
      obtain ⟨v', h1, h2⟩ := o.dat i d e1
      have : v' = v := by have := (show σ[i]? = some (some v) from rr); rw [h1] at this; cases this; rfl
      subst this
      exact h2.mono o.ex
    · rename_i ds e1
      cases h
      exact lst ds (sqOf_ok o rr (by simp [sqOf, e1]))
    · cases h
def cmpOk (d : D) : Bool := plain d && SeqAt.shaped (toPy d)
def eqD (d e : D) : Bool := PyData.eqv (toPy d) (toPy e)
def aEq (f : Bool → Bool) (x : Ret) (y : Ret) (Γ : Sl) (M : Mem) (Q : Ret → Sl → Mem → Prop) : Prop := match dOf x Γ M, dOf y Γ M with
  | some d, some e => cmpOk d = true ∧ cmpOk e = true ∧ Q (.dat (.bl (f (eqD d e)))) Γ M
  | _, _ => False
theorem rd_eqD : RdO K ρ (rEqD K) (aEq id) := by
  intro B σ H H1 H2 G Γ M rx ry x y Q R k r1 r2 h q
  unfold aEq at h
  split at h
  · rename_i d e hd he
    obtain ⟨c1, c2, h⟩ := h
    simp only [cmpOk, Bool.and_eq_true] at c1 c2
    exact ⟨_, _, (dOf_ok k r1 hd).dp c1.1, (dOf_ok k r2 he).dp c2.1, c1.2, c2.2, q _ H G Γ M (.dat (.bl _)) k .refl (by simp only [RepR, Rep]; rfl) h⟩
  · exact h.elim
theorem rd_neD : RdO K ρ (rNeD K) (aEq not) := by
  intro B σ H H1 H2 G Γ M rx ry x y Q R k r1 r2 h q
  unfold aEq at h
  split at h
  · rename_i d e hd he
    obtain ⟨c1, c2, h⟩ := h
    simp only [cmpOk, Bool.and_eq_true] at c1 c2
    exact ⟨_, _, (dOf_ok k r1 hd).dp c1.1, (dOf_ok k r2 he).dp c2.1, c1.2, c2.2, q _ H G Γ M (.dat (.bl _)) k .refl (by simp only [RepR, Rep]; rfl) h⟩
  · exact h.elim
theorem c_eq (hu : X.A.units + 64 < cLine) (hK : X.K = K := by rfl) : CmpR X ρ .Eq (rEqD K) (aEq id) := by subst hK; exact ⟨op_eqD hu, rd_eqD⟩
theorem c_ne (hu : X.A.units + 64 < cLine) (hK : X.K = K := by rfl) : CmpR X ρ .NotEq (rNeD K) (aEq not) := by subst hK; exact ⟨op_neD hu, rd_neD⟩
def flatD : D → Bool
  | .non => true | .bl _ => true | .int _ => true | .str _ => true
  | _ => false
def inD (d : D) (ds : List D) : Bool := ds.any fun e => eqD e d
def aIn (f : Bool → Bool) (x : Ret) (y : Ret) (Γ : Sl) (M : Mem) (Q : Ret → Sl → Mem → Prop) : Prop := match x, sqOf y Γ M with
  | .dat d, some s => flatD d = true ∧ s.ds.all flatD = true ∧ Q (.dat (.bl (f (inD d s.ds)))) Γ M
  | _, _ => False
def isNon : D → Bool
  | .non => true
  | _ => false
def aIsN (f : Bool → Bool) (x : Ret) (y : Ret) (Γ : Sl) (M : Mem) (Q : Ret → Sl → Mem → Prop) : Prop := match x, y with
  | .dat d, .dat .non => Q (.dat (.bl (f (isNon d)))) Γ M
  | _, _ => False
theorem Rep.isNon {d : D} {v : V} (h : Rep K G d v) : decide (v = .non) = isNon d := by
  cases d with
  | non => rw [Rep] at h; subst h; rfl
  | bl b => rw [Rep] at h; subst h; rfl
  | int b => rw [Rep] at h; subst h; rfl
  | str b => rw [Rep] at h; subst h; rfl
  | ref b => rw [Rep] at h; subst h; rfl
  | tup b => obtain ⟨a, xs, rfl, _⟩ := rep_tup h; rfl
  | lst b => obtain ⟨a, xs, rfl, _⟩ := rep_lst.mp h; rfl
  | scr b => obtain ⟨a, xs, rfl, _⟩ := rep_scr.mp h; rfl
  | dct _ _ => obtain ⟨a, o, xs, rfl, _⟩ := rep_dct.mp h; rfl
  | exc _ _ _ => obtain ⟨a, C, d, ws, rfl, _⟩ := rep_exc.mp h; rfl
  | dcT _ _ => obtain ⟨a, o, L, rfl, _⟩ := rep_dcT.mp h; rfl
  | dcN _ _ => obtain ⟨a, o, L, rfl, _⟩ := rep_dcN.mp h; rfl
  | clo _ _ => obtain ⟨a, c, c', q, rfl, _⟩ := rep_clo.mp h; rfl
def aIx (x : Ret) (y : Ret) (Γ : Sl) (M : Mem) (Q : Ret → Sl → Mem → Prop) : Prop := match sqOf x Γ M, y with
  | some s, .dat (.int i) => match atI s.ds i with
    | some d => Q (.dat d) Γ M
    | none => False
  | _, _ => False
theorem atI_rep {ds : List D} {vs : List V} {i : Int} {d : D} (h : RepL K G ds vs) (e : atI ds i = some d) : ∃ v, atI vs i = some v ∧ Rep K G d v := by
  unfold atI at *
  rw [h.length]
  cases hj : ixN ds.length i with
  | none => rw [hj] at e; cases e
  | some j => rw [hj] at e; exact h.get e
theorem rd_ixL : RdO K ρ (fun x y H Q => rIxL K x y H Q ∨ rIxT K x y H Q) aIx := by
  intro B σ H H1 H2 G Γ M rx ry x y Q R k r1 r2 h q
  unfold aIx at h
  split at h
  · rename_i s i hs
    split at h
    · rename_i d hd
      have ey : y = .int i := by have := r2; simp only [RepR, Rep] at this; exact this
      obtain ⟨a, xs, e, hq, h2⟩ := (sqOf_ok k r1 hs).rd
      obtain ⟨v, e', rv⟩ := atI_rep h2 hd
      rcases hq with ⟨_, _, h1⟩ | ⟨_, h1⟩
      · exact .inr ⟨a, xs, i, v, e, ey, h1, e', q _ H G Γ M (.dat d) k .refl rv h⟩
      · exact .inl ⟨a, xs, i, v, e, ey, h1, e', q _ H G Γ M (.dat d) k .refl rv h⟩
    · exact h.elim
  · exact h.elim
end
end Gw

namespace Gw
open PySem L2
variable {ρ : Ent}

section
variable {X : Cx} {a b c : Expr} {ta tb tc te : TE} {aa ab ac ae : AE} {pos : Pos} {K : PySem.W.Frag} {B : Ent} {σ : St} {H G H1 G1 H2 G2 : Hp} {Γ Γ1 Γ2 : Sl} {M M1 M2 : Mem}
theorem q_ixS (ha : QE X ρ a ta aa) (hb : QE X ρ b tb ab) (hs : PlainIx b := by exact fun _ _ => rfl) (hK : X.K = K := by rfl) : QE X ρ (.Subscript a b pos) (tOp (fun x y H Q => rIxL K x y H Q ∨ rIxT K x y H Q) ta tb) (aOp aIx aa ab) := by subst hK; exact q_ix (ix_list.or ix_tup) rd_ixL ha hb hs

def aCat (x : Ret) (y : Ret) (Γ : Sl) (M : Mem) (Q : Ret → Sl → Mem → Prop) : Prop := match sqOf x Γ M, sqOf y Γ M with
  | some (.lst ds), some (.lst es) => ds.length + es.length ≤ sizeLine ∧ Q (.tmp (.lst (ds ++ es))) Γ M
  | _, _ => False
def aRep (x : Ret) (y : Ret) (Γ : Sl) (M : Mem) (Q : Ret → Sl → Mem → Prop) : Prop := match sqOf x Γ M, y with
  | some (.lst ds), .dat (.int k) => (-(2 ^ 63) ≤ k ∧ k < 2 ^ 63 ∧ ds.length * k.toNat ≤ sizeLine) ∧ Q (.tmp (.lst (List.replicate k.toNat ds).flatten)) Γ M
  | _, _ => False
theorem RepL.rep {ds : List D} {vs : List V} (h : RepL K G ds vs) : ∀ n : Nat, RepL K G (List.replicate n ds).flatten (List.replicate n vs).flatten
  | 0 => repL_nil.mpr rfl
  | n + 1 => by rw [List.replicate_succ, List.replicate_succ, List.flatten_cons, List.flatten_cons]; exact h.append (RepL.rep h n)
theorem rd_rep : RdO K ρ rRep aRep := by
  intro B σ H H1 H2 G Γ M rx ry x y Q R k r1 r2 h q
  unfold aRep at h
  split at h
  · rename_i ds n hd
    obtain ⟨a, xs, e, h1, h2⟩ := sqOf_ok k r1 hd
    have ey : y = .int n := by have := r2; simp only [RepR, Rep] at this; exact this
    exact ⟨a, n, xs, e, ey, h1, h.1.1, h.1.2.1, by rw [h2.length]; exact h.1.2.2, q.newL k (h2.rep _) h.2⟩
  · exact h.elim
theorem q_rep (ha : QE X ρ a ta aa) (hb : QE X ρ b tb ab) : QE X ρ (.BinOp a .Mult b pos) (tOp rRep ta tb) (aOp aRep aa ab) := q_op op_rep rd_rep ha hb
def aCatT (x : Ret) (y : Ret) (Γ : Sl) (M : Mem) (Q : Ret → Sl → Mem → Prop) : Prop := match x, y with
  | .dat (.tup ds), .dat (.tup es) => ds.length + es.length ≤ sizeLine ∧ Q (.dat (.tup (ds ++ es))) Γ M
  | _, _ => False
def aCatS (x : Ret) (y : Ret) (Γ : Sl) (M : Mem) (Q : Ret → Sl → Mem → Prop) : Prop := match x, y with
  | .dat (.str s), .dat (.str t) => s.length + t.length ≤ sizeLine ∧ Q (.dat (.str (s ++ t))) Γ M
  | _, _ => False
def cutD (xs : List D) (lo hi : Option Int) : List D := (xs.drop (HT.sIx xs.length 0 lo)).take (HT.sIx xs.length xs.length hi - HT.sIx xs.length 0 lo)
abbrev AO := Sl → Mem → (Option Int → Sl → Mem → Prop) → Prop
structure QO (X : Cx) (ρ : Ent) (e : Option Expr) (to : TO) (ao : AO) : Prop where
  pe : PO X e to
  rd : ∀ B σ H G Γ M (Q : Option Int → Sl → Mem → Prop) (R : Option Int → Hp → Prop), Ok X.K ρ B σ H G Γ M → ao Γ M Q → (∀ o H' G' Γ' M', Ok X.K ρ B σ H' G' Γ' M' → Es σ H G Γ M H' G' Γ' M' → Q o Γ' M' → R o H') → to σ H R
def aON (Γ : Sl) (M : Mem) (Q : Option Int → Sl → Mem → Prop) : Prop := Q none Γ M
def aOS (aa : AE) (Γ : Sl) (M : Mem) (Q : Option Int → Sl → Mem → Prop) : Prop := aa Γ M fun r Γ1 M1 => match r with
  | .dat (.int i) => Q (some i) Γ1 M1
  | _ => False
def aSl (aa : AE) (al ah : AO) (Γ : Sl) (M : Mem) (Q : Ret → Sl → Mem → Prop) : Prop := aa Γ M fun r Γ1 M1 => al Γ1 M1 fun lo Γ2 M2 => ah Γ2 M2 fun hi Γ3 M3 => match sqOf r Γ3 M3 with
  | some (.tup ds) => Q (.dat (.tup (cutD ds lo hi))) Γ3 M3
  | some s => Q (.tmp (.lst (cutD s.ds lo hi))) Γ3 M3
  | none => False
theorem rep_of_sqT {r : Ret} {ds : List D} {v : V} {H0 : Hp} (k : Ok K ρ B σ H G Γ M) (rr : RepR K B σ H0 H G Γ M r v) (h : sqOf r Γ M = some (.tup ds)) : Rep K G (.tup ds) v := by
  have hd : ∀ d, Rep K G d v → sqD M d = some (.tup ds) → Rep K G (.tup ds) v := fun d r e => by
    cases d <;> simp [sqD] at e
    · subst e; exact r
    · split at e <;> simp at e
  cases r with
  | dat d => exact hd d rr h
  | tmp c => cases c <;> cases h
  | var i =>
    simp only [sqOf] at h
    split at h
    · rename_i d e1
      obtain ⟨v', h1, h2⟩ := k.dat i d e1
      have : v' = v := by have := (show σ[i]? = some (some v) from rr); rw [h1] at this; cases this; rfl
      subst this
      exact hd d h2 h
    · cases h
    · cases h
def aCall1 (au : AUn) (aa : AE) (Γ : Sl) (M : Mem) (Q : Ret → Sl → Mem → Prop) : Prop := aa Γ M fun r Γ1 M1 => au r Γ1 M1 Q
def aCall2 (ao : AOp) (aa ab : AE) (Γ : Sl) (M : Mem) (Q : Ret → Sl → Mem → Prop) : Prop := aa Γ M fun x Γ1 M1 => ab Γ1 M1 fun y Γ2 M2 => ao x y Γ2 M2 Q
theorem rd_call1 {r : List V → Hp → VK → Prop} {au : AUn} (hr : RdU K ρ r au) (ha : RdE K ρ ta aa) : RdE K ρ (tCB r (tCons ta tNil)) (aCall1 au aa) := fun B σ H G Γ M Q R k h q =>
  ha B σ H G Γ M _ _ k h fun v H1 G1 Γ1 M1 rr k1 e1 r1 h1 => hr B σ H1 _ G1 Γ1 M1 rr v Q R k1 r1 h1 (q.es e1)
theorem rd_call2 {r : List V → Hp → VK → Prop} {ao : AOp} (hr : RdU2 K ρ r ao) (ha : RdE K ρ ta aa) (hb : RdE K ρ tb ab) : RdE K ρ (tCB r (tCons ta (tCons tb tNil))) (aCall2 ao aa ab) := fun B σ H G Γ M Q R k h q =>
  ha B σ H G Γ M _ _ k h fun v H1 G1 Γ1 M1 rr k1 e1 r1 h1 => hb B σ H1 G1 Γ1 M1 _ _ k1 h1 fun u H2 G2 Γ2 M2 rr2 k2 e2 r2 h2 => hr B σ H2 _ _ G2 Γ2 M2 rr rr2 v u Q R k2 (r1.es e2) r2 h2 (q.es (e1.trans e2))
theorem q_callB1 {id : String} {x : Str} {p : Pos} {r : List V → Hp → VK → Prop} {au : AUn} (hc : CallR X (.builtin id) r) (hr : RdU X.K ρ r au) (hm : X.mg x = none) (ha : QE X ρ a ta aa) (hg : Gl X x := by rfl) (hv : bootBuiltins x = some (.builtin id) := by decide +kernel) (hn : x ≠ "__name__" := by decide) (hdb : (x == ("__debug__" : Str)) = false := by decide)
    (na : starEach [a] X.env = (false, eval a X.env) :: starEach [] X.env := by rfl) : QE X ρ (.Call (.Name x p) [a] [] pos) (tCB r (tCons ta tNil)) (aCall1 au aa) := ⟨pe_callB hc hg hm hv (pa_cons ha.pe pa_nil na) hn hdb na, rd_call1 hr ha.rd⟩
theorem q_callT1 {T : String} {x : Str} {p : Pos} {r : List V → Hp → VK → Prop} {au : AUn} (hc : CallR X (.type T) r) (hr : RdU X.K ρ r au) (hm : X.mg x = none) (ha : QE X ρ a ta aa) (hg : Gl X x := by rfl) (hv : bootBuiltins x = some (.type T) := by decide +kernel) (hn : x ≠ "__name__" := by decide) (hdb : (x == ("__debug__" : Str)) = false := by decide)
    (na : starEach [a] X.env = (false, eval a X.env) :: starEach [] X.env := by rfl) : QE X ρ (.Call (.Name x p) [a] [] pos) (tCB r (tCons ta tNil)) (aCall1 au aa) := ⟨pe_callTy hc hg hm hv (pa_cons ha.pe pa_nil na) hn hdb na, rd_call1 hr ha.rd⟩
theorem q_callB2 {id : String} {x : Str} {p : Pos} {r : List V → Hp → VK → Prop} {ao : AOp} (hc : CallR X (.builtin id) r) (hr : RdU2 X.K ρ r ao) (hm : X.mg x = none) (ha : QE X ρ a ta aa) (hb : QE X ρ b tb ab) (hg : Gl X x := by rfl) (hv : bootBuiltins x = some (.builtin id) := by decide +kernel) (hn : x ≠ "__name__" := by decide) (hdb : (x == ("__debug__" : Str)) = false := by decide)
    (na : starEach [a, b] X.env = (false, eval a X.env) :: starEach [b] X.env := by rfl) (nb : starEach [b] X.env = (false, eval b X.env) :: starEach [] X.env := by rfl) (hpl : (backTo pos (starEach [b] X.env)).any (·.1) = false := by rfl) : QE X ρ (.Call (.Name x p) [a, b] [] pos) (tCB r (tCons ta (tCons tb tNil))) (aCall2 ao aa ab) :=
  ⟨pe_callB hc hg hm hv (pa_cons ha.pe (pa_cons hb.pe pa_nil nb) na) hn hdb na hpl, rd_call2 hr ha.rd hb.rd⟩

def aLen (r : Ret) (Γ : Sl) (M : Mem) (Q : Ret → Sl → Mem → Prop) : Prop := match sqOf r Γ M with
  | some s => Q (.dat (.int s.ds.length)) Γ M
  | none => False
theorem rd_len : RdU K ρ (fun xs H Q => ∃ p ys, xs = [.ref p] ∧ (SqL K H p ys ∨ SqT K H p ys) ∧ Q (.int ys.length) H) aLen := by
  intro B σ H H1 G Γ M rx x Q R k r1 h q
  unfold aLen at h
  split at h
  · rename_i s hs
    obtain ⟨a, xs, e, hq, h2⟩ := (sqOf_ok k r1 hs).rd
    subst e
    refine ⟨a, xs, rfl, ?_, q _ H G Γ M (.dat (.int _)) k .refl (by simp only [RepR, Rep]; rw [h2.length]) h⟩
    rcases hq with ⟨_, _, z⟩ | ⟨_, z⟩
    · exact .inr z
    · exact .inl z
  · exact h.elim
theorem q_len {p : Pos} (hm : X.mg "len" = none) (ha : QE X ρ a ta aa) (hg : Gl X "len" := by rfl) (na : starEach [a] X.env = (false, eval a X.env) :: starEach [] X.env := by rfl) (hK : X.K = K := by rfl) :
    QE X ρ (.Call (.Name "len" p) [a] [] pos) (tCB (fun xs H Q => ∃ p ys, xs = [.ref p] ∧ (SqL K H p ys ∨ SqT K H p ys) ∧ Q (.int ys.length) H) (tCons ta tNil)) (aCall1 aLen aa) := by subst hK; exact q_callB1 call_len_seq rd_len hm ha hg (na := na)
def blsOf : List D → Option (List Bool)
  | [] => some []
  | .bl b :: ds => (blsOf ds).map (b :: ·)
  | _ :: _ => none
theorem blsOf_ok : ∀ {ds : List D} {bs : List Bool}, blsOf ds = some bs → ds = bs.map .bl
  | [], _, h => by cases h; rfl
  | .bl b :: ds, _, h => by
    simp only [blsOf, Option.map_eq_some_iff] at h
    obtain ⟨bs, h1, rfl⟩ := h
    rw [blsOf_ok h1]; rfl
theorem blsOf_map (bs : List Bool) : blsOf (bs.map .bl) = some bs := by
  induction bs with
  | nil => rfl
  | cons b bs ih => rw [List.map_cons, blsOf, ih]; rfl
def aAllB (f : List Bool → Bool) (r : Ret) (Γ : Sl) (M : Mem) (Q : Ret → Sl → Mem → Prop) : Prop := match sqOf r Γ M with
  | some (.lst ds) => match blsOf ds with
    | some bs => Q (.dat (.bl (f bs))) Γ M
    | none => False
  | _ => False
theorem rd_all : RdU K ρ (rAll K) (aAllB (·.all id)) := by
  intro B σ H H1 G Γ M rx x Q R k r1 h q
  unfold aAllB at h
  split at h
  · rename_i ds hs
    split at h
    · rename_i bs hb
      obtain ⟨a, xs, e, hq, h2⟩ := sqOf_ok k r1 hs
      rw [blsOf_ok hb, repL_map_bl] at h2
      subst e; subst h2
      exact ⟨a, bs, rfl, SqL.of hq, q _ H G Γ M (.dat (.bl _)) k .refl (by simp only [RepR, Rep]) h⟩
    · exact h.elim
  · exact h.elim
theorem q_all {p : Pos} (hm : X.mg "all" = none) (ha : QE X ρ a ta aa) (hc : X.calm = true := by rfl) (hg : Gl X "all" := by rfl) (na : starEach [a] X.env = (false, eval a X.env) :: starEach [] X.env := by rfl) (hK : X.K = K := by rfl) :
    QE X ρ (.Call (.Name "all" p) [a] [] pos) (tCB (rAll K) (tCons ta tNil)) (aCall1 (aAllB (·.all id)) aa) := by subst hK; exact q_callB1 (cr_all hc) rd_all hm ha hg (na := na)
def aTuple (r : Ret) (Γ : Sl) (M : Mem) (Q : Ret → Sl → Mem → Prop) : Prop := match sqOf r Γ M with
  | some s => Q (.dat (.tup s.ds)) Γ M
  | none => False
theorem rd_tuple : RdU K ρ (rTupN K) aTuple := by
  intro B σ H H1 G Γ M rx x Q R k r1 h q
  unfold aTuple at h
  split at h
  · rename_i s hs
    obtain ⟨a, xs, e, hq, h2⟩ := (sqOf_ok k r1 hs).rd
    rcases hq with ⟨ds, z, hq⟩ | ⟨_, hq⟩
    · subst z
      have rp := rep_of_sqT k r1 hs
      subst e
      exact ⟨a, xs, rfl, .inr ⟨hq, q _ H G Γ M (.dat (.tup ds)) k .refl rp h⟩⟩
    · subst e
      exact ⟨a, xs, rfl, .inl ⟨hq, q.newT k h2 h⟩⟩
  · exact h.elim
theorem q_tuple {p : Pos} (hm : X.mg "tuple" = none) (ha : QE X ρ a ta aa) (hg : Gl X "tuple" := by rfl) (na : starEach [a] X.env = (false, eval a X.env) :: starEach [] X.env := by rfl) (hK : X.K = K := by rfl) :
    QE X ρ (.Call (.Name "tuple" p) [a] [] pos) (tCB (rTupN K) (tCons ta tNil)) (aCall1 aTuple aa) := by subst hK; exact q_callT1 call_tupN rd_tuple hm ha hg (na := na)
def aList (r : Ret) (Γ : Sl) (M : Mem) (Q : Ret → Sl → Mem → Prop) : Prop := match sqOf r Γ M with
  | some s => Q (.tmp (.lst s.ds)) Γ M
  | none => False
def aAbs (r : Ret) (Γ : Sl) (M : Mem) (Q : Ret → Sl → Mem → Prop) : Prop := match r with
  | .dat (.int i) => Q (.dat (.int (if i < 0 then -i else i))) Γ M
  | _ => False
theorem q_abs {p : Pos} (hm : X.mg "abs" = none) (ha : QE X ρ a ta aa) (hg : Gl X "abs" := by rfl) (na : starEach [a] X.env = (false, eval a X.env) :: starEach [] X.env := by rfl) :
    QE X ρ (.Call (.Name "abs" p) [a] [] pos) (tCB (fun xs H Q => ∃ i, xs = [.int i] ∧ Q (.int (if i < 0 then -i else i)) H) (tCons ta tNil)) (aCall1 aAbs aa) := q_callB1 call_abs (by
  intro B σ H H1 G Γ M rx x Q R k r1 h q
  unfold aAbs at h
  split at h
  · rename_i i
    have e : x = .int i := by have := r1; simp only [RepR, Rep] at this; exact this
    exact ⟨i, by rw [e], q _ H G Γ M (.dat (.int _)) k .refl (by simp only [RepR, Rep]) h⟩
  · exact h.elim) hm ha hg (na := na)
def aInt (r : Ret) (Γ : Sl) (M : Mem) (Q : Ret → Sl → Mem → Prop) : Prop := match r with
  | .dat (.int i) => Q (.dat (.int i)) Γ M
  | .dat (.bl k) => Q (.dat (.int (if k then 1 else 0))) Γ M
  | _ => False
theorem q_intB {p : Pos} (hm : X.mg "int" = none) (ha : QE X ρ a ta aa) (hg : Gl X "int" := by rfl) (na : starEach [a] X.env = (false, eval a X.env) :: starEach [] X.env := by rfl) :
    QE X ρ (.Call (.Name "int" p) [a] [] pos) (tCB (fun xs H Q => (∃ i, xs = [.int i] ∧ Q (.int i) H) ∨ ∃ k, xs = [.bl k] ∧ Q (.int (if k then 1 else 0)) H) (tCons ta tNil)) (aCall1 aInt aa) := q_callT1 call_int1 (by
  intro B σ H H1 G Γ M rx x Q R k r1 h q
  unfold aInt at h
  split at h
  · rename_i i
    have e : x = .int i := by have := r1; simp only [RepR, Rep] at this; exact this
    exact .inl ⟨i, by rw [e], q _ H G Γ M (.dat (.int _)) k .refl (by simp only [RepR, Rep]) h⟩
  · rename_i i
    have e : x = .bl i := by have := r1; simp only [RepR, Rep] at this; exact this
    exact .inr ⟨i, by rw [e], q _ H G Γ M (.dat (.int _)) k .refl (by simp only [RepR, Rep]) h⟩
  · exact h.elim) hm ha hg (na := na)
theorem rd_2I {g : Int → Int → Int} : RdU2 K ρ (fun xs H Q => ∃ i j, xs = [.int i, .int j] ∧ Q (.int (g i j)) H) (aI0 fun i j => .int (g i j)) := by
  intro B σ H H1 H2 G Γ M rx ry x y Q R k r1 r2 h q
  unfold aI0 at h
  split at h
  · rename_i i j
    have e1 : x = .int i := by have := r1; simp only [RepR, Rep] at this; exact this
    have e2 : y = .int j := by have := r2; simp only [RepR, Rep] at this; exact this
    exact ⟨i, j, by rw [e1, e2], q _ H G Γ M (.dat (.int _)) k .refl (by simp only [RepR, Rep]) h⟩
  · exact h.elim
theorem q_min2 {p : Pos} (hm : X.mg "min" = none) (ha : QE X ρ a ta aa) (hb : QE X ρ b tb ab) (hc : X.calm = true := by rfl) (hg : Gl X "min" := by rfl) (na : starEach [a, b] X.env = (false, eval a X.env) :: starEach [b] X.env := by rfl) (nb : starEach [b] X.env = (false, eval b X.env) :: starEach [] X.env := by rfl) (hpl : (backTo pos (starEach [b] X.env)).any (·.1) = false := by rfl) :
    QE X ρ (.Call (.Name "min" p) [a, b] [] pos) (tCB (fun xs H Q => ∃ i j, xs = [.int i, .int j] ∧ Q (.int (if j < i then j else i)) H) (tCons ta (tCons tb tNil))) (aCall2 (aI0 fun i j => .int (if j < i then j else i)) aa ab) :=
  q_callB2 (call_min2 hc) rd_2I hm ha hb hg (na := na) (nb := nb) (hpl := hpl)
def intsOf : List D → Option (List Int)
  | [] => some []
  | .int b :: ds => (intsOf ds).map (b :: ·)
  | _ :: _ => none
theorem intsOf_ok : ∀ {ds : List D} {bs : List Int}, intsOf ds = some bs → ds = bs.map .int
  | [], _, h => by cases h; rfl
  | .int b :: ds, _, h => by
    simp only [intsOf, Option.map_eq_some_iff] at h
    obtain ⟨bs, h1, rfl⟩ := h
    rw [intsOf_ok h1]; rfl
theorem intsOf_map (bs : List Int) : intsOf (bs.map .int) = some bs := by
  induction bs with
  | nil => rfl
  | cons b bs ih => rw [List.map_cons, intsOf, ih]; rfl
def isort (ns : List Int) : List Int := ns.mergeSort (fun a b => decide (a ≤ b))
theorem isort_perm (ns : List Int) : (isort ns).Perm ns := List.mergeSort_perm ns _
theorem isort_sorted (ns : List Int) : (isort ns).Pairwise (· ≤ ·) := by
  have := List.pairwise_mergeSort (le := fun a b : Int => decide (a ≤ b)) (fun a b c h1 h2 => by simp at *; omega) (fun a b => by simp; omega) ns
  exact this.imp fun h => by simpa using h
theorem sorted_uniq {xs ys : List Int} (p : xs.Perm ys) (hx : xs.Pairwise (· ≤ ·)) (hy : ys.Pairwise (· ≤ ·)) : xs = ys := List.Perm.eq_of_pairwise (fun a b _ _ h1 h2 => by omega) hx hy p
def aSortI (r : Ret) (Γ : Sl) (M : Mem) (Q : Ret → Sl → Mem → Prop) : Prop := match sqOf r Γ M with
  | some (.lst ds) => match intsOf ds with
    | some ns => Q (.tmp (.lst ((isort ns).map .int))) Γ M
    | none => False
  | some (.scr ds) => match intsOf ds with
    | some ns => Q (.tmp (.lst ((isort ns).map .int))) Γ M
    | none => False
  | _ => False
theorem rd_sortI : RdU K ρ (rSortedI K) aSortI := by
  intro B σ H H1 G Γ M rx x Q R k r1 h q
  have go : ∀ a ns, x = .ref a → SqL K H a (ns.map V.int) → Q (.tmp (.lst ((isort ns).map .int))) Γ M → rSortedI K [x] H R := fun a ns e hq h => by
    subst e
    refine ⟨a, ns, rfl, hq, fun ns' p hp hs np => ?_⟩
    rw [sorted_uniq (hp.trans (isort_perm ns).symm) hs (isort_sorted ns)]
    exact q.newL k (repL_map_int.mpr rfl) h p np
  unfold aSortI at h
  split at h
  · rename_i ds hs
    split at h
    · rename_i ns hb
      obtain ⟨a, xs, e, hq, h2⟩ := sqOf_ok k r1 hs
      rw [intsOf_ok hb, repL_map_int] at h2
      subst h2
      exact go a ns e (SqL.of hq) h
    · exact h.elim
  · rename_i ds hs
    split at h
    · rename_i ns hb
      obtain ⟨a, xs, e, hq, h2⟩ := sqOf_ok k r1 hs
      rw [intsOf_ok hb, repL_map_int] at h2
      subst h2
      exact go a ns e hq h
    · exact h.elim
  · exact h.elim
theorem q_sortI {p : Pos} (hm : X.mg "sorted" = none) (ha : QE X ρ a ta aa) (hg : Gl X "sorted" := by rfl) (na : starEach [a] X.env = (false, eval a X.env) :: starEach [] X.env := by rfl) (hK : X.K = K := by rfl) :
    QE X ρ (.Call (.Name "sorted" p) [a] [] pos) (tCB (rSortedI K) (tCons ta tNil)) (aCall1 aSortI aa) := by subst hK; exact q_callB1 cr_sortedI rd_sortI hm ha hg (na := na)
end
end Gw

namespace Gw
open PySem L2 PyProof.Rows
variable {ρ : Ent}
structure FnG (P : Program) (w : World) (K : PySem.W.Frag) (mg : Str → Option Value) (base : Heap) (CX : CXT) (k : Nat) (f : Addr) (fd : FuncData) (ps : List Str) (sp : Sp) : Prop where
  arity : ∀ vs H Q E, sp vs H Q E → vs.length = ps.length
  go : ∀ (A : Around) (outer : List Env) (s : Shared) (H : Hp) (args : Args) (us : List Value) (vs : List V) (Q : VK) (E : XK), Room k A → A.guards = some [] → Env0 P w K mg base A outer s H →
    BindsTo s fd args (ps.zip us) → Vals vs us → sp vs H Q E → codeAny (model P w) A (.call (.ref f) args) (CR CX outer P w H s Q E) s
section
variable {P : Program} {w : World} {K : PySem.W.Frag} {mg : Str → Option Value} {base : Heap} {CX : CXT}
theorem FnG.mono {j k : Nat} {f : Addr} {fd : FuncData} {ps : List Str} {sp : Sp} (F : FnG P w K mg base CX j f fd ps sp) (h : j ≤ k) : FnG P w K mg base CX k f fd ps sp :=
  ⟨F.arity, fun A o s H ar us vs Q E r => F.go A o s H ar us vs Q E (r.mono h)⟩
theorem fnG_of {k : Nat} {x qual : Str} {st : Stmt} {f : Addr} {fd : FuncData} {N ps : List Str} {sp : Sp} (F : Fun K x qual st f fd) (S : FnScope N ps (defScope st)) (ar : ∀ vs H Q E, sp vs H Q E → vs.length = ps.length)
    (body : ∀ (cd : Value) (A : Around) (outer : List Env) (s : Shared) (H : Hp) (vs : List V) (Q : VK) (E : XK), Room k (A.deeper (envOfC qual (defScope st) s.heap.objs.size f cd)) → A.guards = some [] → sp vs H Q E →
      ∃ t, PSs (cxOf CX P w K mg base N qual (defScope st) f cd A outer s H E) (defBody st) t ∧ t { nx := fun _ H' => Q .non H', rt := Q } (start N vs) H) : FnG P w K mg base CX (k + 1) f fd ps sp := by
  obtain ⟨oc, od, kV, doc, pm, an, cd, ct, osl, rfl, lk, hcode⟩ := F.ex
  refine ⟨ar, fun A outer s H args us vs Q E room gd env bind rel hsp => ?_⟩
  have inK : K.In s.heap := env.mod.kin.keeps fun b o e => (env.bs b o e).1
  have noLim : s.heap.NoLimit := env.mod.nolimit.keeps fun b o e => (env.bs b o e).1
  have kinds : ∀ y ∈ ps.zip us, (defScope st).names.lookup y.1 = some .local ∨ ((defScope st).names.lookup y.1 = some .cell ∧ ((cellsFrom (s.heap.objs.size + 1) (defScope st).names []).lookup y.1).isSome = true) := by
    rintro ⟨nm, vl⟩ hy
    exact (S.par nm (List.of_mem_zip hy).1).imp id fun q => ⟨q, PySem.W.cellsFrom_some _ _ _ (.inl q)⟩
  apply codeAny_call_function room.depth (inK _ _ lk) rfl S.co S.gen rfl (PySem.W.codeRec_of inK hcode)
  apply bind
  apply wpAny_newFunctionEnv_cells S.kind kinds
  rintro env' rfl s1 inCall
  refine ⟨noLim.keeps inCall.toInCall.keep, codeAny_func ?_⟩
  obtain ⟨t, ht, hq⟩ := body cd A outer s H vs Q E (room.deeper _) gd hsp
  have I := inv_start (CX := CX) (E := E) S room.hd env (ar _ _ _ _ hsp) rel inCall
  refine wpAny_mono (ht.run [] s1 _ H _ I hq) (fun fl s' hs => ?_) fun _ _ z => z
  match fl, hs with
  | .ret u, ⟨v, _, H', J, rv, q⟩ => exact ⟨v, H', J.os, J.bare, J.base, J.hok, rv, q⟩
  | .next, ⟨_, H', J, q⟩ => exact ⟨V.non, H', J.os, J.bare, J.base, J.hok, rfl, q⟩
  | .brk, ⟨_, _, _, q⟩ => exact q.elim
  | .cont, ⟨_, _, _, q⟩ => exact q.elim
end
section
variable {X : Cx} {CX : CXT} {k : Nat} {f : Addr} {fd : FuncData} {ps ks : List Str} {sp : Sp} {E : XK} {x : Str} {p pos : Pos} {e : Expr} {es : List Expr} {t : TA}
theorem runG {pins : List (Addr × Obj)} {σ : L2.St} {H : Hp} {s : Shared} {Q : VK} {args : Args} {us : List Value} {vs : List V} (F : FnG X.prog X.w X.K X.mg X.base CX k f fd ps sp) (room : Room k X.A) (gd : X.A.guards = some []) (hx : Passes CX X E)
    (I : Inv X pins σ H s) (bind : BindsTo s fd args (ps.zip us)) (r : Vals vs us) (h : sp vs H Q E) : codeAny (model X.prog X.w) X.A (.call (.ref f) args) (fun r s' => match r with | .ok (.ret u) => EP X pins σ Q u s' | .ok _ => False | .error e => X.xe e s') s :=
  codeAny_mono (F.go X.A X.stack s H args us vs Q E room gd I.env0 bind r h) fun res s' hq => match res, hq with
    | .ok (.ret u), hq => I.after hq
    | .ok .next, hq => hq.elim
    | .ok .brk, hq => hq.elim
    | .ok .cont, hq => hq.elim
    | .error e, hq => hx pins σ H s e s' I hq
theorem callG {pins : List (Addr × Obj)} {σ : L2.St} {H : Hp} {s : Shared} {Q : VK} {us ws : List Value} {zs : List V} {us' : List Value} (F : FnG X.prog X.w X.K X.mg X.base CX k f fd ps sp) (room : Room k X.A) (gd : X.A.guards = some []) (hx : Passes CX X E)
    (I : Inv X pins σ H s) (bind : BindsTo s fd ⟨us, ks.zip ws⟩ (ps.zip us')) (r : Vals zs us') (h : sp zs H Q E) : wpAny (model X.prog X.w) X.A (call (.ref f) us (ks.zip ws)) (EP X pins σ Q) X.xe s :=
  wpAny_call (codeAny_mono (runG F room gd hx I bind r h) fun res s' hq => match res, hq with
    | .ok (.ret u), hq => hq
    | .ok .next, hq => hq.elim
    | .ok .brk, hq => hq.elim
    | .ok .cont, hq => hq.elim
    | .error e, hq => hq)
theorem pe_callG (F : FnG X.prog X.w X.K X.mg X.base CX k f fd ps sp) (room : Room k X.A) (gd : X.A.guards = some []) (hg : Gl X x) (hm : X.mg x = some (.ref f)) (hk : PySem.W.keepIn X.K (.ref f) = true) (hb : Binds X.K fd ps []) (hx : Passes CX X E)
    (ha : PA X (e :: es) t) (hdb : (x == ("__debug__" : Str)) = false) (he : starEach (e :: es) X.env = (false, eval e X.env) :: starEach es X.env) (hpl : (backTo pos (starEach es X.env)).any (·.1) = false) :
    PE X (.Call (.Name x p) (e :: es) [] pos) (tCall sp [] E t) := by
  refine ⟨fun pins s σ H Q I h => wpAny_Call_Name_kw (ld_glob I hg hm ?_ hdb)⟩
  refine PySem.W.callWith_K (h₀ := X.base) I.ok.mod.kin hk (thn (ha.run pos pins s σ H _ I h) ?_) he hpl
  rintro us s1 ⟨vs, H1, I1, r, q⟩
  rw [List.append_nil] at q
  have hl : us.length = ps.length := by rw [← r.length]; exact F.arity _ _ _ _ q
  have b := hb s1 us I1.kIn (by rw [List.append_nil]; exact hl)
  rw [List.append_nil] at b
  exact ⟨I1.kIn, callG (ks := []) (ws := []) F room gd hx I1 b r q⟩
end
section
variable {X : Cx}
end
end Gw

namespace Gw
open PySem L2
variable {ρ : Ent}

abbrev ASp := List D → Mem → (Ret → Mem → Prop) → Prop
def Post (K : PySem.W.Frag) (H G : Hp) (M : Mem) (H' G' : Hp) (M' : Mem) : Prop :=
  Stp ⟨H, G, dom M⟩ H' G' M' ∧ Ex G' H' ∧ (dom M').Nodup ∧ ∀ a c, (a, c) ∈ M' → Cel K H' G' a c
def RetOk (K : PySem.W.Frag) (H H' G' : Hp) (M' : Mem) : Ret → V → Prop
  | .dat d, v => Rep K G' d v
  | .tmp c, v => ∃ p, v = .ref p ∧ H p = none ∧ Cel K H' G' p c ∧ p ∉ dom M'
  | .var _, _ => False
def spA (K : PySem.W.Frag) (n : Nat) (S : ASp) : Sp := fun vs H Q _ => ∃ G M ds, vs.length = n ∧ Ex G H ∧ (dom M).Nodup ∧ (∀ a c, (a, c) ∈ M → Cel K H G a c) ∧ RepL K G ds vs ∧
  ∃ Qa : Ret → Mem → Prop, S ds M Qa ∧ ∀ r M' v H' G', Qa r M' → Post K H G M H' G' M' → RetOk K H H' G' M' r v → Q v H'
section
variable {X : Cx} {a b c : Expr} {ta tb tc te : TE} {aa ab ac ae : AE} {pos : Pos} {K : PySem.W.Frag} {B : Ent} {σ : St} {H G H1 G1 H2 G2 : Hp} {Γ Γ1 Γ2 : Sl} {M M1 M2 : Mem}
theorem not_both {H : Hp} {x : Addr} {o : HO} (h : H x = some o) (z : H x = none) : False := by rw [h] at z; cases z
theorem Stp.trans (a : Stp B H1 G1 M1) (b : Stp ⟨H1, G1, dom M1⟩ H2 G2 M2) : Stp B H2 G2 M2 where
  g := a.g.trans b.g
  fr := fun x o h n => b.fr x o (a.fr x o h n) fun m => (a.mn x m).elim n (not_both h)
  gn := fun x o h => (b.gn x o h).elim (fun z => a.gn x o z) fun z => .inr (a.nn x z)
  mn := fun x h => (b.mn x h).elim (fun z => a.mn x z) fun z => .inr (a.nn x z)
  nn := fun x h => a.nn x (b.nn x h)
theorem Ok.call {H' G' : Hp} {M' : Mem} {r : Ret} {v : V} (k : Ok K ρ B σ H G Γ M) (p : Post K H G M H' G' M') (rr : RetOk K H H' G' M' r v) :
    Ok K ρ B σ H' G' Γ M' ∧ Es σ H G Γ M H' G' Γ M' ∧ RepR K B σ H H' G' Γ M' r v := by
  obtain ⟨st, ex, nd, ms⟩ := p
  have keep : ∀ x o, H x = some o → G x = none → x ∉ dom M → H' x = some o ∧ G' x = none ∧ x ∉ dom M' := fun x o h g m => by
    refine ⟨st.fr x o h m, ?_, fun z => (st.mn x z).elim m (not_both h)⟩
    cases e : G' x with
    | none => rfl
    | some u =>
      rcases st.gn x u e with z | z
      · exact (not_both z g).elim
      · exact (not_both h z).elim
  have k' : Ok K ρ B σ H' G' Γ M' := ⟨k.st.trans st, ex, nd, ms, fun i d h => let ⟨w, h1, h2⟩ := k.dat i d h; ⟨w, h1, h2.mono st.g⟩, fun i c h => by
    obtain ⟨q, h1, h2, h3, hg, o, ho, hc⟩ := k.own i c h
    obtain ⟨b1, b2, b3⟩ := keep q o ho hg h3
    exact ⟨q, h1, h2, b3, b2, o, b1, hc.mono st.g⟩, k.dis, k.len, k.pb⟩
  refine ⟨k', ⟨st.g, fun x o h g m n => let ⟨b1, b2, b3⟩ := keep x o h g m; ⟨b1, b2, b3, n⟩, st.nn⟩, ?_⟩
  cases r with
  | dat d => exact rr
  | tmp c =>
    obtain ⟨q, e, hq, hc, hm⟩ := rr
    refine ⟨q, e, hq, k.st.nn q hq, hc, hm, fun ⟨i, c', h1, h2⟩ => ?_⟩
    obtain ⟨q', h3, _, _, _, o, ho, _⟩ := k.own i c' h1
    rw [h2] at h3; cases h3; rw [hq] at ho; cases ho
  | var i => exact rr.elim
structure Wit (Q : Ret → Mem → Prop) : Type where
def ap (S : ASp) (ds : List D) (M : Mem) (Q : Ret → Mem → Prop) (_ : Wit Q) : Prop := S ds M Q
def aCall (S : ASp) (aa : AA) (Γ : Sl) (M : Mem) (Q : Ret → Sl → Mem → Prop) : Prop := aa Γ M fun ds Γ1 M1 => ap S ds M1 (fun r M2 => Q r Γ1 M2) ⟨⟩
def Ar (n : Nat) (S : ASp) : Prop := ∀ ds M Q, S ds M Q → ds.length = n
theorem rd_call {n : Nat} {S : ASp} {E : XK} {tr : TA} {ar : AA} (hn : Ar n S) (ha : RdA K ρ tr ar) : RdE K ρ (tCall (spA K n S) [] E tr) (aCall S ar) := by
  intro B σ H G Γ M Q R k h q
  refine ha B σ H G Γ M _ _ k h fun vs H1 G1 Γ1 M1 ds k1 e1 rl h1 => ?_
  refine ⟨G1, M1, ds, by rw [List.append_nil, rl.length]; exact hn _ _ _ h1, k1.ex, k1.nd, k1.ms, by rw [List.append_nil]; exact rl, _, h1, fun r M' v H' G' hq p rr => ?_⟩
  obtain ⟨k2, e2, r2⟩ := k1.call p rr
  exact q _ H' G' Γ1 M' r k2 (e1.trans e2) (r2.old e1.nn) hq
section
variable {CX : CXT} {k n : Nat} {f : Addr} {fd : FuncData} {ps ks : List Str} {S : ASp} {x : Str} {p : Pos} {es : List Expr} {tr : TA} {ar : AA}
theorem q_call (F : FnG X.prog X.w X.K X.mg X.base CX0 k f fd ps (spA X.K n S)) (hr : Room k X.A) (gd : X.A.guards = some []) (hm : X.mg x = some (.ref f)) (hk : PySem.W.keepIn X.K (.ref f) = true) (hb : Binds X.K fd ps []) (hn : Ar n S)
    (ha : QA X ρ (a :: es) tr ar) (hg : Gl X x := by rfl) (hdb : (x == ("__debug__" : Str)) = false := by decide) (he : starEach (a :: es) X.env = (false, eval a X.env) :: starEach es X.env := by rfl) (hpl : (backTo pos (starEach es X.env)).any (·.1) = false := by rfl) :
    QE X ρ (.Call (.Name x p) (a :: es) [] pos) (tCall (spA X.K n S) [] E0 tr) (aCall S ar) := ⟨pe_callG F hr gd hg hm hk hb pass0 ha.pe hdb he hpl, rd_call hn ha.rd⟩
structure QK (X : Cx) (ρ : Ent) (kws : List Keyword) (tk : TA) (ak : AA) : Prop where
  pe : PK X kws tk
  rd : RdA X.K ρ tk ak
structure Ord (gV : List V → List V → List V) (gD : List D → List D) : Prop where
  rep : ∀ {K G vs ds}, RepL K G ds vs → RepL K G (gD ds) (gV [] vs)
end

structure Sim (K : PySem.W.Frag) (ρ : Ent) (B : Ent) (A : AEnds) (E : Ends) : Prop where
  nx : ∀ σ H G Γ M, Ok K ρ B σ H G Γ M → A.nx Γ M → E.nx σ H
  rt : ∀ σ H0 H G Γ M r v, Ok K ρ B σ H G Γ M → RepR K B σ H0 H G Γ M r v → A.rt r Γ M → E.rt v H
  bk : ∀ σ H G Γ M, Ok K ρ B σ H G Γ M → A.bk Γ M → E.bk σ H
  ct : ∀ σ H G Γ M, Ok K ρ B σ H G Γ M → A.ct Γ M → E.ct σ H
def RdS (K : PySem.W.Frag) (ρ : Ent) (ts : TS) (as : AS) : Prop := ∀ B σ H G Γ M A E, Ok K ρ B σ H G Γ M → as A Γ M → Sim K ρ B A E → ts E σ H
structure QS (X : Cx) (ρ : Ent) (st : Stmt) (ts : TS) (as : AS) : Prop where
  pe : PS X st ts
  rd : RdS X.K ρ ts as
structure QSs (X : Cx) (ρ : Ent) (st : List Stmt) (ts : TS) (as : AS) : Prop where
  pe : PSs X st ts
  rd : RdS X.K ρ ts as
def aNext (A : AEnds) (Γ : Sl) (M : Mem) : Prop := A.nx Γ M
def aSeq (s t : AS) (A : AEnds) (Γ : Sl) (M : Mem) : Prop := s { A with nx := t A } Γ M
theorem Sim.seq {A : AEnds} {E : Ends} {t : AS} {tt : TS} (s : Sim K ρ B A E) (h : RdS K ρ tt t) : Sim K ρ B { A with nx := t A } { E with nx := tt E } :=
  ⟨fun σ H G Γ M k q => h B σ H G Γ M A E k q s, s.rt, s.bk, s.ct⟩
theorem qss_nil : QSs X ρ [] tNext aNext := ⟨pss_nil, fun _ σ H G Γ M _ _ k h s => s.nx σ H G Γ M k h⟩
theorem qss_cons {st : Stmt} {rest : List Stmt} {ts tr : TS} {as ar : AS} (h1 : QS X ρ st ts as) (h2 : QSs X ρ rest tr ar) : QSs X ρ (st :: rest) (tSeq ts tr) (aSeq as ar) :=
  ⟨pss_cons h1.pe h2.pe, fun B σ H G Γ M A E k h s => h1.rd B σ H G Γ M _ _ k h (s.seq h2.rd)⟩
theorem qss_one {st : Stmt} {ts : TS} {as : AS} (h1 : QS X ρ st ts as) : QSs X ρ [st] ts as := ⟨pss_one h1.pe, h1.rd⟩
def aBrk (A : AEnds) (Γ : Sl) (M : Mem) : Prop := A.bk Γ M
def aCnt (A : AEnds) (Γ : Sl) (M : Mem) : Prop := A.ct Γ M
def aDrop (aa : AE) (A : AEnds) (Γ : Sl) (M : Mem) : Prop := aa Γ M fun _ Γ1 M1 => A.nx Γ1 M1
theorem qs_expr (h : QE X ρ a ta aa) (hs : swapsWith a none pos.line X.env = pure false := by rfl) : QS X ρ (.Expr a pos) (tDrop ta) (aDrop aa) :=
  ⟨ps_expr h.pe hs, fun B σ H G Γ M A E k hh s => h.rd B σ H G Γ M _ _ k hh fun v H1 G1 Γ1 M1 r k1 _ _ q => s.nx σ H1 G1 Γ1 M1 k1 q⟩
def aRet (aa : AE) (A : AEnds) (Γ : Sl) (M : Mem) : Prop := aa Γ M fun r Γ1 M1 => A.rt r Γ1 M1
theorem qs_ret (h : QE X ρ a ta aa) : QS X ρ (.Return (some a) pos) (tRet ta) (aRet aa) :=
  ⟨ps_ret h.pe, fun B σ H G Γ M A E k hh s => h.rd B σ H G Γ M _ _ k hh fun v H1 G1 Γ1 M1 r k1 _ rr q => s.rt σ H H1 G1 Γ1 M1 r v k1 rr q⟩
def aIfS (t : AT) (s u : AS) (A : AEnds) (Γ : Sl) (M : Mem) : Prop := t Γ M fun b Γ1 M1 => if b = true then s A Γ1 M1 else u A Γ1 M1
theorem qs_if {tt : TT} {at' : AT} {s1 s2 : List Stmt} {ts tu : TS} {as au : AS} (hc : QT X ρ c tt at') (h1 : QSs X ρ s1 ts as) (h2 : QSs X ρ s2 tu au) : QS X ρ (.If c s1 s2 pos) (tIfS tt ts tu) (aIfS at' as au) :=
  ⟨ps_if hc.pe h1.pe h2.pe, fun B σ H G Γ M A E k h s => hc.rd B σ H G Γ M _ _ k h fun b H1 G1 Γ1 M1 k1 _ q => by
    cases b with
    | true => exact h1.rd B σ H1 G1 Γ1 M1 A E k1 (by simpa using q) s
    | false => exact h2.rd B σ H1 G1 Γ1 M1 A E k1 (by simpa using q) s⟩

theorem set_get {α : Type} {l : List α} {i j : Nat} {s t : α} (h : (l.set i s)[j]? = some t) : (j = i ∧ t = s) ∨ (j ≠ i ∧ l[j]? = some t) := by
  rw [List.getElem?_set] at h
  by_cases e : i = j
  · rw [if_pos e] at h
    split at h
    · cases h; exact .inl ⟨e.symm, rfl⟩
    · cases h
  · rw [if_neg e] at h; exact .inr ⟨fun q => e q.symm, h⟩
theorem lt_of_set {α : Type} {l : List α} {i : Nat} {s t : α} (h : (l.set i s)[i]? = some t) : i < l.length := by
  have := (List.getElem?_eq_some_iff.mp h).1
  rwa [List.length_set] at this
theorem owned_set {i : Nat} {v : V} {s : Slot} {x : Addr} (hs : ∀ c, s ≠ .own c) (h : owned (σ.set i (some v)) (Γ.set i s) x) : owned σ Γ x := by
  obtain ⟨j, c, h1, h2⟩ := h
  rcases set_get h1 with ⟨_, e⟩ | ⟨ne, e⟩
  · exact (hs c e.symm).elim
  · refine ⟨j, c, e, ?_⟩
    rw [List.getElem?_set_ne (fun q => ne q.symm)] at h2; exact h2
theorem Ok.setD {i : Nat} {d : D} {v : V} (k : Ok K ρ B σ H G Γ M) (r : Rep K G d v) : Ok K ρ B (σ.set i (some v)) H G (Γ.set i (.dat d)) M := by
  refine ⟨k.st, k.ex, k.nd, k.ms, fun j e h => ?_, fun j c h => ?_, fun j l c c' q h h' a b => ?_, by rw [List.length_set, List.length_set]; exact k.len, k.pb⟩
  · rcases set_get h with ⟨e1, e2⟩ | ⟨ne, e1⟩
    · cases e2; subst e1
      refine ⟨v, ?_, r⟩
      rw [List.getElem?_set_self]
      rw [← k.len]; exact lt_of_set h
    · rw [List.getElem?_set_ne (fun q => ne q.symm)]; exact k.dat j e e1
  · rcases set_get h with ⟨_, e2⟩ | ⟨ne, e1⟩
    · cases e2
    · rw [List.getElem?_set_ne (fun q => ne q.symm)]; exact k.own j c e1
  · rcases set_get h with ⟨_, e2⟩ | ⟨ne, e1⟩
    · cases e2
    rcases set_get h' with ⟨_, e2⟩ | ⟨ne', e1'⟩
    · cases e2
    rw [List.getElem?_set_ne (fun q => ne q.symm)] at a
    rw [List.getElem?_set_ne (fun q => ne' q.symm)] at b
    exact k.dis j l c c' q e1 e1' a b
theorem Ok.setO {i : Nat} {c : Cell} {p : Addr} (k : Ok K ρ B σ H G Γ M) (hb : B.H p = none) (hc : Cel K H G p c) (hm : p ∉ dom M) (hn : ¬ owned σ Γ p) : Ok K ρ B (σ.set i (some (.ref p))) H G (Γ.set i (.own c)) M := by
  refine ⟨k.st, k.ex, k.nd, k.ms, fun j e h => ?_, fun j c h => ?_, fun j l cj cl q h h' a b => ?_, by rw [List.length_set, List.length_set]; exact k.len, k.pb⟩
  · rcases set_get h with ⟨_, e2⟩ | ⟨ne, e1⟩
    · cases e2
    · rw [List.getElem?_set_ne (fun q => ne q.symm)]; exact k.dat j e e1
  · rcases set_get h with ⟨e1, e2⟩ | ⟨ne, e1⟩
    · cases e2; subst e1
      refine ⟨p, ?_, hb, hm, hc⟩
      rw [List.getElem?_set_self]
      rw [← k.len]; exact lt_of_set h
    · rw [List.getElem?_set_ne (fun q => ne q.symm)]; exact k.own j c e1
  · rcases set_get h with ⟨ei, e2⟩ | ⟨ne, e1⟩ <;> rcases set_get h' with ⟨ei', e2'⟩ | ⟨ne', e1'⟩
    · rw [ei, ei']
    · exfalso
      subst ei
      rw [List.getElem?_set_self (by rw [← k.len]; exact lt_of_set h)] at a
      cases a
      rw [List.getElem?_set_ne (fun q => ne' q.symm)] at b
      exact hn ⟨l, cl, e1', b⟩
    · exfalso
      subst ei'
      rw [List.getElem?_set_self (by rw [← k.len]; exact lt_of_set h')] at b
      cases b
      rw [List.getElem?_set_ne (fun q => ne q.symm)] at a
      exact hn ⟨j, cj, e1, a⟩
    · rw [List.getElem?_set_ne (fun q => ne q.symm)] at a
      rw [List.getElem?_set_ne (fun q => ne' q.symm)] at b
      exact k.dis j l cj cl q e1 e1' a b
def aAsg (aa : AE) (i : Nat) (A : AEnds) (Γ : Sl) (M : Mem) : Prop := aa Γ M fun r Γ1 M1 => match r with
  | .tmp c => A.nx (Γ1.set i (.own c)) M1
  | r => frz r Γ1 fun d Γ2 => A.nx (Γ2.set i (.dat d)) M1
def aAsgF (aa : AE) (i : Nat) (A : AEnds) (Γ : Sl) (M : Mem) : Prop := aa Γ M fun r Γ1 M1 => frz r Γ1 fun d Γ2 => A.nx (Γ2.set i (.dat d)) M1
theorem rd_asgF {i : Nat} (ha : RdE K ρ ta aa) : RdS K ρ (tAsg ta (gName i)) (aAsgF aa i) := fun B σ H G Γ M A E k h s => ha B σ H G Γ M _ _ k h fun v H1 G1 Γ1 M1 r k1 e1 rr h1 => by
  obtain ⟨G2, Γ2, d, k2, e2, rp, h2⟩ := frz_ok (H0 := H) k1 e1 rr h1
  exact s.nx _ H1 G2 _ M1 (k2.setD rp) h2
theorem rd_asg {i : Nat} (ha : RdE K ρ ta aa) : RdS K ρ (tAsg ta (gName i)) (aAsg aa i) := fun B σ H G Γ M A E k h s => ha B σ H G Γ M _ _ k h fun v H1 G1 Γ1 M1 r k1 e1 rr h1 => by
  cases r with
  | tmp c =>
    obtain ⟨p, rfl, h0, hb, hc, hm, hn⟩ := rr
    exact s.nx _ H1 G1 _ M1 (k1.setO hb hc hm hn) h1
  | dat d =>
    obtain ⟨G2, Γ2, d, k2, e2, rp, h2⟩ := frz_ok (H0 := H) k1 e1 rr h1
    exact s.nx _ H1 G2 _ M1 (k2.setD rp) h2
  | var j =>
    obtain ⟨G2, Γ2, d, k2, e2, rp, h2⟩ := frz_ok (H0 := H) k1 e1 rr h1
    exact s.nx _ H1 G2 _ M1 (k2.setD rp) h2
section
variable {i : Nat} {x : Str} {pos' : Pos}
theorem qs_set (i : Nat) (hN : X.N.Nodup) (h : QE X ρ a ta aa) (hi : X.N[i]? = some x := by rfl) (hx : Loc X.env.scope x := by first | exact Or.inl rfl | exact Or.inr rfl) (hs : swapsWith a (some (.Name x pos')) pos.line X.env = pure false := by rfl) (hf : X.fn x = true ∨ X.env.scope.names.lookup x = some .local := by first | exact .inl rfl | exact .inr rfl | assumption) :
    QS X ρ (.Assign [.Name x pos'] a pos) (tAsg ta (gName i)) (aAsg aa i) := ⟨ps_set hN hi hx h.pe hs hf, rd_asg h.rd⟩
theorem qs_setF (i : Nat) (hN : X.N.Nodup) (h : QE X ρ a ta aa) (hi : X.N[i]? = some x := by rfl) (hx : Loc X.env.scope x := by first | exact Or.inl rfl | exact Or.inr rfl) (hs : swapsWith a (some (.Name x pos')) pos.line X.env = pure false := by rfl) (hf : X.fn x = true ∨ X.env.scope.names.lookup x = some .local := by first | exact .inl rfl | exact .inr rfl | assumption) :
    QS X ρ (.Assign [.Name x pos'] a pos) (tAsg ta (gName i)) (aAsgF aa i) := ⟨ps_set hN hi hx h.pe hs hf, rd_asgF h.rd⟩
end
abbrev AG := D → Sl → (Sl → Prop) → Prop
abbrev AGs := List D → Sl → (Sl → Prop) → Prop
def tupT : Expr → Bool
  | .Tuple _ _ _ => true
  | _ => false
def RepB (K : PySem.W.Frag) (G : Hp) (b : Bool) (d : D) (v : V) : Prop := Rep K G d v ∨ (b = true ∧ ∃ ds a xs, d = .tup ds ∧ v = .ref a ∧ SqT K G a xs ∧ RepL K G ds xs)
theorem RepB.tup {K : PySem.W.Frag} {G : Hp} {b : Bool} {ds : List D} {v : V} (h : RepB K G b (.tup ds) v) : ∃ a xs, v = .ref a ∧ SqT K G a xs ∧ RepL K G ds xs := by
  rcases h with h | ⟨_, es, a, xs, e, h⟩
  · exact rep_tup h
  · cases e
    exact ⟨a, xs, h⟩
theorem RepB.rep {K : PySem.W.Frag} {G : Hp} {d : D} {v : V} (h : RepB K G false d v) : Rep K G d v := h.elim id fun z => nomatch z.1
theorem RepB.mono {K : PySem.W.Frag} {G G' : Hp} {b : Bool} {d : D} {v : V} (e : Ex G G') (h : RepB K G b d v) : RepB K G' b d v := by
  rcases h with h | ⟨z, ds, a, xs, e1, e2, h1, h2⟩
  · exact .inl (h.mono e)
  · exact .inr ⟨z, ds, a, xs, e1, e2, ex_t e h1, h2.mono e⟩
def RdG (K : PySem.W.Frag) (ρ : Ent) (b : Bool) (tg : TG) (ag : AG) (is : List Nat) : Prop := ∀ B σ H G Γ M d v (Q : Sl → Prop) (R : St → Hp → Prop), Ok K ρ B σ H G Γ M → RepB K G b d v → ag d Γ Q →
  (∀ σ' Γ', Ok K ρ B σ' H G Γ' M → (∀ ws : List Nat, (∀ j ∈ is, j ∈ ws) → wipe σ' ws = wipe σ ws) → (∀ x, owned σ' Γ' x → owned σ Γ x) → Q Γ' → R σ' H) → tg v σ H R
def RdGs (K : PySem.W.Frag) (ρ : Ent) (tg : TGs) (ag : AGs) (is : List Nat) : Prop := ∀ B σ H G Γ M ds vs (Q : Sl → Prop) (R : St → Hp → Prop), Ok K ρ B σ H G Γ M → RepL K G ds vs → ag ds Γ Q →
  (∀ σ' Γ', Ok K ρ B σ' H G Γ' M → (∀ ws : List Nat, (∀ j ∈ is, j ∈ ws) → wipe σ' ws = wipe σ ws) → (∀ x, owned σ' Γ' x → owned σ Γ x) → Q Γ' → R σ' H) → tg vs σ H R
structure QG (X : Cx) (ρ : Ent) (tg : Expr) (t : TG) (ag : AG) (is : List Nat) : Prop where
  pe : PG X tg t
  rd : RdG X.K ρ (tupT tg) t ag is
structure QGs (X : Cx) (ρ : Ent) (tgs : List Expr) (t : TGs) (ag : AGs) (is : List Nat) : Prop where
  pe : PGs X tgs t
  rd : RdGs X.K ρ t ag is
def agN (i : Nat) (d : D) (Γ : Sl) (Q : Sl → Prop) : Prop := Q (Γ.set i (.dat d))
def agNil (ds : List D) (Γ : Sl) (Q : Sl → Prop) : Prop := match ds with
  | [] => Q Γ
  | _ => False
def agCons (g : AG) (u : AGs) (ds : List D) (Γ : Sl) (Q : Sl → Prop) : Prop := match ds with
  | d :: r => g d Γ fun Γ1 => u r Γ1 Q
  | _ => False
def agT (n : Nat) (u : AGs) (d : D) (Γ : Sl) (Q : Sl → Prop) : Prop := match d with
  | .tup ds => ds.length = n ∧ u ds Γ Q
  | _ => False
theorem wipe_set {i : Nat} {v : Option V} : ∀ (ws : List Nat) (σ : St), i ∈ ws → wipe (σ.set i v) ws = wipe σ ws
  | [], _, h => by simp at h
  | w :: ws, σ, h => by
    unfold wipe
    by_cases hi : i ∈ ws
    · rw [wipe_set ws σ hi]
    · have e : i = w := by simpa [hi] using h
      subst e
      have comm : ∀ (us : List Nat) (σ : St), i ∉ us → wipe (σ.set i v) us = (wipe σ us).set i v := by
        intro us
        induction us with
        | nil => intro σ _; rfl
        | cons u us ih =>
          intro σ hu
          rw [List.mem_cons, not_or] at hu
          unfold wipe
          rw [ih σ hu.2, List.set_comm _ _ (fun e => hu.1 e)]
      rw [comm ws σ hi, List.set_set]
theorem rd_gN {i : Nat} : RdG K ρ false (gName i) (agN i) [i] := fun B σ H G Γ M d v Q R k r h q => q _ _ (k.setD r.rep) (fun ws hw => wipe_set ws σ (hw i (by simp))) (fun x h => owned_set (fun c e => by cases e) h) h
theorem rd_gNil : RdGs K ρ gNil agNil [] := fun B σ H G Γ M ds vs Q R k r h q => by
  unfold agNil at h
  split at h
  · exact ⟨repL_nil.mp r, q σ Γ k (fun _ _ => rfl) (fun _ z => z) h⟩
  · exact h.elim
theorem rd_gCons {t : TG} {u : TGs} {g : AG} {ag : AGs} {is js : List Nat} {b : Bool} (h1 : RdG K ρ b t g is) (h2 : RdGs K ρ u ag js) : RdGs K ρ (gCons t u) (agCons g ag) (is ++ js) := fun B σ H G Γ M ds vs Q R k r h q => by
  unfold agCons at h
  split at h
  · rename_i d ds
    obtain ⟨x, xs, rfl, r1, r2⟩ := repL_cons.mp r
    refine ⟨x, xs, rfl, h1 B σ H G Γ M d x _ _ k (.inl r1) h fun σ1 Γ1 k1 w1 o1 q1 => ?_⟩
    exact h2 B σ1 H G Γ1 M ds xs _ _ k1 r2 q1 fun σ2 Γ2 k2 w2 o2 q2 => q σ2 Γ2 k2 (fun ws hw => (w2 ws fun j hj => hw j (List.mem_append_right _ hj)).trans (w1 ws fun j hj => hw j (List.mem_append_left _ hj))) (fun x z => o1 x (o2 x z)) q2
  · exact h.elim
theorem rd_gT {n : Nat} {u : TGs} {ag : AGs} {is : List Nat} (h2 : RdGs K ρ u ag is) : RdG K ρ true (gTup K n u) (agT n ag) is := fun B σ H G Γ M d v Q R k r h q => by
  unfold agT at h
  split at h
  · rename_i ds
    obtain ⟨a, xs, e, hq, rl⟩ := r.tup
    exact ⟨a, xs, e, ex_t k.ex hq, by rw [rl.length]; exact h.1, h2 B σ H G Γ M ds xs Q R k rl h.2 q⟩
  · exact h.elim
section
variable {i : Nat} {x : Str} {pos' : Pos}
theorem qg_name (i : Nat) (hN : X.N.Nodup) (hi : X.N[i]? = some x := by rfl) (hx : Loc X.env.scope x := by first | exact Or.inl rfl | exact Or.inr rfl) (hf : X.fn x = true ∨ X.env.scope.names.lookup x = some .local := by first | exact .inl rfl | exact .inr rfl | assumption) : QG X ρ (.Name x pos) (gName i) (agN i) [i] := ⟨pg_name hN hi hx hf, rd_gN⟩
theorem qgs_nil : QGs X ρ [] gNil agNil [] := ⟨pgs_nil, rd_gNil⟩
theorem qgs_cons {es : List Expr} {t : TG} {u : TGs} {g : AG} {ag : AGs} {is js : List Nat} (h1 : QG X ρ a t g is) (h2 : QGs X ρ es u ag js) (hs : (assignEach (a :: es) X.env).map (·.2) = assign a X.env :: (assignEach es X.env).map (·.2) := by rfl) : QGs X ρ (a :: es) (gCons t u) (agCons g ag) (is ++ js) := ⟨pgs_cons h1.pe h2.pe hs, rd_gCons h1.rd h2.rd⟩
theorem qg_tup {es : List Expr} {kk n : Nat} {u : TGs} {ag : AGs} {is : List Nat} (h : QGs X ρ es u ag is) (hc : X.calm = true := by rfl) (hn : (assignEach es X.env).length = n := by rfl) (hst : (assignEach es X.env).findIdx? (·.1) = none := by rfl) (hK : X.K = K := by rfl) : QG X ρ (.Tuple es kk pos) (gTup K n u) (agT n ag) is := by subst hK; exact ⟨pg_tup hc h.pe hn hst, rd_gT h.rd⟩
end
def aUnp (aa : AE) (g : AG) (A : AEnds) (Γ : Sl) (M : Mem) : Prop := aa Γ M fun r Γ1 M1 => frz r Γ1 fun d Γ2 => g d Γ2 fun Γ3 => A.nx Γ3 M1
theorem qs_unp {tg : Expr} {t : TG} {g : AG} {is : List Nat} (h : QE X ρ a ta aa) (hg : QG X ρ tg t g is) (hs : swapsWithSole [tg] a pos.line X.env = pure false := by rfl) (hw : swappedStores [tg] a X.env = pure none := by rfl) (h1 : (assignEach [tg] X.env).map (·.2) = [assign tg X.env] := by rfl) : QS X ρ (.Assign [tg] a pos) (tAsg ta t) (aUnp aa g) :=
  ⟨ps_asg h.pe hg.pe hs hw h1, fun B σ H G Γ M A E k hh s => h.rd B σ H G Γ M _ _ k hh fun v H1 G1 Γ1 M1 r k1 e1 rr h1 => by
    obtain ⟨G2, Γ2, d, k2, e2, rp, h2⟩ := frz_ok (H0 := H) k1 e1 rr h1
    exact hg.rd B σ H1 G2 Γ2 M1 d v _ _ k2 (.inl rp) h2 fun σ' Γ' k3 _ _ q => s.nx σ' H1 G2 Γ' M1 k3 q⟩
end
end Gw

namespace Gw
open PySem L2
variable {ρ : Ent}
section
variable {X : Cx} {a b c : Expr} {ta tb tc te : TE} {aa ab ac ae : AE} {pos : Pos} {K : PySem.W.Frag} {B : Ent} {σ : St} {H G H1 G1 H2 G2 : Hp} {Γ Γ1 Γ2 : Sl} {M M1 M2 : Mem}

def lget (r : Ret) (Γ : Sl) (M : Mem) : Option (List D) := match r with
  | .var i => match Γ[i]? with
    | some (.own (.lst ds)) => some ds
    | _ => none
  | .dat (.ref a) => match M.lookup a with
    | some (.lst ds) => some ds
    | _ => none
  | _ => none
def mput (M : Mem) (a : Addr) (c : Cell) : Mem := M.map fun x => if x.1 = a then (a, c) else x
def lput (r : Ret) (ds : List D) (Γ : Sl) (M : Mem) (k : Sl → Mem → Prop) : Prop := match r with
  | .var i => k (Γ.set i (.own (.lst ds))) M
  | .dat (.ref a) => k Γ (mput M a (.lst ds))
  | _ => False
theorem dom_mput (M : Mem) (a : Addr) (c : Cell) : dom (mput M a c) = dom M := by
  unfold dom mput
  rw [List.map_map]
  apply List.map_congr_left
  intro x _
  show (if x.1 = a then (a, c) else x).1 = x.1
  split
  · rename_i e; exact e.symm
  · rfl
theorem lget_ok {r : Ret} {v : V} {ds : List D} {H0 : Hp} (k : Ok K ρ B σ H G Γ M) (rr : RepR K B σ H0 H G Γ M r v) (h : lget r Γ M = some ds) : ∃ l xs, v = .ref l ∧ H l = some (.lst xs) ∧ RepL K G ds xs := by
  cases r with
  | var i =>
    simp only [lget] at h
    split at h
    · rename_i ds' e1
      cases h
      obtain ⟨p, s1, hb, hm, hg, u, ho, vs, rfl, hr⟩ := k.own i _ e1
      have : v = .ref p := by have := (show σ[i]? = some (some v) from rr); rw [s1] at this; cases this; rfl
      exact ⟨p, vs, this, ho, hr⟩
    · cases h
  | dat d =>
    cases d with
    | ref a =>
      simp only [lget] at h
      split at h
      · rename_i ds' e1
        cases h
        obtain ⟨hg, u, ho, vs, rfl, hr⟩ := k.ms a _ (lookup_mem e1)
        exact ⟨a, vs, by have := rr; simp only [RepR, Rep] at this; exact this, ho, hr⟩
      · cases h
    | _ => cases h
  | tmp c => cases h
theorem lput_ok {r : Ret} {l : Addr} {ds ds' : List D} {xs' : List V} {H0 : Hp} {kk : Sl → Mem → Prop} (k : Ok K ρ B σ H G Γ M) (rr : RepR K B σ H0 H G Γ M r (.ref l)) (h : lget r Γ M = some ds) (rl : RepL K G ds' xs') (hp : lput r ds' Γ M kk) :
    ∃ Γ' M', Ok K ρ B σ (upd H l (.lst xs')) G Γ' M' ∧ Es σ H G Γ M (upd H l (.lst xs')) G Γ' M' ∧ kk Γ' M' := by
  have updN : ∀ x, upd H l (.lst xs') x = none → H x = none := fun x e => by
    by_cases z : x = l
    · subst z; rw [upd_same] at e; cases e
    · rw [upd_ne z] at e; exact e
  cases r with
  | tmp c => cases h
  | var i =>
    simp only [lget] at h
    split at h
    · rename_i dd e1
      cases h
      obtain ⟨p, s1, hb, hm, hg, u, ho, vs, rfl, hr⟩ := k.own i _ e1
      have e : p = l := by have := (show σ[i]? = some (some (.ref l)) from rr); rw [s1] at this; cases this; rfl
      subst e
      have exG : Ex G (upd H p (.lst xs')) := fun x o z => by
        have ne : x ≠ p := fun e => by subst e; rw [hg] at z; cases z
        rw [upd_ne ne]; exact k.ex x o z
      have cel : ∀ x c, x ≠ p → Cel K H G x c → Cel K (upd H p (.lst xs')) G x c := fun x c ne ⟨z1, o, z2, z3⟩ => ⟨z1, o, by rw [upd_ne ne]; exact z2, z3⟩
      refine ⟨_, _, ⟨⟨k.st.g, fun x o z n => ?_, k.st.gn, k.st.mn, fun x z => k.st.nn x (updN x z)⟩, exG, k.nd, fun x c z => cel x c (fun e => hm (e ▸ List.mem_map.mpr ⟨_, z, rfl⟩)) (k.ms x c z), fun j d z => ?_, fun j c z => ?_, fun j m cj cm q z z' a b => ?_, by rw [List.length_set]; exact k.len, k.pb⟩, ⟨Ex.refl G, fun x o z g m n => ?_, updN⟩, hp⟩
      · have ne : x ≠ p := fun e => by subst e; rw [hb] at z; cases z
        rw [upd_ne ne]; exact k.st.fr x o z n
      · rcases set_get z with ⟨_, e⟩ | ⟨_, e⟩
        · cases e
        · exact k.dat j d e
      · rcases set_get z with ⟨e, e2⟩ | ⟨ne, e⟩
        · cases e2; subst e
          exact ⟨p, s1, hb, hm, hg, _, upd_same, xs', rfl, rl⟩
        · obtain ⟨q, y1, y2, y3, y4⟩ := k.own j c e
          exact ⟨q, y1, y2, y3, cel q c (fun eq => ne (k.dis j i _ _ p e e1 (eq ▸ y1) s1)) y4⟩
      · have own' : ∀ (j : Nat) (c : Cell), (Γ.set i (Slot.own (.lst ds')))[j]? = some (Slot.own c) → ∃ c', Γ[j]? = some (Slot.own c') := fun j c z => by
          rcases set_get z with ⟨e, _⟩ | ⟨_, e⟩
          · subst e; exact ⟨_, e1⟩
          · exact ⟨_, e⟩
        obtain ⟨c1, z1⟩ := own' j cj z
        obtain ⟨c2, z2⟩ := own' m cm z'
        exact k.dis j m c1 c2 q z1 z2 a b
      · have ne : x ≠ p := fun e => n ⟨i, _, e1, e ▸ s1⟩
        refine ⟨by rw [upd_ne ne]; exact z, g, m, fun ⟨j, c, y1, y2⟩ => n ?_⟩
        rcases set_get y1 with ⟨e, _⟩ | ⟨_, e⟩
        · subst e; exact ⟨_, _, e1, y2⟩
        · exact ⟨j, c, e, y2⟩
    · cases h
  | dat d =>
    cases d with
    | ref a =>
      simp only [lget] at h
      split at h
      · rename_i dd e1
        cases h
        obtain ⟨hg, u, ho, vs, rfl, hr⟩ := k.ms a _ (lookup_mem e1)
        have e : l = a := by have := rr; simp only [RepR, Rep] at this; cases this; rfl
        subst e
        have exG : Ex G (upd H l (.lst xs')) := fun x o z => by
          have ne : x ≠ l := fun e => by subst e; rw [hg] at z; cases z
          rw [upd_ne ne]; exact k.ex x o z
        have cel : ∀ x c, x ≠ l → Cel K H G x c → Cel K (upd H l (.lst xs')) G x c := fun x c ne ⟨z1, o, z2, z3⟩ => ⟨z1, o, by rw [upd_ne ne]; exact z2, z3⟩
        have inM : l ∈ dom M := List.mem_map.mpr ⟨_, lookup_mem e1, rfl⟩
        refine ⟨_, _, ⟨⟨k.st.g, fun x o z n => ?_, k.st.gn, ?_, fun x z => k.st.nn x (updN x z)⟩, exG, by rw [dom_mput]; exact k.nd, fun x c z => ?_, k.dat, fun j c z => ?_, k.dis, k.len, k.pb⟩, ⟨Ex.refl G, fun x o z g m n => ?_, updN⟩, hp⟩
        · have ne : x ≠ l := fun e => by
            subst e
            rcases k.st.mn x inM with z' | z'
            · exact n z'
            · rw [z] at z'; cases z'
          rw [upd_ne ne]; exact k.st.fr x o z n
        · rw [dom_mput]; exact k.st.mn
        · unfold mput at z
          obtain ⟨y, hy, e⟩ := List.mem_map.mp z
          split at e
          · cases e; exact ⟨hg, _, upd_same, xs', rfl, rl⟩
          · rename_i ne
            obtain ⟨y1, y2⟩ := y
            cases e
            exact cel x c ne (k.ms x c hy)
        · obtain ⟨q, y1, y2, y3, y4⟩ := k.own j c z
          exact ⟨q, y1, y2, by rw [dom_mput]; exact y3, cel q c (fun e => y3 (e ▸ inM)) y4⟩
        · have ne : x ≠ l := fun e => m (e ▸ inM)
          exact ⟨by rw [upd_ne ne]; exact z, g, by rw [dom_mput]; exact m, n⟩
      · cases h
    | _ => cases h
abbrev AM := List D → List D → (List D → D → Prop) → Prop
def RdM (r : V → List V → Hp → VK → Prop) (am : AM) : Prop := ∀ (K : PySem.W.Frag) (H G : Hp) (l : Addr) (xs vs : List V) (ds es : List D) (Q : List D → D → Prop) (R : VK), Ex G H → H l = some (.lst xs) → RepL K G ds xs → RepL K G es vs → am ds es Q →
  (∀ ds' d xs' v, RepL K G ds' xs' → Rep K G d v → Q ds' d → R v (upd H l (.lst xs'))) → r (.ref l) vs H R
def aMeth (am : AM) (ao : AE) (aa : AA) (Γ : Sl) (M : Mem) (Q : Ret → Sl → Mem → Prop) : Prop := ao Γ M fun r Γ1 M1 => (lget r Γ1 M1).isSome = true ∧ aa Γ1 M1 fun es Γ2 M2 => match lget r Γ2 M2 with
  | some ds => am ds es fun ds' d => lput r ds' Γ2 M2 fun Γ3 M3 => Q (.dat d) Γ3 M3
  | none => False
theorem rd_meth {r : V → List V → Hp → VK → Prop} {am : AM} {to : TE} {ao : AE} {tr : TA} {ar : AA} (hm : RdM r am) (ho : RdE K ρ to ao) (ha : RdA K ρ tr ar) : RdE K ρ (tBM K "list" r to tr) (aMeth am ao ar) := by
  intro B σ H G Γ M Q R k h q
  refine ho B σ H G Γ M _ _ k h fun v H1 G1 Γ1 M1 r1 k1 e1 rr1 h1 => ?_
  obtain ⟨hs, h1⟩ := h1
  obtain ⟨ds1, hds⟩ := Option.isSome_iff_exists.mp hs
  obtain ⟨l1, xs1, ev, hl1, _⟩ := lget_ok k1 rr1 hds
  subst ev
  refine ⟨.inl ⟨rfl, xs1, SqL.of hl1⟩, ha B σ H1 G1 Γ1 M1 _ _ k1 h1 fun vs H2 G2 Γ2 M2 es k2 e2 rl h2 => ?_⟩
  have rr2 := rr1.es e2
  split at h2
  · rename_i ds hd
    obtain ⟨l, xs, ev, hl, hx⟩ := lget_ok k2 rr2 hd
    cases ev
    refine hm K H2 G2 l1 xs vs ds es _ _ k2.ex hl hx rl h2 fun ds' d xs' v rl' rd hq => ?_
    obtain ⟨Γ3, M3, k3, e3, hq⟩ := lput_ok k2 rr2 hd rl' hq
    exact q v _ G2 Γ3 M3 (.dat d) k3 ((e1.trans e2).trans e3) rd hq
  · exact h2.elim
def aMeth0 (am : AM) (ao : AE) (Γ : Sl) (M : Mem) (Q : Ret → Sl → Mem → Prop) : Prop := ao Γ M fun r Γ1 M1 => match lget r Γ1 M1 with
  | some ds => am ds [] fun ds' d => lput r ds' Γ1 M1 fun Γ3 M3 => Q (.dat d) Γ3 M3
  | none => False
section
variable {o e : Expr} {es : List Expr} {to : TE} {ao : AE} {tr : TA} {ar : AA} {apos cpos : Pos}
theorem q_bm {name : Str} {id : String} {r : V → List V → Hp → VK → Prop} {am : AM} (slot : PySem.Slot "list" name id) (hty : typeOf (.builtin id) = pure (.type "method_descriptor")) (hm : MtR X id r) (hd : RdM r am) (ho : QE X ρ o to ao) (ha : QA X ρ (e :: es) tr ar)
    (hbase : attributeBase o name X.env (eval o X.env) = eval o X.env)
    (hfew : ((backTo cpos (starEach (e :: es) X.env)).all (fun x => !x.1) && (backToKw cpos (keywordEach [] X.env)).all (fun x => x.1.isSome)
      && decide ((e :: es).length + ([] : List Keyword).length + (if ([] : List Keyword).isEmpty then 0 else 1) < 30)) = true)
    (hline : (apos.endLine == cpos.line) = true) (hs : starEach (e :: es) X.env = (false, eval e X.env) :: starEach es X.env) (hplain : (backTo cpos (starEach es X.env)).any (·.1) = false) :
    QE X ρ (.Call (.Attribute o name apos) (e :: es) [] cpos) (tBM X.K "list" r to tr) (aMeth am ao ar) := ⟨pe_bm PySem.F.plainAttrs_list slot hty hm ho.pe ha.pe hbase hfew hline hs hplain, rd_meth hd ho.rd ha.rd⟩
def amApp (ds : List D) (es : List D) (Q : List D → D → Prop) : Prop := match es with
  | [d] => ds.length < sizeLine ∧ Q (ds ++ [d]) .non
  | _ => False
theorem rm_app : RdM rAppend amApp := by
  intro K H G l xs vs ds es Q R hG hl hx hv h q
  unfold amApp at h
  split at h
  · rename_i d
    obtain ⟨y, r, rfl, ry, rn⟩ := repL_cons.mp hv
    have := repL_nil.mp rn; subst this
    exact ⟨l, xs, y, rfl, rfl, hl, by rw [hx.length]; exact h.1, q _ .non _ .non (hx.append (RepL.one ry)) (by rw [Rep]) h.2⟩
  · exact h.elim
def amExt (ds : List D) (es : List D) (Q : List D → D → Prop) : Prop := match es with
  | [.lst fs] => ds.length + fs.length ≤ sizeLine ∧ Q (ds ++ fs) .non
  | _ => False
def amPop (ds : List D) (es : List D) (Q : List D → D → Prop) : Prop := match es with
  | [] => match ds[ds.length - 1]? with
    | some d => Q ds.dropLast d
    | none => False
  | _ => False
theorem RepL.erase {ds : List D} {vs : List V} (n : Nat) (h : RepL K G ds vs) : RepL K G (ds.eraseIdx n) (vs.eraseIdx n) := by
  rw [List.eraseIdx_eq_take_drop_succ, List.eraseIdx_eq_take_drop_succ]; exact (h.take _).append (h.drop _)
def amPopAt (ds : List D) (es : List D) (Q : List D → D → Prop) : Prop := match es with
  | [.int i] => (-(2 ^ 63) ≤ i ∧ i < 2 ^ 63) ∧ match seqIndex? i ds.length with
    | some k => match ds[k]? with
      | some d => Q (ds.eraseIdx k) d
      | none => False
    | none => False
  | _ => False
theorem rm_popAt : RdM rPopAt amPopAt := by
  intro K H G l xs vs ds es Q R hG hl hx hv h q
  unfold amPopAt at h
  split at h
  · rename_i i
    obtain ⟨hi, h⟩ := h
    obtain ⟨y, r, rfl, ry, rn⟩ := repL_cons.mp hv
    have := repL_nil.mp rn; subst this
    have ey : y = .int i := by rw [Rep] at ry; exact ry
    split at h
    · rename_i k hk
      split at h
      · rename_i d hd
        obtain ⟨z, hz, rz⟩ := hx.get hd
        exact ⟨l, xs, i, k, z, rfl, by rw [ey], hl, hi.1, hi.2, by rw [hx.length]; exact hk, hz, q _ d _ z (hx.erase k) rz h⟩
      · exact h.elim
    · exact h.elim
  · exact h.elim
def amIns (ds : List D) (es : List D) (Q : List D → D → Prop) : Prop := match es with
  | [.int i, d] => (ds.length < sizeLine ∧ 0 ≤ i ∧ i < 2 ^ 63) ∧ Q (ds.take i.toNat ++ [d] ++ ds.drop i.toNat) .non
  | _ => False
theorem q_append (ho : QE X ρ o to ao) (ha : QA X ρ (e :: es) tr ar) (hbase : attributeBase o "append" X.env (eval o X.env) = eval o X.env := by rfl)
    (hfew : ((backTo cpos (starEach (e :: es) X.env)).all (fun x => !x.1) && (backToKw cpos (keywordEach [] X.env)).all (fun x => x.1.isSome)
      && decide ((e :: es).length + ([] : List Keyword).length + (if ([] : List Keyword).isEmpty then 0 else 1) < 30)) = true := by rfl)
    (hline : (apos.endLine == cpos.line) = true := by rfl) (hs : starEach (e :: es) X.env = (false, eval e X.env) :: starEach es X.env := by rfl) (hplain : (backTo cpos (starEach es X.env)).any (·.1) = false := by rfl) (hK : X.K = K := by rfl) :
    QE X ρ (.Call (.Attribute o "append" apos) (e :: es) [] cpos) (tBM K "list" rAppend to tr) (aMeth amApp ao ar) := by subst hK; exact q_bm PySem.F.slot_list_append PySem.F.type_list_append mt_append rm_app ho ha hbase hfew hline hs hplain
theorem q_popAt (ho : QE X ρ o to ao) (ha : QA X ρ (e :: es) tr ar) (hbase : attributeBase o "pop" X.env (eval o X.env) = eval o X.env := by rfl)
    (hfew : ((backTo cpos (starEach (e :: es) X.env)).all (fun x => !x.1) && (backToKw cpos (keywordEach [] X.env)).all (fun x => x.1.isSome)
      && decide ((e :: es).length + ([] : List Keyword).length + (if ([] : List Keyword).isEmpty then 0 else 1) < 30)) = true := by rfl)
    (hline : (apos.endLine == cpos.line) = true := by rfl) (hs : starEach (e :: es) X.env = (false, eval e X.env) :: starEach es X.env := by rfl) (hplain : (backTo cpos (starEach es X.env)).any (·.1) = false := by rfl) (hK : X.K = K := by rfl) :
    QE X ρ (.Call (.Attribute o "pop" apos) (e :: es) [] cpos) (tBM K "list" rPopAt to tr) (aMeth amPopAt ao ar) := by subst hK; exact q_bm PySem.F.slot_list_pop PySem.F.type_list_pop mt_popAt rm_popAt ho ha hbase hfew hline hs hplain
end
def aSetI (ae ao ai : AE) (A : AEnds) (Γ : Sl) (M : Mem) : Prop := ae Γ M fun r Γ0 M0 => frz r Γ0 fun d Γ1 => ao Γ1 M0 fun ro Γ2 M2 => ai Γ2 M2 fun ri Γ3 M3 => match ri, lget ro Γ3 M3 with
  | .dat (.int i), some ds => match ixN ds.length i with
    | some j => lput ro (ds.set j d) Γ3 M3 fun Γ4 M4 => A.nx Γ4 M4
    | none => False
  | _, _ => False
theorem qs_setI {o i : Expr} {to ti : TE} {ao ai : AE} {pos' : Pos} (h : QE X ρ a ta aa) (ho : QE X ρ o to ao) (hi : QE X ρ i ti ai)
    (has : ∀ v, assign (.Subscript o i pos') X.env v = (do
      let ov ← holding [v] (eval o X.env)
      let iv ← holding [v, ov] (eval i X.env)
      standAt pos'
      holding [v, ov, iv] (setItem ov iv v)
      release [v, ov, iv] []) := by intro _; rfl)
    (hs : swapsWithSole [.Subscript o i pos'] a pos.line X.env = pure false := by rfl) (hw : swappedStores [.Subscript o i pos'] a X.env = pure none := by rfl) (h1 : (assignEach [.Subscript o i pos'] X.env).map (·.2) = [assign (.Subscript o i pos') X.env] := by rfl) :
    QS X ρ (.Assign [.Subscript o i pos'] a pos) (tAsg ta (gSub to ti rSetL)) (aSetI aa ao ai) :=
  ⟨ps_asg h.pe (pg_sub ho.pe hi.pe set_list has) hs hw h1, fun B σ H G Γ M A E k hh s => h.rd B σ H G Γ M _ _ k hh fun v H1 G1 Γ1 M1 r k1 e1 rr h1 => by
    obtain ⟨G2, Γ2, d, k2, e2, rp, h2⟩ := frz_ok (H0 := H) k1 e1 rr h1
    refine ho.rd B σ H1 G2 Γ2 M1 _ _ k2 h2 fun ov H3 G3 Γ3 M3 ro k3 e3 rro h3 => ?_
    refine hi.rd B σ H3 G3 Γ3 M3 _ _ k3 h3 fun iv H4 G4 Γ4 M4 ri k4 e4 rri h4 => ?_
    split at h4
    · rename_i i ds hd
      split at h4
      · rename_i j hj
        have rro' := rro.es e4
        obtain ⟨l, xs, rfl, hl, hx⟩ := lget_ok k4 rro' hd
        have ei : iv = .int i := by have := rri; simp only [RepR, Rep] at this; exact this
        have rp4 : Rep X.K G4 d v := (rp.mono e3.g).mono e4.g
        obtain ⟨Γ5, M5, k5, e5, hq⟩ := lput_ok k4 rro' hd (hx.set j rp4) h4
        exact ⟨l, xs, i, j, rfl, ei, hl, by rw [hx.length]; exact hj, s.nx σ _ G4 Γ5 M5 k5 hq⟩
      · exact h4.elim
    · exact h4.elim⟩
def aAugI (i : Nat) (f : Int → Int → Int) (aa : AE) (A : AEnds) (Γ : Sl) (M : Mem) : Prop := match Γ[i]? with
  | some (.dat (.int n)) => aa Γ M fun r Γ1 M1 => match r with
    | .dat (.int m) => A.nx (Γ1.set i (.dat (.int (f n m)))) M1
    | _ => False
  | _ => False
theorem rd_augI {i : Nat} {f : Int → Int → Int} (ha : RdE K ρ ta aa) : RdS K ρ (tAug i ta (ipI f)) (aAugI i f aa) := fun B σ H G Γ M A E k h s => by
  unfold aAugI at h
  split at h
  · rename_i n e1
    obtain ⟨v, h1, h2⟩ := k.dat i _ e1
    have ev : v = .int n := by rw [Rep] at h2; exact h2
    refine ⟨v, h1, ha B σ H G Γ M _ _ k h fun u H1 G1 Γ1 M1 r k1 e2 rr hq => ?_⟩
    split at hq
    · rename_i m
      have eu : u = .int m := by have := rr; simp only [RepR, Rep] at this; exact this
      exact ⟨n, m, ev, eu, s.nx _ H1 G1 _ M1 (k1.setD (by rw [Rep])) hq⟩
    · exact hq.elim
  · exact h.elim
section
variable {x : Str} {pos' : Pos}
theorem qs_augA (i : Nat) (hN : X.N.Nodup) (h : QE X ρ a ta aa) (hi : X.N[i]? = some x := by rfl) (hx : Loc X.env.scope x := by first | exact Or.inl rfl | exact Or.inr rfl) (hf : X.fn x = true ∨ X.env.scope.names.lookup x = some .local := by first | exact .inl rfl | exact .inr rfl | assumption) :
    QS X ρ (.AugAssign (.Name x pos') .Add a pos) (tAug i ta (ipI fun i j => i + j)) (aAugI i (fun i j => i + j) aa) := ⟨ps_aug hN hi hx h.pe ip_add hf, rd_augI h.rd⟩
theorem qs_augS (i : Nat) (hN : X.N.Nodup) (h : QE X ρ a ta aa) (hi : X.N[i]? = some x := by rfl) (hx : Loc X.env.scope x := by first | exact Or.inl rfl | exact Or.inr rfl) (hf : X.fn x = true ∨ X.env.scope.names.lookup x = some .local := by first | exact .inl rfl | exact .inr rfl | assumption) :
    QS X ρ (.AugAssign (.Name x pos') .Sub a pos) (tAug i ta (ipI fun i j => i - j)) (aAugI i (fun i j => i - j) aa) := ⟨ps_aug hN hi hx h.pe ip_sub hf, rd_augI h.rd⟩
end
def aAugL (i : Nat) (aa : AE) (A : AEnds) (Γ : Sl) (M : Mem) : Prop := aa Γ M fun r Γ1 M1 => match sqOf r Γ1 M1, Γ1[i]? with
  | some (.lst es), some (.own (.lst ds)) => ds.length + es.length ≤ sizeLine ∧ A.nx (Γ1.set i (.own (.lst (ds ++ es)))) M1
  | _, _ => False
section
variable {x : Str} {pos' : Pos}
end
end
end Gw

namespace Gw
open PySem L2
variable {ρ : Ent}
def Yld (K : PySem.W.Frag) (b : Bool) (G H H' : Hp) (d : D) (x : V) : Prop :=
  (H' = H ∧ Rep K G d x) ∨ b = true ∧ ∃ T xs ds, x = .ref T ∧ H T = none ∧ H' = upd H T (.tup xs) ∧ d = .tup ds ∧ RepL K G ds xs
structure WalkD (K : PySem.W.Frag) (b : Bool) (J : It) (G : Hp) (ds : List D) : Prop where
  w : ∃ GG Y, Walk J ds.length GG Y ∧ (∀ H, Ex G H → GG H) ∧ ∀ (i : Nat) H x H' d, ds[i]? = some d → Ex G H → Y i H x H' → Yld K b G H H' d x
abbrev AI := Sl → Mem → (List D → Sl → Mem → Prop) → Prop
def RdI (K : PySem.W.Frag) (ρ : Ent) (b : Bool) (wi : TI) (ai : AI) : Prop := ∀ B σ H G Γ M (Q : List D → Sl → Mem → Prop) (R : It → Hp → Prop), Ok K ρ B σ H G Γ M → ai Γ M Q →
  (∀ J H' G' Γ' M' ds, Ok K ρ B σ H' G' Γ' M' → Es σ H G Γ M H' G' Γ' M' → WalkD K b J G' ds → Q ds Γ' M' → R J H') → wi σ H R
structure QI (X : Cx) (ρ : Ent) (tg iter : Expr) (wi : TI) (ai : AI) : Prop where
  pe : PI X tg iter wi
  rd : RdI X.K ρ (tupT tg) wi ai
section
variable {X : Cx} {tg a b c : Expr} {ta tb tc te : TE} {aa ab ac ae : AE} {pos : Pos} {K : PySem.W.Frag} {B : Ent} {σ : St} {H G H' H1 G1 H2 G2 : Hp} {Γ Γ1 Γ2 : Sl} {M M1 M2 : Mem}
theorem Yld.ok {d : D} {x : V} {G0 : Hp} {b : Bool} (y : Yld K b G0 H H' d x) (k : Ok K ρ B σ H G Γ M) (e : Ex G0 G) : ∃ G', Ok K ρ B σ H' G' Γ M ∧ Es σ H G Γ M H' G' Γ M ∧ RepB K G' b d x := by
  rcases y with ⟨rfl, r⟩ | ⟨hb, T, xs, ds, rfl, hT, rfl, rfl, r⟩
  · exact ⟨G, k, .refl, .inl (r.mono e)⟩
  · obtain ⟨k2, e2⟩ := k.new (o := .tup xs) hT
    exact ⟨_, k2, e2, .inr ⟨hb, ds, T, xs, rfl, rfl, SqT.of upd_same, r.mono (e.trans e2.g)⟩⟩
def aISeq (aa : AE) (Γ : Sl) (M : Mem) (Q : List D → Sl → Mem → Prop) : Prop := aa Γ M fun r Γ1 M1 => frz r Γ1 fun d Γ2 => match d with
  | .lst ds => Q ds Γ2 M1
  | .scr ds => Q ds Γ2 M1
  | _ => False
def aITup (aa : AE) (Γ : Sl) (M : Mem) (Q : List D → Sl → Mem → Prop) : Prop := aa Γ M fun r Γ1 M1 => frz r Γ1 fun d Γ2 => match d with
  | .tup ds => Q ds Γ2 M1
  | _ => False
theorem walkD_list {bw : Bool} {p : Addr} {xs : List V} {ds : List D} (h : SqL K G p xs) (r : RepL K G ds xs) : WalkD K bw (Itl K p) G ds := by
  refine ⟨fun H => SqL K H p xs, YAt xs, r.length ▸ walk_list, fun H e => ex_l e h, fun i H x H' d hd e y => .inl ⟨y.1, ?_⟩⟩
  obtain ⟨v, hv, rv⟩ := r.get hd
  have e2 := hv.symm.trans y.2
  cases e2
  exact rv
theorem walkD_tup {bw : Bool} {p : Addr} {xs : List V} {ds : List D} (h : SqT K G p xs) (r : RepL K G ds xs) : WalkD K bw (Itt K p) G ds := by
  refine ⟨fun H => SqT K H p xs, YAt xs, r.length ▸ walk_tup, fun H e => ex_t e h, fun i H x H' d hd e y => .inl ⟨y.1, ?_⟩⟩
  obtain ⟨v, hv, rv⟩ := r.get hd
  have e2 := hv.symm.trans y.2
  cases e2
  exact rv
theorem qi_list (h : QE X ρ a ta aa) (hK : X.K = K := by rfl) : QI X ρ tg a (iList K ta) (aISeq aa) := by subst hK; exact ⟨pi_list h.pe, fun B σ H G Γ M Q R k hh q => h.rd B σ H G Γ M _ _ k hh fun v H1 G1 Γ1 M1 r k1 e1 rr h1 => by
  obtain ⟨G2, Γ2, d, k2, e2, rp, h2⟩ := frz_ok (H0 := H) k1 e1 rr h1
  split at h2
  · rename_i ds
    obtain ⟨p, xs, rfl, hp, rl⟩ := rep_lst.mp rp
    exact ⟨p, rfl, ⟨xs, SqL.of (k2.ex _ _ hp)⟩, q _ H1 G2 Γ2 M1 ds k2 e2 (walkD_list (SqL.of hp) rl) h2⟩
  · rename_i ds
    obtain ⟨p, xs, rfl, hp, rl⟩ := rep_scr.mp rp
    exact ⟨p, rfl, ⟨xs, ex_l k2.ex hp⟩, q _ H1 G2 Γ2 M1 ds k2 e2 (walkD_list hp rl) h2⟩
  · exact h2.elim⟩
theorem qi_tup (h : QE X ρ a ta aa) (hK : X.K = K := by rfl) : QI X ρ tg a (iTup K ta) (aITup aa) := by subst hK; exact ⟨pi_tup h.pe, fun B σ H G Γ M Q R k hh q => h.rd B σ H G Γ M _ _ k hh fun v H1 G1 Γ1 M1 r k1 e1 rr h1 => by
  obtain ⟨G2, Γ2, d, k2, e2, rp, h2⟩ := frz_ok (H0 := H) k1 e1 rr h1
  split at h2
  · rename_i ds
    obtain ⟨p, xs, rfl, hp, rl⟩ := rep_tup rp
    exact ⟨p, rfl, ⟨xs, ex_t k2.ex hp⟩, q _ H1 G2 Γ2 M1 ds k2 e2 (walkD_tup hp rl) h2⟩
  · exact h2.elim⟩
def rngD (lo : Int) (n : Nat) : List D := (List.range n).map fun i => .int (lo + (i : Nat))
theorem walkD_rng {bw : Bool} {lo : Int} {n : Nat} : WalkD K bw (Itr lo n) G (rngD lo n) := by
  have hl : (rngD lo n).length = n := by simp [rngD]
  refine ⟨fun _ => True, YFn fun i => .int (lo + i), by rw [hl]; exact walk_range, fun _ _ => trivial, fun i H x H' d hd e y => .inl ⟨y.1, ?_⟩⟩
  rw [y.2]
  have hi : i < n := by rw [← hl]; exact (List.getElem?_eq_some_iff.mp hd).1
  simp only [rngD, List.getElem?_map, List.getElem?_range hi, Option.map_some, Option.some.injEq] at hd
  subst hd
  rw [Rep]
def aRng1 (aa : AA) (Γ : Sl) (M : Mem) (Q : List D → Sl → Mem → Prop) : Prop := aa Γ M fun ds Γ1 M1 => match ds with
  | [.int n] => (-(2 ^ 62) ≤ n ∧ n < 2 ^ 62) ∧ Q (rngD 0 n.toNat) Γ1 M1
  | _ => False
def aRng2 (aa : AA) (Γ : Sl) (M : Mem) (Q : List D → Sl → Mem → Prop) : Prop := aa Γ M fun ds Γ1 M1 => match ds with
  | [.int m, .int n] => (-(2 ^ 62) ≤ m ∧ m < 2 ^ 62 ∧ -(2 ^ 62) ≤ n ∧ n < 2 ^ 62) ∧ Q (rngD m (n - m).toNat) Γ1 M1
  | _ => False
theorem qi_range1 {tr : TA} {ar : AA} {p : Pos} (hm : X.mg "range" = none) (ha : QA X ρ [a] tr ar) (hg : Gl X "range" := by rfl) (hs : starEach [a] X.env = [(false, eval a X.env)] := by rfl) : QI X ρ tg (.Call (.Name "range" p) [a] [] pos) (iRng1 tr) (aRng1 ar) := ⟨pi_range1 hg hm ha.pe hs, fun B σ H G Γ M Q R k hh q => ha.rd B σ H G Γ M _ _ k hh fun vs H1 G1 Γ1 M1 ds k1 e1 rl h1 => by
  split at h1
  · rename_i n
    obtain ⟨y, r, rfl, ry, rn⟩ := repL_cons.mp rl
    have := repL_nil.mp rn; subst this
    rw [Rep] at ry; subst ry
    exact ⟨n, rfl, h1.1.1, h1.1.2, q _ H1 G1 Γ1 M1 _ k1 e1 walkD_rng h1.2⟩
  · exact h1.elim⟩
theorem qi_range2 {tr : TA} {ar : AA} {p : Pos} (hm : X.mg "range" = none) (ha : QA X ρ [a, b] tr ar) (hg : Gl X "range" := by rfl) (hs : starEach [a, b] X.env = [(false, eval a X.env), (false, eval b X.env)] := by rfl) (hs2 : starEach [b] X.env = [(false, eval b X.env)] := by rfl) :
    QI X ρ tg (.Call (.Name "range" p) [a, b] [] pos) (iRng2 tr) (aRng2 ar) := ⟨pi_range2 hg hm ha.pe hs hs2, fun B σ H G Γ M Q R k hh q => ha.rd B σ H G Γ M _ _ k hh fun vs H1 G1 Γ1 M1 ds k1 e1 rl h1 => by
  split at h1
  · rename_i m n
    obtain ⟨y, r, rfl, ry, rn⟩ := repL_cons.mp rl
    obtain ⟨z, r', rfl, rz, rn'⟩ := repL_cons.mp rn
    have := repL_nil.mp rn'; subst this
    rw [Rep] at ry rz; subst ry; subst rz
    exact ⟨m, n, rfl, h1.1, q _ H1 G1 Γ1 M1 _ k1 e1 walkD_rng h1.2⟩
  · exact h1.elim⟩

def aForL (g : AG) (body : AS) : List D → AS
  | [] => fun A Γ M => A.nx Γ M
  | d :: ds => fun A Γ M => g d Γ fun Γ1 => body { A with nx := aForL g body ds A, ct := aForL g body ds A, bk := A.nx } Γ1 M
structure WitA (A : AEnds) : Type where
def forW (g : AG) (body : AS) (ds : List D) (A : AEnds) (_ : WitA A) (Γ : Sl) (M : Mem) : Prop := aForL g body ds A Γ M
def aFor (ai : AI) (g : AG) (body : AS) (A : AEnds) (Γ : Sl) (M : Mem) : Prop := ai Γ M fun ds Γ1 M1 => forW g body ds A ⟨⟩ Γ1 M1
theorem Ok.to (k : Ok K ρ B σ H G Γ M) (e : Ex G1 G) (e0 : Ex B.G G1) (gn : ∀ a o, G1 a = some o → B.G a = some o ∨ B.H a = none) : Ok K ρ ⟨B.H, G1, B.A⟩ σ H G Γ M :=
  ⟨⟨e, k.st.fr, fun a o h => (k.st.gn a o h).imp (fun z => e0 a o z) id, k.st.mn, k.st.nn⟩, k.ex, k.nd, k.ms, k.dat, k.own, k.dis, k.len, k.pb.h, k.pb.a, k.pb.g.trans e0, fun a o h => (gn a o h).elim (k.pb.gn a o) fun z => .inr (k.pb.h ▸ z)⟩
theorem Ok.back (pb : Refi ρ B) (k : Ok K ρ ⟨B.H, G1, B.A⟩ σ H G Γ M) (e0 : Ex B.G G1) (gn : ∀ a o, G1 a = some o → B.G a = some o ∨ B.H a = none) : Ok K ρ B σ H G Γ M ∧ Ex G1 G :=
  ⟨⟨⟨e0.trans k.st.g, k.st.fr, fun a o h => (k.st.gn a o h).elim (fun z => gn a o z) .inr, k.st.mn, k.st.nn⟩, k.ex, k.nd, k.ms, k.dat, k.own, k.dis, k.len, pb⟩, k.st.g⟩
theorem rd_for {wi : TI} {ai : AI} {g : TG} {ag : AG} {is : List Nat} {tb : TS} {ab : AS} {bt : Bool} (hi : RdI K ρ bt wi ai) (hg : RdG K ρ bt g ag is) (hb : RdS K ρ tb ab) : RdS K ρ (tFor wi g tb) (aFor ai ag ab) := fun B σ H G Γ M A E k h s => by
  refine hi B σ H G Γ M _ _ k h fun J H1 G1 Γ1 M1 ds k1 e1 w h1 => ?_
  obtain ⟨GG, Y, wk, hGG, hY⟩ := w.w
  have e0 : Ex B.G G1 := k1.st.g
  have gn := k1.st.gn
  have sim : ∀ i, Sim K ρ ⟨B.H, G1, B.A⟩ { A with nx := aForL ag ab (ds.drop (i + 1)) A, ct := aForL ag ab (ds.drop (i + 1)) A, bk := A.nx }
      { E with nx := fun σ H => ∃ G2 Γ2 M2, Ok K ρ B σ H G2 Γ2 M2 ∧ Ex G1 G2 ∧ aForL ag ab (ds.drop (i + 1)) A Γ2 M2, ct := fun σ H => ∃ G2 Γ2 M2, Ok K ρ B σ H G2 Γ2 M2 ∧ Ex G1 G2 ∧ aForL ag ab (ds.drop (i + 1)) A Γ2 M2, bk := E.nx } := fun i =>
    ⟨fun σ H G Γ M k q => let ⟨k', e'⟩ := k.back k1.pb e0 gn; ⟨G, Γ, M, k', e', q⟩, fun σ H0 H G Γ M r v k rr q => s.rt σ H0 H G Γ M r v (k.back k1.pb e0 gn).1 rr q, fun σ H G Γ M k q => s.nx σ H G Γ M (k.back k1.pb e0 gn).1 q, fun σ H G Γ M k q => let ⟨k', e'⟩ := k.back k1.pb e0 gn; ⟨G, Γ, M, k', e', q⟩⟩
  refine for_it wk (fun i σ H => ∃ G2 Γ2 M2, Ok K ρ B σ H G2 Γ2 M2 ∧ Ex G1 G2 ∧ aForL ag ab (ds.drop i) A Γ2 M2) ⟨G1, Γ1, M1, k1, Ex.refl _, h1⟩ (fun i σ H _ ⟨G2, Γ2, M2, k2, e2, _⟩ => hGG H (e2.trans k2.ex)) ?_ ?_
  · rintro i x σ H H' hin ⟨G2, Γ2, M2, k2, e2, h2⟩ y
    rw [List.drop_eq_getElem_cons hin] at h2
    obtain ⟨G3, k3, e3, rp⟩ := (hY i H x H' _ (List.getElem?_eq_getElem hin) (e2.trans k2.ex) y).ok k2 e2
    refine hg B σ H' G3 Γ2 M2 _ x _ _ k3 rp h2 fun σ' Γ' k4 _ _ h4 => ?_
    exact hb ⟨B.H, G1, B.A⟩ σ' H' G3 Γ' M2 _ _ (k4.to (e2.trans e3.g) e0 gn) h4 (sim i)
  · rintro σ H ⟨G2, Γ2, M2, k2, e2, h2⟩
    rw [List.drop_length] at h2
    exact s.nx σ H G2 Γ2 M2 k2 h2
theorem qs_for {iter : Expr} {body : List Stmt} {wi : TI} {ai : AI} {g : TG} {ag : AG} {is : List Nat} {tb : TS} {ab : AS} (hi : QI X ρ tg iter wi ai) (hg : QG X ρ tg g ag is) (hb : QSs X ρ body tb ab) (hc : X.calm = true := by rfl)
    (hp : PassesOwn (model X.prog X.w) X.A X.env X.xe := by exact PassesOwn.never) (hs : ∀ x, foldedSetIterable iter X.env x = pure x := by intro _; rfl) : QS X ρ (.For tg iter body [] pos) (tFor wi g tb) (aFor ai ag ab) := ⟨ps_for hp hc hi.pe hg.pe hb.pe hs, rd_for hi.rd hg.rd hb.rd⟩
def aWhile (t : AT) (body : AS) (A : AEnds) (Γ : Sl) (M : Mem) : Prop := ∃ W : Nat → Sl → Mem → Prop, (∃ m, W m Γ M) ∧ ∀ m Γ M, W m Γ M →
  t Γ M fun b Γ1 M1 => if b = true then body { A with nx := fun Γ M => ∃ m', m' < m ∧ W m' Γ M, ct := fun Γ M => ∃ m', m' < m ∧ W m' Γ M, bk := A.nx } Γ1 M1 else A.nx Γ1 M1
theorem rd_while {tt : TT} {at' : AT} {tb : TS} {ab : AS} (hc : RdT K ρ tt at') (hb : RdS K ρ tb ab) : RdS K ρ (tWhile tt tb) (aWhile at' ab) := fun B σ H G Γ M A E k h s => by
  obtain ⟨W, ⟨m0, w0⟩, hw⟩ := h
  refine ⟨fun m σ H => ∃ G Γ M, Ok K ρ B σ H G Γ M ∧ W m Γ M, ⟨m0, G, Γ, M, k, w0⟩, ?_⟩
  rintro m σ H ⟨G1, Γ1, M1, k1, w1⟩
  refine hc B σ H G1 Γ1 M1 _ _ k1 (hw m Γ1 M1 w1) fun b H2 G2 Γ2 M2 k2 e2 h2 => ?_
  cases b with
  | true =>
    refine ⟨fun σ H => ∃ G Γ M, Ok K ρ B σ H G Γ M ∧ ∃ m', m' < m ∧ W m' Γ M, fun σ' H' ⟨G, Γ, M, k, m', l, w⟩ => ⟨m', l, G, Γ, M, k, w⟩, ?_⟩
    have h3 : ab { A with nx := fun Γ M => ∃ m', m' < m ∧ W m' Γ M, ct := fun Γ M => ∃ m', m' < m ∧ W m' Γ M, bk := A.nx } Γ2 M2 := by simpa using h2
    exact hb B σ H2 G2 Γ2 M2 _ _ k2 h3 ⟨fun σ H G Γ M k q => ⟨G, Γ, M, k, q⟩, s.rt, s.nx, fun σ H G Γ M k q => ⟨G, Γ, M, k, q⟩⟩
  | false => exact s.nx σ H2 G2 Γ2 M2 k2 (by simpa using h2)
theorem qs_while {body : List Stmt} {tt : TT} {at' : AT} {tb : TS} {ab : AS} (hc : QT X ρ c tt at') (hb : QSs X ρ body tb ab) (hp : PassesOwn (model X.prog X.w) X.A X.env X.xe := by exact PassesOwn.never) : QS X ρ (.While c body [] pos) (tWhile tt tb) (aWhile at' ab) := ⟨ps_while hp hc.pe hb.pe, rd_while hc.rd hb.rd⟩

def wipeS (Γ : Sl) : List Nat → Sl
  | [] => Γ
  | v :: vs => (wipeS Γ vs).set v .non
theorem wipeS_some {i : Nat} {s : Slot} : ∀ {vs : List Nat}, (wipeS Γ vs)[i]? = some s → s ≠ .non → Γ[i]? = some s ∧ i ∉ vs
  | [], h, _ => ⟨h, by simp⟩
  | v :: vs, h, hn => by
    unfold wipeS at h
    rcases set_get h with ⟨_, e⟩ | ⟨ne, e⟩
    · exact (hn e).elim
    · obtain ⟨h1, h2⟩ := wipeS_some e hn
      exact ⟨h1, by simp only [List.mem_cons, not_or]; exact ⟨ne, h2⟩⟩
theorem wipeS_length : ∀ vs : List Nat, (wipeS Γ vs).length = Γ.length
  | [] => rfl
  | v :: vs => by unfold wipeS; rw [List.length_set, wipeS_length vs]
theorem wipe_wipe (σ : St) : ∀ vs : List Nat, wipe (wipe σ vs) vs = wipe σ vs := fun vs => by
  apply List.ext_getElem?
  intro i
  by_cases hi : i ∈ vs
  · have key : ∀ (ws : List Nat) (τ : St), i ∈ ws → i < τ.length → (wipe τ ws)[i]? = some none := by
      intro ws
      induction ws with
      | nil => intro τ h; simp at h
      | cons w ws ih =>
        intro τ h hl
        unfold wipe
        by_cases e : w = i
        · subst e; rw [List.getElem?_set_self (by rw [wipe_length]; exact hl)]
        · rw [List.getElem?_set_ne e]; exact ih τ (by simpa [show ¬ i = w from fun q => e q.symm] using h) hl
    by_cases hl : i < σ.length
    · rw [key vs _ hi (by rw [wipe_length]; exact hl), key vs σ hi hl]
    · rw [List.getElem?_eq_none (by rw [wipe_length, wipe_length]; omega), List.getElem?_eq_none (by rw [wipe_length]; omega)]
  · rw [wipe_out hi]
theorem Ok.agree {σ' : St} {Γ' : Sl} (k : Ok K ρ B σ H G Γ M) (hs : ∀ (i : Nat) (s : Slot), Γ'[i]? = some s → s ≠ .non → Γ[i]? = some s ∧ σ'[i]? = σ[i]?) (hl : Γ'.length = σ'.length) : Ok K ρ B σ' H G Γ' M ∧ ∀ x, owned σ' Γ' x → owned σ Γ x := by
  refine ⟨⟨k.st, k.ex, k.nd, k.ms, fun i d h => ?_, fun i c h => ?_, fun i j ci cj p h h' a b => ?_, hl, k.pb⟩, fun x ⟨i, c, h1, h2⟩ => ?_⟩
  · obtain ⟨h1, h2⟩ := hs i _ h (by intro e; cases e)
    rw [h2]; exact k.dat i d h1
  · obtain ⟨h1, h2⟩ := hs i _ h (by intro e; cases e)
    rw [h2]; exact k.own i c h1
  · obtain ⟨h1, h2⟩ := hs i _ h (by intro e; cases e)
    obtain ⟨h1', h2'⟩ := hs j _ h' (by intro e; cases e)
    rw [h2] at a; rw [h2'] at b
    exact k.dis i j ci cj p h1 h1' a b
  · obtain ⟨g1, g2⟩ := hs i _ h1 (by intro e; cases e)
    exact ⟨i, c, g1, by rw [← g2]; exact h2⟩
theorem Ok.updTmp {p : Addr} {xs ys : List V} (k : Ok K ρ B σ H G Γ M) (hp : H p = some (.lst xs)) (hb : B.H p = none) (hg : G p = none) (hm : p ∉ dom M) (hn : ¬ owned σ Γ p) : Ok K ρ B σ (upd H p (.lst ys)) G Γ M := by
  have cel : ∀ x c, x ≠ p → Cel K H G x c → Cel K (upd H p (.lst ys)) G x c := fun x c ne ⟨z1, o, z2, z3⟩ => ⟨z1, o, by rw [upd_ne ne]; exact z2, z3⟩
  refine ⟨⟨k.st.g, fun x o z n => ?_, k.st.gn, k.st.mn, fun x z => k.st.nn x ?_⟩, fun x o z => ?_, k.nd, fun x c z => cel x c (fun e => hm (e ▸ List.mem_map.mpr ⟨_, z, rfl⟩)) (k.ms x c z), k.dat, fun i c z => ?_, k.dis, k.len, k.pb⟩
  · rw [upd_ne (ne_of_none z hb)]; exact k.st.fr x o z n
  · by_cases e : x = p
    · subst e; rw [upd_same] at z; cases z
    · rw [upd_ne e] at z; exact z
  · rw [upd_ne (ne_of_none z hg)]; exact k.ex x o z
  · obtain ⟨q, h1, h2, h3, h4⟩ := k.own i c z
    exact ⟨q, h1, h2, h3, cel q c (fun e => hn ⟨i, c, z, e ▸ h1⟩) h4⟩
def aLcL (g : AG) (tt : AT) (ae : AE) (vs : List Nat) (k : List D → Sl → Mem → Prop) : List D → List D → Sl → Mem → Prop
  | [], acc, Γ, M => k acc Γ M
  | d :: ds, acc, Γ, M => g d Γ fun Γ1 => tt Γ1 M fun b Γ2 M2 => if b = true then ae Γ2 M2 fun r Γ3 M3 => frz r Γ3 fun y Γ4 => acc.length < sizeLine ∧ aLcL g tt ae vs k ds (acc ++ [y]) (wipeS Γ4 vs) M3
      else aLcL g tt ae vs k ds acc (wipeS Γ2 vs) M2
structure WitL (k : List D → Sl → Mem → Prop) : Type where
def lcW (g : AG) (tt : AT) (ae : AE) (vs : List Nat) (k : List D → Sl → Mem → Prop) (_ : WitL k) (ds acc : List D) (Γ : Sl) (M : Mem) : Prop := aLcL g tt ae vs k ds acc Γ M
def aLc (ai : AI) (g : AG) (tt : AT) (ae : AE) (vs : List Nat) (Γ : Sl) (M : Mem) (Q : Ret → Sl → Mem → Prop) : Prop := ai Γ M fun ds Γ1 M1 => lcW g tt ae vs (fun acc Γ2 M2 => Q (.tmp (.lst acc)) Γ2 M2) ⟨⟩ ds [] (wipeS Γ1 vs) M1
def aYes (Γ : Sl) (M : Mem) (Q : Bool → Sl → Mem → Prop) : Prop := Q true Γ M
theorem rd_yes : RdT K ρ tYes aYes := fun _ _ H G Γ M _ _ k h q => q true H G Γ M k .refl h
theorem rd_lc {wi : TI} {ai : AI} {g : TG} {ag : AG} {is vs : List Nat} {tt : TT} {at' : AT} {bt : Bool} (hi : RdI K ρ bt wi ai) (hg : RdG K ρ bt g ag is) (hsub : ∀ j ∈ is, j ∈ vs) (ht : RdT K ρ tt at') (he : RdE K ρ te ae) : RdE K ρ (tLc wi g tt te vs) (aLc ai ag at' ae vs) := by
  intro B σ H G Γ M Q R k h q
  refine hi B σ H G Γ M _ _ k h fun J H1 G1 Γ1 M1 ds k1 e1 w h1 p hp => ?_
  obtain ⟨GG, Y, wk, hGG, hY⟩ := w.w
  have h0p : H p = none := e1.nn p hp
  -- the state with the block's names wiped
  have wS : ∀ (Δ : Sl) (i : Nat) (s : Slot), (wipeS Δ vs)[i]? = some s → s ≠ .non → Δ[i]? = some s ∧ i ∉ vs := fun Δ i s a b => wipeS_some a b
  obtain ⟨k1t, e1t, hm1, hn1, hb1, hg1⟩ := k1.tmp (o := .lst []) hp
  obtain ⟨k1w, o1w⟩ := k1t.agree (σ' := σ) (Γ' := wipeS Γ1 vs) (fun i s a b => ⟨(wS Γ1 i s a b).1, rfl⟩) (by rw [wipeS_length]; exact k1.len)
  have upN : ∀ {H2 : Hp} {o : HO} x, upd H2 p o x = none → H2 x = none := fun {H2 o} x z => by
    by_cases e : x = p
    · subst e; rw [upd_same] at z; cases z
    · rw [upd_ne e] at z; exact z
  refine lc_it wk (fun i H2 => ∃ G2 Γ2 M2 acc xs, Ok K ρ B σ H2 G2 Γ2 M2 ∧ Es σ H1 G1 Γ1 M1 H2 G2 Γ2 M2 ∧ (∀ (j : Nat) (s : Slot), Γ2[j]? = some s → s ≠ .non → j ∉ vs) ∧ H2 p = some (.lst xs) ∧ RepL K G2 acc xs ∧ G2 p = none ∧ p ∉ dom M2 ∧ ¬ owned σ Γ2 p ∧
      aLcL ag at' ae vs (fun acc Γ2 M2 => Q (.tmp (.lst acc)) Γ2 M2) (ds.drop i) acc Γ2 M2) ?_ ?_ ?_ ?_
  · refine ⟨G1, wipeS Γ1 vs, M1, [], [], k1w, ⟨Ex.refl _, fun a o h g m n => ?_, fun a z => upN a z⟩, fun j s a b => (wS Γ1 j s a b).2, upd_same, repL_nil.mpr rfl, hg1, hm1, fun z => hn1 (o1w _ z), h1⟩
    exact ⟨by rw [upd_ne (ne_of_none h hp)]; exact h, g, m, fun z => n (o1w _ z)⟩
  · rintro i H2 _ ⟨G2, Γ2, M2, acc, xs, k2, e2, _⟩
    exact hGG H2 (e2.g.trans k2.ex)
  · rintro i x H2 H2' hin ⟨G2, Γ2, M2, acc, xs, k2, e2, hv2, hp2, ra2, hg2, hm2, hn2, h2⟩ y
    rw [List.drop_eq_getElem_cons hin] at h2
    obtain ⟨G3, k3, e3, rp⟩ := (hY i H2 x H2' _ (List.getElem?_eq_getElem hin) (e2.g.trans k2.ex) y).ok k2 e2.g
    obtain ⟨hp3, hg3, hm3, hn3⟩ := e3.tmp p _ hp2 hg2 hm2 hn2
    obtain ⟨k3w, o3w⟩ := k3.agree (σ' := wipe σ vs) (Γ' := Γ2) (fun j s a b => ⟨a, wipe_out (hv2 j s a b)⟩) (by rw [wipe_length]; exact k3.len)
    have o3b : ∀ x, owned σ Γ2 x → owned (wipe σ vs) Γ2 x := fun x ⟨j, c, z1, z2⟩ => ⟨j, c, z1, by rw [wipe_out (hv2 j _ z1 (by intro e; cases e))]; exact z2⟩
    refine hg B (wipe σ vs) H2' G3 Γ2 M2 _ x _ _ k3w rp h2 fun σ2 Γ3 k4 w4 o4 h4 => ⟨?_, ?_⟩
    · rw [w4 vs hsub, wipe_wipe]
    have hw2 : wipe σ2 vs = wipe σ vs := by rw [w4 vs hsub, wipe_wipe]
    have ag2 : ∀ j, j ∉ vs → σ[j]? = σ2[j]? := fun j hj => by rw [← wipe_out (σ := σ2) hj, hw2, wipe_out hj]
    have hl2 : σ2.length = σ.length := by rw [← wipe_length σ2 vs, hw2, wipe_length]
    -- what stands at the end of a turn
    have fin : ∀ {H5 G5 : Hp} {Γ5 : Sl} {M5 : Mem}, Ok K ρ B σ2 H5 G5 Γ5 M5 → Es σ2 H2' G3 Γ3 M2 H5 G5 Γ5 M5 → Ok K ρ B σ H5 G5 (wipeS Γ5 vs) M5 ∧ Es σ H1 G1 Γ1 M1 H5 G5 (wipeS Γ5 vs) M5 ∧ H5 p = some (.lst xs) ∧ G5 p = none ∧ p ∉ dom M5 ∧ ¬ owned σ2 Γ5 p ∧ ¬ owned σ (wipeS Γ5 vs) p := fun {H5 G5 Γ5 M5} k5 e5 => by
      obtain ⟨k6, o6⟩ := k5.agree (σ' := σ) (Γ' := wipeS Γ5 vs) (fun j s a b => ⟨(wS Γ5 j s a b).1, ag2 j (wS Γ5 j s a b).2⟩) (by rw [wipeS_length, k5.len, hl2])
      have through : ∀ a o, H2 a = some o → G2 a = none → a ∉ dom M2 → ¬ owned σ Γ2 a → H5 a = some o ∧ G5 a = none ∧ a ∉ dom M5 ∧ ¬ owned σ2 Γ5 a := fun a o h g m n => by
        obtain ⟨a1, a2, a3, a4⟩ := e3.tmp a o h g m n
        exact e5.tmp a o a1 a2 a3 fun z => a4 (o3w _ (o4 _ z))
      obtain ⟨b1, b2, b3, b4⟩ := through p _ hp2 hg2 hm2 hn2
      refine ⟨k6, ⟨(e2.g.trans e3.g).trans e5.g, fun a o h g m n => ?_, fun a z => e2.nn a (e3.nn a (e5.nn a z))⟩, b1, b2, b3, b4, fun z => b4 (o6 _ z)⟩
      obtain ⟨a1, a2, a3, a4⟩ := e2.tmp a o h g m n
      obtain ⟨c1, c2, c3, c4⟩ := through a o a1 a2 a3 a4
      exact ⟨c1, c2, c3, fun z => c4 (o6 _ z)⟩
    refine ht B σ2 H2' G3 Γ3 M2 _ _ k4 h4 fun b H5 G5 Γ5 M5 k5 e5 h5 => ?_
    cases b with
    | false =>
      obtain ⟨k6, e6, p6, g6, m6, _, n6⟩ := fin k5 e5
      exact ⟨G5, wipeS Γ5 vs, M5, acc, xs, k6, e6, fun j s a b => (wS Γ5 j s a b).2, p6, (ra2.mono e3.g).mono e5.g, g6, m6, n6, by simpa using h5⟩
    | true =>
      refine he B σ2 H5 G5 Γ5 M5 _ _ k5 (by simpa using h5) fun v H6 G6 Γ6 M6 r k6 e6 rr h6 => ?_
      obtain ⟨G7, Γ7, y, k7, e7, rp7, hlen, h7⟩ := frz_ok (H0 := H5) k6 e6 rr h6
      obtain ⟨k8, e8, p8, g8, m8, n8', n8⟩ := fin k7 (e5.trans e7)
      have ra : RepL K G7 acc xs := (ra2.mono e3.g).mono (e5.trans e7).g
      refine ⟨xs, p8, by rw [ra.length]; exact hlen, G7, wipeS Γ7 vs, M6, acc ++ [y], xs ++ [v], k8.updTmp p8 hb1 g8 m8 n8, ⟨e8.g, fun a o h g m n => ?_, fun a z => e8.nn a (upN a z)⟩, fun j s a b => (wS Γ7 j s a b).2, upd_same, ra.append (RepL.one rp7), g8, m8, n8, h7⟩
      obtain ⟨a1, a2, a3, a4⟩ := e8.tmp a o h g m n
      exact ⟨by rw [upd_ne (ne_of_none h hp)]; exact a1, a2, a3, a4⟩
  · rintro H2 ⟨G2, Γ2, M2, acc, xs, k2, e2, _, hp2, ra2, hg2, hm2, hn2, h2⟩
    rw [List.drop_length] at h2
    exact q _ H2 G2 Γ2 M2 (.tmp (.lst acc)) k2 (e1.trans e2) ⟨p, rfl, h0p, hb1, ⟨hg2, _, hp2, xs, rfl, ra2⟩, hm2, hn2⟩ h2
structure QTs (X : Cx) (ρ : Ent) (ifs : List Expr) (tt : TT) (at' : AT) : Prop where
  pe : PTs X ifs tt
  rd : RdT X.K ρ tt at'
theorem qts_nil : QTs X ρ [] tYes aYes := ⟨pts_nil, rd_yes⟩
theorem qts_one {tt : TT} {at' : AT} (h : QT X ρ c tt at') : QTs X ρ [c] tt at' := ⟨pts_one h.pe, h.rd⟩
theorem q_lc {elt iter : Expr} {ifs : List Expr} {scope : Scope} {own : List (Str × Nat)} {wi : TI} {ai : AI} {g : TG} {ag : AG} {is : List Nat} {tt : TT} {at' : AT} (own' : List (Str × Nat)) (hown : own = own') (hN : X.N.Nodup) (hi : QI X ρ tg iter wi ai) (ok : BlkOk X.N X.env.scope scope own)
    (hg : ∀ (s : Shared) (H : Hp) (C : Addr) (cl : List (Str × Addr)) (fp : List Addr), QG (X.blk s H scope (compEnvC scope cl C X.env) fp) ρ tg g ag is) (ht : ∀ (s : Shared) (H : Hp) (C : Addr) (cl : List (Str × Addr)) (fp : List Addr), QTs (X.blk s H scope (compEnvC scope cl C X.env) fp) ρ ifs tt at')
    (he : ∀ (s : Shared) (H : Hp) (C : Addr) (cl : List (Str × Addr)) (fp : List Addr), QE (X.blk s H scope (compEnvC scope cl C X.env) fp) ρ elt te ae) (hsub : ∀ j ∈ is, j ∈ own.map (·.2)) (s0 : Shared) (hc : X.calm = true := by rfl) (hs : ∀ x, foldedSetIterable iter X.env x = pure x := by intro _; rfl) :
    QE X ρ (.ListComp elt [⟨tg, iter, ifs, 0⟩] scope pos) (tLc wi g tt te (own.map (·.2))) (aLc ai ag at' ae (own.map (·.2))) :=
  ⟨pe_lc hc hN hi.pe ok (fun s H C cl fp => (hg s H C cl fp).pe) (fun s H C cl fp => (ht s H C cl fp).pe) (fun s H C cl fp => (he s H C cl fp).pe) hs,
   rd_lc hi.rd (hg s0 X.H_0 0 [] []).rd hsub (ht s0 X.H_0 0 [] []).rd (he s0 X.H_0 0 [] []).rd⟩
end
end Gw

namespace Gw
open PySem L2 PyProof.Rows
variable {ρ : Ent}
def ret (r : Ret) (Γ : Sl) (k : Ret → Prop) : Prop := match r with
  | .dat d => k (.dat d)
  | .tmp c => k (.tmp c)
  | .var i => match Γ[i]? with
    | some (.own c) => k (.tmp c)
    | some (.dat d) => k (.dat d)
    | _ => False
def endsOf (Q : Ret → Mem → Prop) : AEnds := ⟨fun _ M => Q (.dat .non) M, fun r Γ M => ret r Γ fun r' => Q r' M, fun _ _ => False, fun _ _ => False⟩
def slots (n : Nat) (ds : List D) : Sl := ds.map .dat ++ List.replicate (n - ds.length) .non
section
variable {P : Program} {w : World} {K : PySem.W.Frag} {mg : Str → Option Value} {base : Heap}
theorem ok_start {N : List Str} {vs : List V} {ds : List D} {H G : Hp} {M : Mem} (ex : Ex G H) (nd : (dom M).Nodup) (ms : ∀ a c, (a, c) ∈ M → Cel K H G a c) (rl : RepL K G ds vs) : Ok K ⟨H, G, dom M⟩ ⟨H, G, dom M⟩ (L2.start N vs) H G (slots N.length ds) M := by
  have hdat : ∀ (i : Nat) (s : Slot), (slots N.length ds)[i]? = some s → s ≠ .non → ∃ d, ds[i]? = some d ∧ s = .dat d := fun i s h hn => by
    unfold slots at h
    by_cases hi : i < ds.length
    · rw [List.getElem?_append_left (by rw [List.length_map]; exact hi), List.getElem?_map, List.getElem?_eq_getElem hi] at h
      cases h
      exact ⟨_, List.getElem?_eq_getElem hi, rfl⟩
    · rw [List.getElem?_append_right (by rw [List.length_map]; omega)] at h
      have := List.mem_of_getElem? h
      rw [List.mem_replicate] at this
      exact (hn this.2).elim
  refine ⟨⟨Ex.refl _, fun _ _ h _ => h, fun _ _ h => .inl h, fun _ h => .inl h, fun _ h => h⟩, ex, nd, ms, fun i d h => ?_, fun i c h => ?_, fun i j ci cj p h _ _ _ => ?_, ?_, Refi.refl _⟩
  · obtain ⟨d', e, z⟩ := hdat i _ h (by intro e; cases e)
    cases z
    obtain ⟨v, hv, r⟩ := rl.get e
    refine ⟨v, ?_, r⟩
    unfold L2.start
    rw [List.getElem?_append_left (by rw [List.length_map]; exact (List.getElem?_eq_some_iff.mp hv).1), List.getElem?_map, hv]
    rfl
  · obtain ⟨d', e, z⟩ := hdat i _ h (by intro e; cases e)
    cases z
  · obtain ⟨d', e, z⟩ := hdat i _ h (by intro e; cases e)
    cases z
  · unfold slots L2.start
    rw [List.length_append, List.length_append, List.length_map, List.length_map, List.length_replicate, List.length_replicate, rl.length]
theorem fn_ok {k : Nat} {x qual : Str} {st : Stmt} {f : Addr} {fd : FuncData} {N ps : List Str} {S : ASp} (F : Fun K x qual st f fd) (sc : FnScope N ps (defScope st)) (hn : Ar ps.length S) {as : AS}
    (hb : ∀ (ρ : Ent) (cd : Value) (A : Around) (outer : List Env) (s : Shared) (H : Hp) (E : XK), Room k (A.deeper (envOfC qual (defScope st) s.heap.objs.size f cd)) → A.guards = some [] → ∃ ts, QSs (cxOf CX0 P w K mg base N qual (defScope st) f cd A outer s H E).nox ρ (defBody st) ts as)
    (hr : ∀ ds M Q, S ds M Q → as (endsOf Q) (slots N.length ds) M) : FnG P w K mg base CX0 (k + 1) f fd ps (spA K ps.length S) := by
  refine fnG_of F sc (fun vs H Q E h => ?_) fun cd A outer s H vs Q E room gd h => ?_
  · obtain ⟨G, M, ds, hl, _⟩ := h; exact hl
  · obtain ⟨G, M, ds, hl, ex, nd, ms, rl, Qa, hS, fin⟩ := h
    obtain ⟨ts, q⟩ := hb ⟨H, G, dom M⟩ cd A outer s H E room gd
    refine ⟨ts, q.pe.nox, q.rd ⟨H, G, dom M⟩ (L2.start N vs) H G (slots N.length ds) M (endsOf Qa) _ (ok_start ex nd ms rl) (hr ds M Qa hS) ⟨fun σ H' G' Γ' M' k' z => ?_, fun σ H0 H' G' Γ' M' r v k' rr z => ?_, fun _ _ _ _ _ _ z => z.elim, fun _ _ _ _ _ _ z => z.elim⟩⟩
    · exact fin (.dat .non) M' .non H' G' z ⟨k'.st, k'.ex, k'.nd, k'.ms⟩ (by simp only [RetOk, Rep])
    · have post : Post K H G M H' G' M' := ⟨k'.st, k'.ex, k'.nd, k'.ms⟩
      cases r with
      | dat d => exact fin (.dat d) M' v H' G' z post rr
      | tmp c =>
        obtain ⟨p, e, _, hb, hc, hm, _⟩ := rr
        exact fin (.tmp c) M' v H' G' z post ⟨p, e, hb, hc, hm⟩
      | var i =>
        simp only [endsOf, ret] at z
        split at z
        · rename_i c e1
          obtain ⟨p, s1, hb, hm, hc⟩ := k'.own i c e1
          have : v = .ref p := by have := (show (_ : L2.St)[i]? = some (some v) from rr); rw [s1] at this; cases this; rfl
          exact fin (.tmp c) M' v H' G' z post ⟨p, this, hb, hc, hm⟩
        · rename_i d e1
          obtain ⟨v', h1, h2⟩ := k'.dat i d e1
          have : v' = v := by have := (show (_ : L2.St)[i]? = some (some v) from rr); rw [h1] at this; cases this; rfl
          subst this
          exact fin (.dat d) M' _ H' G' z post h2
        · exact z.elim
end
section
variable {X : Cx} {a : Expr} {ta : TE} {aa : AE} {pos : Pos} {K : PySem.W.Frag}
def shOk (d : D) : Bool := plain d && (toPy d).showable && decide ((toPy d).depth ≤ 64) && decide ((toPy d).shown.length ≤ sizeLine)
def shD (d : D) : Str := (toPy d).shown
def aRepr (r : Ret) (Γ : Sl) (M : Mem) (Q : Ret → Sl → Mem → Prop) : Prop := match dOf r Γ M with
  | some d => shOk d = true ∧ Q (.dat (.str (shD d))) Γ M
  | none => False
end
section
variable {P : Program} {w : World} {K : PySem.W.Frag} {mg mb : Str → Option Value}
end
end Gw

namespace Gw
open PySem L2
variable {ρ : Ent}
section
variable {X : Cx} {tg a b c : Expr} {ta tb tc te : TE} {aa ab ac ae : AE} {pos : Pos} {K : PySem.W.Frag} {i : Nat} {x : Str} {pos' : Pos}
theorem qs_setLcG {elt iter : Expr} {ifs : List Expr} {scope : Scope} {own : List (Str × Nat)} {wi : TI} {ai : AI} {g : TG} {ag : AG} {is : List Nat} {tt : TT} {at' : AT} {spos : Pos} {as : AS} (i : Nat)
    (has : ∀ {te' : TE} {ae' : AE}, RdE X.K ρ te' ae' → ae' = aLc ai ag at' ae (own.map (·.2)) → RdS X.K ρ (tAsg te' (gName i)) as)
    (hN : X.N.Nodup) (hi : QI X ρ tg iter wi ai) (ok : BlkOk X.N X.env.scope scope own)
    (hg : ∀ (s : Shared) (H : Hp) (C : Addr) (cl : List (Str × Addr)) (fp : List Addr), QG (X.blk s H scope (compEnvC scope cl C X.env) fp) ρ tg g ag is) (ht : ∀ (s : Shared) (H : Hp) (C : Addr) (cl : List (Str × Addr)) (fp : List Addr), QTs (X.blk s H scope (compEnvC scope cl C X.env) fp) ρ ifs tt at')
    (he : ∀ (s : Shared) (H : Hp) (C : Addr) (cl : List (Str × Addr)) (fp : List Addr), QE (X.blk s H scope (compEnvC scope cl C X.env) fp) ρ elt te ae) (hsub : ∀ j ∈ is, j ∈ own.map (·.2)) (s0 : Shared)
    (hy : X.N[i]? = some x) (hyl : X.env.scope.names.lookup x = some .local) (hsw : swapsWith (.ListComp elt [⟨tg, iter, ifs, 0⟩] scope pos) (some (.Name x pos')) spos.line X.env = pure true) (hc : X.calm = true) (hs : ∀ x, foldedSetIterable iter X.env x = pure x) :
    QS X ρ (.Assign [.Name x pos'] (.ListComp elt [⟨tg, iter, ifs, 0⟩] scope pos) spos) (tAsg (tLc wi g tt te (own.map (·.2))) (gName i)) as :=
  ⟨ps_setLc hc hN hy hyl hsw hi.pe ok (fun s H C cl fp => (hg s H C cl fp).pe) (fun s H C cl fp => (ht s H C cl fp).pe) (fun s H C cl fp => (he s H C cl fp).pe) hs,
   has (rd_lc hi.rd (hg s0 X.H_0 0 [] []).rd hsub (ht s0 X.H_0 0 [] []).rd (he s0 X.H_0 0 [] []).rd) rfl⟩
theorem qs_setLc {elt iter : Expr} {ifs : List Expr} {scope : Scope} {own : List (Str × Nat)} {wi : TI} {ai : AI} {g : TG} {ag : AG} {is : List Nat} {tt : TT} {at' : AT} {spos : Pos} (i : Nat) (hN : X.N.Nodup) (hi : QI X ρ tg iter wi ai) (ok : BlkOk X.N X.env.scope scope own)
    (hg : ∀ (s : Shared) (H : Hp) (C : Addr) (cl : List (Str × Addr)) (fp : List Addr), QG (X.blk s H scope (compEnvC scope cl C X.env) fp) ρ tg g ag is) (ht : ∀ (s : Shared) (H : Hp) (C : Addr) (cl : List (Str × Addr)) (fp : List Addr), QTs (X.blk s H scope (compEnvC scope cl C X.env) fp) ρ ifs tt at')
    (he : ∀ (s : Shared) (H : Hp) (C : Addr) (cl : List (Str × Addr)) (fp : List Addr), QE (X.blk s H scope (compEnvC scope cl C X.env) fp) ρ elt te ae) (s0 : Shared) (hsub : ∀ j ∈ is, j ∈ own.map (·.2) := by decide)
    (hy : X.N[i]? = some x := by rfl) (hyl : X.env.scope.names.lookup x = some .local := by rfl) (hsw : swapsWith (.ListComp elt [⟨tg, iter, ifs, 0⟩] scope pos) (some (.Name x pos')) spos.line X.env = pure true := by exact sw_true rfl rfl rfl (by decide +kernel)) (hc : X.calm = true := by rfl) (hs : ∀ x, foldedSetIterable iter X.env x = pure x := by intro _; rfl) :
    QS X ρ (.Assign [.Name x pos'] (.ListComp elt [⟨tg, iter, ifs, 0⟩] scope pos) spos) (tAsg (tLc wi g tt te (own.map (·.2))) (gName i)) (aAsg (aLc ai ag at' ae (own.map (·.2))) i) :=
  qs_setLcG i (fun h e => by subst e; exact rd_asg h) hN hi ok hg ht he hsub s0 hy hyl hsw hc hs
theorem qs_setLcF {elt iter : Expr} {ifs : List Expr} {scope : Scope} {own : List (Str × Nat)} {wi : TI} {ai : AI} {g : TG} {ag : AG} {is : List Nat} {tt : TT} {at' : AT} {spos : Pos} (i : Nat) (hN : X.N.Nodup) (hi : QI X ρ tg iter wi ai) (ok : BlkOk X.N X.env.scope scope own)
    (hg : ∀ (s : Shared) (H : Hp) (C : Addr) (cl : List (Str × Addr)) (fp : List Addr), QG (X.blk s H scope (compEnvC scope cl C X.env) fp) ρ tg g ag is) (ht : ∀ (s : Shared) (H : Hp) (C : Addr) (cl : List (Str × Addr)) (fp : List Addr), QTs (X.blk s H scope (compEnvC scope cl C X.env) fp) ρ ifs tt at')
    (he : ∀ (s : Shared) (H : Hp) (C : Addr) (cl : List (Str × Addr)) (fp : List Addr), QE (X.blk s H scope (compEnvC scope cl C X.env) fp) ρ elt te ae) (s0 : Shared) (hsub : ∀ j ∈ is, j ∈ own.map (·.2) := by decide)
    (hy : X.N[i]? = some x := by rfl) (hyl : X.env.scope.names.lookup x = some .local := by rfl) (hsw : swapsWith (.ListComp elt [⟨tg, iter, ifs, 0⟩] scope pos) (some (.Name x pos')) spos.line X.env = pure true := by exact sw_true rfl rfl rfl (by decide +kernel)) (hc : X.calm = true := by rfl) (hs : ∀ x, foldedSetIterable iter X.env x = pure x := by intro _; rfl) :
    QS X ρ (.Assign [.Name x pos'] (.ListComp elt [⟨tg, iter, ifs, 0⟩] scope pos) spos) (tAsg (tLc wi g tt te (own.map (·.2))) (gName i)) (aAsgF (aLc ai ag at' ae (own.map (·.2))) i) :=
  qs_setLcG i (fun h e => by subst e; exact rd_asgF h) hN hi ok hg ht he hsub s0 hy hyl hsw hc hs
theorem q_comp {elt iter : Expr} {ifs : List Expr} {scope : Scope} {own : List (Str × Nat)} {wi : TI} {ai : AI} {g : TG} {ag : AG} {is : List Nat} {tt : TT} {at' : AT} (hN : X.N.Nodup) (hi : QI X ρ tg iter wi ai) (ok : BlkOk X.N X.env.scope scope own)
    (hg : ∀ (s : Shared) (H : Hp) (C : Addr) (cl : List (Str × Addr)) (fp : List Addr), QG (X.blk s H scope (compEnvC scope cl C X.env) fp) ρ tg g ag is) (ht : ∀ (s : Shared) (H : Hp) (C : Addr) (cl : List (Str × Addr)) (fp : List Addr), QTs (X.blk s H scope (compEnvC scope cl C X.env) fp) ρ ifs tt at')
    (he : ∀ (s : Shared) (H : Hp) (C : Addr) (cl : List (Str × Addr)) (fp : List Addr), QE (X.blk s H scope (compEnvC scope cl C X.env) fp) ρ elt te ae) (s0 : Shared) (hsub : ∀ j ∈ is, j ∈ own.map (·.2) := by decide) (hc : X.calm = true := by rfl) (hs : ∀ x, foldedSetIterable iter X.env x = pure x := by intro _; rfl) :
    QE X ρ (.ListComp elt [⟨tg, iter, ifs, 0⟩] scope pos) (tLc wi g tt te (own.map (·.2))) (aLc ai ag at' ae (own.map (·.2))) := q_lc own rfl hN hi ok hg ht he hsub s0 hc hs
def aPar (aa : AA) (i j : Nat) (A : AEnds) (Γ : Sl) (M : Mem) : Prop := aa Γ M fun ds Γ1 M1 => match ds with
  | [d, e] => A.nx ((Γ1.set i (.dat d)).set j (.dat e)) M1
  | _ => False
theorem qs_par {y : Str} {tr : TA} {ar : AA} {px py pt spos : Pos} {kt k2 pt2} (i j : Nat) (hN : X.N.Nodup) (ha : QA X ρ [a, b] tr ar) (hi : X.N[i]? = some x := by rfl) (hj : X.N[j]? = some y := by rfl) (hij : i ≠ j := by decide)
    (hx : X.env.scope.names.lookup x = some .local := by rfl) (hy : X.env.scope.names.lookup y = some .local := by rfl) (hw : swappedStores [.Tuple [.Name x px, .Name y py] kt pt] (.Tuple [a, b] k2 pt2) X.env = pure (some [x, y]) := by rfl)
    (hs : swapsWithSole [.Tuple [.Name x px, .Name y py] kt pt] (.Tuple [a, b] k2 pt2) spos.line X.env = pure false := by rfl) (hc : X.calm = true := by rfl) : QS X ρ (.Assign [.Tuple [.Name x px, .Name y py] kt pt] (.Tuple [a, b] k2 pt2) spos) (tPar i j tr) (aPar ar i j) :=
  ⟨ps_par hc hN hi hj hij hx hy ha.pe hw hs, fun B σ H G Γ M A E k h s => ha.rd B σ H G Γ M _ _ k h fun vs H1 G1 Γ1 M1 ds k1 e1 rl h1 => by
    split at h1
    · rename_i d e
      obtain ⟨v, r, rfl, rv, rn⟩ := repL_cons.mp rl
      obtain ⟨u, r', rfl, ru, rn'⟩ := repL_cons.mp rn
      have := repL_nil.mp rn'; subst this
      exact ⟨v, u, rfl, s.nx _ H1 G1 _ M1 ((k1.setD rv).setD ru) h1⟩
    · exact h1.elim⟩
def aParO (aa ab : AE) (i j : Nat) (A : AEnds) (Γ : Sl) (M : Mem) : Prop := aa Γ M fun r Γ1 M1 => frz r Γ1 fun d Γ2 => ab Γ2 M1 fun r2 Γ3 M3 => match r2 with
  | .tmp c => A.nx ((Γ3.set i (.dat d)).set j (.own c)) M3
  | _ => False
def aI3 (g : Int → Int → Int → Int) (aa : AA) (Γ : Sl) (M : Mem) (Q : Ret → Sl → Mem → Prop) : Prop := aa Γ M fun ds Γ1 M1 => match ds with
  | [.int i, .int j, .int l] => Q (.dat (.int (g i j l))) Γ1 M1
  | _ => False
end
section
variable {P : Program} {w : World} {K : PySem.W.Frag} {mg : Str → Option Value} {base : Heap}
def SLaw (S : List Int → Prop) : ASp := fun ds M Q => ∃ ns : List Int, ds = [.scr (ns.map .int)] ∧ M = [] ∧ S ns ∧ ∀ M', Q (.dat (.bl true)) M'
theorem ar_law (S : List Int → Prop) : Ar 1 (SLaw S) := fun _ _ _ ⟨_, e, _⟩ => by rw [e]; rfl
end
end Gw

namespace Gw
open PySem L2
variable {ρ : Ent}
theorem hu_big {k : Nat} {A : Around} (r : Room k A) : A.units + 100 < cLine := by have := r.un; omega
structure Cal (P : Program) (w : World) (K : PySem.W.Frag) (mg : Str → Option Value) (base : Heap) (x : Str) (ps : List Str) (k : Nat) (S : ASp) : Prop where
  ex : ∃ f fd, FnG P w K mg base CX0 k f fd ps (spA K ps.length S) ∧ mg x = some (.ref f) ∧ PySem.W.keepIn K (.ref f) = true ∧ Binds K fd ps [] ∧ Ar ps.length S
structure KCal (P : Program) (w : World) (K : PySem.W.Frag) (mg : Str → Option Value) (base : Heap) (x : Str) (ps : List Str) (k : Nat) (S : ASp) : Prop where
  ex : ∃ f fd, FnG P w K mg base CX0 k f fd ps (spA K ps.length S) ∧ mg x = some (.ref f) ∧ PySem.W.keepIn K (.ref f) = true ∧
    (∀ (s : Shared) (ws : List Value), K.In s.heap → ws.length = ps.length → BindsTo s fd ⟨[], ps.zip ws⟩ (ps.zip ws)) ∧ Ar ps.length S
section
variable {X : Cx} {P : Program} {w : World} {K : PySem.W.Frag} {mg : Str → Option Value} {base : Heap} {k n : Nat} {ps : List Str} {S : ASp} {x : Str} {p pos : Pos} {a : Expr} {es : List Expr} {tr : TA} {ar : AA}
structure At (X : Cx) (P : Program) (w : World) (K : PySem.W.Frag) (mg : Str → Option Value) (base : Heap) : Prop where
  prog : X.prog = P
  w : X.w = w
  K : X.K = K
  mg : X.mg = mg
  base : X.base = base
theorem q_callC (C : Cal P w K mg base x ps k S) (hr : Room k X.A) (gd : X.A.guards = some []) (ha : QA X ρ (a :: es) tr ar) (hX : At X P w K mg base := by exact ⟨rfl, rfl, rfl, rfl, rfl⟩) (hg : Gl X x := by rfl) (hdb : (x == ("__debug__" : Str)) = false := by decide)
    (he : starEach (a :: es) X.env = (false, eval a X.env) :: starEach es X.env := by rfl) (hpl : (backTo pos (starEach es X.env)).any (·.1) = false := by rfl) :
    QE X ρ (.Call (.Name x p) (a :: es) [] pos) (tCall (spA K ps.length S) [] E0 tr) (aCall S ar) := by
  obtain ⟨f, fd, F, hm, hk, hb, hn⟩ := C.ex
  obtain ⟨h1, h2, h3, h4, h5⟩ := hX
  subst h1 h2 h3 h4 h5
  exact q_call F hr gd hm hk hb hn ha hg hdb he hpl
end
section
variable {X : Cx} {a : Expr} {ta : TE} {aa : AE} {K : PySem.W.Frag} {B : Ent} {σ : St} {H G H1 G1 : Hp} {Γ Γ1 : Sl} {M M1 : Mem}
theorem Ok.share {p : Addr} {c : Cell} (k : Ok K ρ B σ H G Γ M) (hb : B.H p = none) (hc : Cel K H G p c) (hm : p ∉ dom M) (hn : ¬ owned σ Γ p) : Ok K ρ B σ H G Γ ((p, c) :: M) := by
  refine ⟨⟨k.st.g, k.st.fr, k.st.gn, fun x hx => ?_, k.st.nn⟩, k.ex, List.nodup_cons.mpr ⟨hm, k.nd⟩, fun x cx hx => ?_, k.dat, fun i ci h => ?_, k.dis, k.len, k.pb⟩
  · rcases List.mem_cons.mp hx with e | e
    · exact .inr (by rw [e]; exact hb)
    · exact k.st.mn x e
  · rcases List.mem_cons.mp hx with e | e
    · cases e; exact hc
    · exact k.ms x cx e
  · obtain ⟨q, h1, h2, h3, h4⟩ := k.own i ci h
    refine ⟨q, h1, h2, fun z => ?_, h4⟩
    rcases List.mem_cons.mp z with e | e
    · exact hn ⟨i, ci, h, by rw [show p = q from e.symm]; exact h1⟩
    · exact h3 e
def aSh (aa : AE) (Γ : Sl) (M : Mem) (Q : Ret → Sl → Mem → Prop) : Prop := aa Γ M fun r Γ1 M1 => match r with
  | .tmp c => ∀ p, p ∉ dom M1 → Q (.dat (.ref p)) Γ1 ((p, c) :: M1)
  | _ => False
theorem rd_sh (ha : RdE K ρ ta aa) : RdE K ρ ta (aSh aa) := fun B σ H G Γ M Q R k h q => ha B σ H G Γ M _ _ k h fun v H1 G1 Γ1 M1 r k1 e1 rr h1 => by
  split at h1
  · rename_i c
    obtain ⟨p, rfl, h0, hb, hc, hm, hn⟩ := rr
    refine q _ H1 G1 Γ1 _ (.dat (.ref p)) (k1.share hb hc hm hn) ⟨e1.g, fun x o hx g m n => ?_, e1.nn⟩ (by simp only [RepR, Rep]) (h1 p hm)
    obtain ⟨b1, b2, b3, b4⟩ := e1.tmp x o hx g m n
    refine ⟨b1, b2, fun z => ?_, b4⟩
    rcases List.mem_cons.mp z with e | e
    · subst e; rw [h0] at hx; cases hx
    · exact b3 e
  · exact h1.elim
theorem q_sh (h : QE X ρ a ta aa) : QE X ρ a ta (aSh aa) := ⟨h.pe, rd_sh h.rd⟩
def aShV (i : Nat) (Γ : Sl) (M : Mem) (Q : Ret → Sl → Mem → Prop) : Prop := match Γ[i]? with
  | some (.own c) => ∀ p, p ∉ dom M → Q (.dat (.ref p)) (Γ.set i (.dat (.ref p))) ((p, c) :: M)
  | _ => False
end
section
variable {X : Cx} {K : PySem.W.Frag}
def aEqS (f : Bool → Bool) (x : Ret) (y : Ret) (Γ : Sl) (M : Mem) (Q : Ret → Sl → Mem → Prop) : Prop := match x, y with
  | .dat (.str s), .dat (.str t) => Q (.dat (.bl (f (decide (s = t))))) Γ M
  | _, _ => False
theorem rd_eqS : RdO K ρ rEq (aEqS id) := by
  intro B σ H H1 H2 G Γ M rx ry x y Q R k r1 r2 h q
  unfold aEqS at h
  split at h
  · rename_i s t
    have e1 : x = .str s := by have := r1; simp only [RepR, Rep] at this; exact this
    have e2 : y = .str t := by have := r2; simp only [RepR, Rep] at this; exact this
    subst e1; subst e2
    refine ⟨rfl, q _ H G Γ M (.dat (.bl _)) k .refl ?_ h⟩
    simp only [RepR, Rep, id, V.str.injEq]
  · exact h.elim
theorem rd_neS : RdO K ρ rNe (aEqS not) := by
  intro B σ H H1 H2 G Γ M rx ry x y Q R k r1 r2 h q
  unfold aEqS at h
  split at h
  · rename_i s t
    have e1 : x = .str s := by have := r1; simp only [RepR, Rep] at this; exact this
    have e2 : y = .str t := by have := r2; simp only [RepR, Rep] at this; exact this
    subst e1; subst e2
    refine ⟨rfl, q _ H G Γ M (.dat (.bl _)) k .refl ?_ h⟩
    simp only [RepR, Rep, V.str.injEq]
  · exact h.elim
theorem c_eqS : CmpR X ρ .Eq rEq (aEqS id) := ⟨op_eq, rd_eqS⟩
theorem c_neS : CmpR X ρ .NotEq rNe (aEqS not) := ⟨op_ne, rd_neS⟩
end
end Gw

namespace Gw
open PySem L2
variable {ρ : Ent}
theorem rngD_cons (lo : Int) (n : Nat) : rngD lo (n + 1) = .int lo :: rngD (lo + 1) n := by
  unfold rngD
  rw [List.range_succ_eq_map, List.map_cons, List.map_map]
  congr 1
  · simp
  · apply List.map_congr_left
    intro i _
    simp only [Function.comp_apply]
    congr 1
    omega
theorem forR {g : AG} {body : AS} {A : AEnds} (I : Int → Nat → Sl → Mem → Prop) (hn : ∀ i Γ M, I i 0 Γ M → A.nx Γ M)
    (hc : ∀ i n Γ M (K : Sl → Mem → Prop), I i (n + 1) Γ M → (∀ Γ' M', I (i + 1) n Γ' M' → K Γ' M') → g (.int i) Γ fun Γ1 => body { A with nx := K, ct := K, bk := A.nx } Γ1 M) : ∀ (n : Nat) {lo : Int} {Γ : Sl} {M : Mem}, I lo n Γ M → aForL g body (rngD lo n) A Γ M
  | 0, lo, Γ, M, h => hn lo Γ M h
  | n + 1, lo, Γ, M, h => by rw [rngD_cons]; exact hc lo n Γ M _ h fun Γ' M' h' => forR I hn hc n h'
theorem lcR {g : AG} {tt : AT} {ae : AE} {vs : List Nat} {k : List D → Sl → Mem → Prop} (I : Int → Nat → List D → Sl → Mem → Prop) (hn : ∀ i acc Γ M, I i 0 acc Γ M → k acc Γ M)
    (hc : ∀ i n acc Γ M (K : List D → Sl → Mem → Prop), I i (n + 1) acc Γ M → (∀ acc' Γ' M', I (i + 1) n acc' Γ' M' → K acc' Γ' M') → g (.int i) Γ fun Γ1 => tt Γ1 M fun b Γ2 M2 => if b = true then ae Γ2 M2 fun r Γ3 M3 => frz r Γ3 fun y Γ4 => acc.length < sizeLine ∧ K (acc ++ [y]) (wipeS Γ4 vs) M3
      else K acc (wipeS Γ2 vs) M2) : ∀ (n : Nat) {lo : Int} (acc : List D) {Γ : Sl} {M : Mem}, I lo n acc Γ M → aLcL g tt ae vs k (rngD lo n) acc Γ M
  | 0, lo, acc, Γ, M, h => hn lo acc Γ M h
  | n + 1, lo, acc, Γ, M, h => by rw [rngD_cons]; exact hc lo n acc Γ M _ h fun acc' Γ' M' h' => lcR I hn hc n acc' h'
theorem plainL_ints (ns : List Int) : plainL (ns.map .int) = true := by
  induction ns with
  | nil => rfl
  | cons n ns ih => rw [List.map_cons, plainL, plain, ih]; rfl
theorem toPyL_ints (ns : List Int) : toPyL (ns.map .int) = ns.map .int := by
  induction ns with
  | nil => rfl
  | cons n ns ih => rw [List.map_cons, toPyL, toPy, ih]; rfl
theorem lay_ints (ns : List Int) : PyData.canLayAll0 (ns.map .int) = true := by
  induction ns with
  | nil => simp [PyData.canLayAll0]
  | cons n ns ih => rw [List.map_cons, PyData.canLayAll0, PyData.canLay0, ih]; rfl
theorem depth_ints (ns : List Int) : PyData.depthAll (ns.map .int) = 0 := by
  induction ns with
  | nil => simp [PyData.depthAll]
  | cons n ns ih => rw [List.map_cons, PyData.depthAll, PyData.depth, ih]; rfl
theorem cmp_ints_l (ns : List Int) : cmpOk (.lst (ns.map .int)) = true := by
  simp only [cmpOk, plain, toPy, SeqAt.shaped, PyData.canLay0, PyData.depth, plainL_ints, toPyL_ints, lay_ints, depth_ints]; decide
theorem cmp_ints_t (ns : List Int) : cmpOk (.tup (ns.map .int)) = true := by
  simp only [cmpOk, plain, toPy, SeqAt.shaped, PyData.canLay0, PyData.depth, plainL_ints, toPyL_ints, lay_ints, depth_ints]; decide
theorem cmp_int (i : Int) : cmpOk (.int i) = true := by simp [cmpOk, plain, toPy, SeqAt.shaped, PyData.canLay0, PyData.depth]
theorem cmp_nil_l : cmpOk (.lst []) = true := cmp_ints_l []
theorem cmp_nil_t : cmpOk (.tup []) = true := cmp_ints_t []
theorem eqD_int (i j : Int) : eqD (.int i) (.int j) = decide (i = j) := by simp [eqD, toPy, PyData.eqv, Bool.beq_eq_decide_eq]
theorem eqD_ints_l (ns ms : List Int) : eqD (.lst (ns.map .int)) (.lst (ms.map .int)) = decide (ns = ms) := by
  simp only [eqD, toPy, PyData.eqv, toPyL_ints]
  induction ns generalizing ms with
  | nil => cases ms <;> simp [PyData.eqvAll]
  | cons n ns ih => cases ms with
    | nil => simp [PyData.eqvAll]
    | cons m ms => simp [PyData.eqvAll, PyData.eqv, ih, Bool.beq_eq_decide_eq]
theorem eqD_ints_t (ns ms : List Int) : eqD (.tup (ns.map .int)) (.tup (ms.map .int)) = decide (ns = ms) := by
  have := eqD_ints_l ns ms
  simpa only [eqD, toPy, PyData.eqv] using this
theorem ixN_of {n : Nat} {i : Int} (h0 : 0 ≤ i) (h1 : i < n) : ixN n i = some i.toNat := by
  obtain ⟨j, rfl⟩ : ∃ j : Nat, i = (j : Int) := ⟨i.toNat, by omega⟩
  simp only [ixN]
  split <;> first | omega | simp
theorem atI_in {α : Type} {xs : List α} {i : Int} (h0 : 0 ≤ i) (h1 : i < xs.length) : ∃ x, atI xs i = some x ∧ xs[i.toNat]? = some x := by
  unfold atI
  rw [ixN_of h0 h1]
  have : i.toNat < xs.length := by omega
  exact ⟨xs[i.toNat], by simp [this], by simp [this]⟩
end Gw
namespace Gw
theorem size_val : PySem.sizeLine = 16777216 := by decide
end Gw
namespace Gw
open PySem L2
theorem lk_self {a : Addr} {c : Cell} {M : Mem} : List.lookup a ((a, c) :: M) = some c := by rw [List.lookup_cons, beq_self_eq_true]
theorem lk_ne {a b : Addr} {c : Cell} {M : Mem} (h : (b == a) = false) : List.lookup b ((a, c) :: M) = List.lookup b M := by rw [List.lookup_cons, h]
theorem at0 {α : Type} {x : α} {xs : List α} : atI (x :: xs) 0 = some x := by simp [atI, ixN]
theorem at1 {α : Type} {x y : α} {xs : List α} : atI (x :: y :: xs) 1 = some y := by
  unfold atI
  rw [ixN_of (by omega) (by simp only [List.length_cons]; omega)]; rfl
theorem at2 {α : Type} {x y z : α} {xs : List α} : atI (x :: y :: z :: xs) 2 = some z := by
  unfold atI
  rw [ixN_of (by omega) (by simp only [List.length_cons]; omega)]; rfl
theorem at3 {α : Type} {x y z u : α} {xs : List α} : atI (x :: y :: z :: u :: xs) 3 = some u := by
  unfold atI
  rw [ixN_of (by omega) (by simp only [List.length_cons]; omega)]; rfl
theorem at4 {α : Type} {x y z u v : α} {xs : List α} : atI (x :: y :: z :: u :: v :: xs) 4 = some v := by
  unfold atI
  rw [ixN_of (by omega) (by simp only [List.length_cons]; omega)]; rfl
theorem ix0 {n : Nat} : ixN (n + 1) 0 = some 0 := ixN_of (by omega) (by omega)
theorem ix1 {n : Nat} : ixN (n + 2) 1 = some 1 := ixN_of (by omega) (by omega)
theorem ix2 {n : Nat} : ixN (n + 3) 2 = some 2 := ixN_of (by omega) (by omega)
theorem sx0 {n : Nat} : seqIndex? 0 (n + 1) = some 0 := by simp [seqIndex?]
theorem mput_self {a : Addr} {c c' : Cell} {M : Mem} (h : a ∉ dom M) : mput ((a, c) :: M) a c' = (a, c') :: M := by
  unfold mput
  rw [List.map_cons]
  congr 1
  · simp
  · conv => rhs; rw [← List.map_id M]
    apply List.map_congr_left
    intro x hx
    have : x.1 ≠ a := fun e => h (e ▸ List.mem_map.mpr ⟨x, hx, rfl⟩)
    simp [this]
end Gw
namespace Gw
theorem ends_d {Q : Ret → Mem → Prop} {d : D} {Γ : Sl} {M : Mem} : (endsOf Q).rt (.dat d) Γ M = Q (.dat d) M := rfl
theorem ends_t {Q : Ret → Mem → Prop} {c : Cell} {Γ : Sl} {M : Mem} : (endsOf Q).rt (.tmp c) Γ M = Q (.tmp c) M := rfl
theorem ends_n {Q : Ret → Mem → Prop} {Γ : Sl} {M : Mem} : (endsOf Q).nx Γ M = Q (.dat .non) M := rfl
end Gw
namespace Gw
open PySem L2
theorem eqD_l00 : eqD (.lst []) (.lst []) = true := by simp [eqD, toPy, toPyL, PyData.eqv, PyData.eqvAll]
theorem eqD_l10 {d : D} {ds : List D} : eqD (.lst (d :: ds)) (.lst []) = false := by simp [eqD, toPy, toPyL, PyData.eqv, PyData.eqvAll]
theorem eqD_t00 : eqD (.tup []) (.tup []) = true := by simp [eqD, toPy, toPyL, PyData.eqv, PyData.eqvAll]
theorem eqD_t10 {d : D} {ds : List D} : eqD (.tup (d :: ds)) (.tup []) = false := by simp [eqD, toPy, toPyL, PyData.eqv, PyData.eqvAll]
theorem fmod_lo {a b : Int} (h : 0 < b) : 0 ≤ a.fmod b := Int.fmod_nonneg_of_pos a h
theorem fmod_hi {a b : Int} (h : 0 < b) : a.fmod b < b := Int.fmod_lt_of_pos a h
theorem log2_le {x k : Nat} (h : x < 2 ^ k) (hk : 0 < k) : x.log2 < k := by
  rcases Nat.eq_zero_or_pos x with z | z
  · rw [z]; simpa using hk
  · exact (Nat.log2_lt (by omega)).mpr h
theorem div_ok {i j : Int} (h0 : 0 < j) (h1 : j ≤ 4294967295) : CDivW i j := ⟨h0, by
  have := log2_le (x := j.natAbs) (k := 32) (by omega) (by decide)
  omega⟩
theorem mul_l {i j : Int} (h0 : -18446744073709551616 < i) (h1 : i < 18446744073709551616) : CM i j := .inl (.inl ⟨by omega, by omega⟩)
theorem mul_r {i j : Int} (h0 : -18446744073709551616 < j) (h1 : j < 18446744073709551616) : CM i j := .inl (.inr ⟨by omega, by omega⟩)
end Gw
namespace Gw
open PySem L2
end Gw

namespace Gw
open PySem L2
variable {ρ : Ent}
section
variable {X : Cx} {a b c : Expr} {ta tb tc te : TE} {aa ab ac ae : AE} {pos : Pos} {K : PySem.W.Frag} {i : Nat} {x : Str} {pos' : Pos} {B : Ent} {σ : St} {H G H1 G1 H2 G2 : Hp} {Γ Γ1 Γ2 : Sl} {M M1 M2 : Mem}
def aPar3 (aa : AA) (i j l : Nat) (A : AEnds) (Γ : Sl) (M : Mem) : Prop := aa Γ M fun ds Γ1 M1 => match ds with
  | [d, e, f] => A.nx (((Γ1.set i (.dat d)).set j (.dat e)).set l (.dat f)) M1
  | _ => False
theorem qs_par3 {y z : Str} {tr : TA} {ar : AA} {px py pz pt spos : Pos} {kt k2 pt2} (i j l : Nat) (hN : X.N.Nodup) (ha : QA X ρ [a, b, c] tr ar) (hi : X.N[i]? = some x := by rfl) (hj : X.N[j]? = some y := by rfl) (hl : X.N[l]? = some z := by rfl) (hij : i ≠ j := by decide) (hil : i ≠ l := by decide) (hjl : j ≠ l := by decide)
    (hx : X.env.scope.names.lookup x = some .local := by rfl) (hy : X.env.scope.names.lookup y = some .local := by rfl) (hz : X.env.scope.names.lookup z = some .local := by rfl) (hw : swappedStores [.Tuple [.Name x px, .Name y py, .Name z pz] kt pt] (.Tuple [a, b, c] k2 pt2) X.env = pure (some [x, y, z]) := by rfl)
    (hs : swapsWithSole [.Tuple [.Name x px, .Name y py, .Name z pz] kt pt] (.Tuple [a, b, c] k2 pt2) spos.line X.env = pure false := by rfl) (hc : X.calm = true := by rfl) :
    QS X ρ (.Assign [.Tuple [.Name x px, .Name y py, .Name z pz] kt pt] (.Tuple [a, b, c] k2 pt2) spos) (tPar3 i j l tr) (aPar3 ar i j l) :=
  ⟨ps_par3 hc hN hi hj hl hij hil hjl hx hy hz ha.pe hw hs, fun B σ H G Γ M A E k h s => ha.rd B σ H G Γ M _ _ k h fun vs H1 G1 Γ1 M1 ds k1 e1 rl h1 => by
    split at h1
    · rename_i d e f
      obtain ⟨v, r, rfl, rv, rn⟩ := repL_cons.mp rl
      obtain ⟨u, r', rfl, ru, rn'⟩ := repL_cons.mp rn
      obtain ⟨t, r'', rfl, rt, rn''⟩ := repL_cons.mp rn'
      have := repL_nil.mp rn''; subst this
      exact ⟨v, u, t, rfl, s.nx _ H1 G1 _ M1 (((k1.setD rv).setD ru).setD rt) h1⟩
    · exact h1.elim⟩
def aAugC (i : Nat) (C : Int → Int → Prop) (f : Int → Int → Int) (aa : AE) (A : AEnds) (Γ : Sl) (M : Mem) : Prop := match Γ[i]? with
  | some (.dat (.int n)) => aa Γ M fun r Γ1 M1 => match r with
    | .dat (.int m) => C n m ∧ A.nx (Γ1.set i (.dat (.int (f n m)))) M1
    | _ => False
  | _ => False
def CPowW (i j : Int) : Prop := 0 ≤ j ∧ (Builtin.Int.intBits i : Int) * j ≤ 2 ^ 27
theorem op_powW : OpR X (binaryOp .Pow) (rI CPowW fun i j => .int (i ^ j.toNat)) := opI fun _ _ _ _ _ _ _ hc q => PyProof.Rows.pow_int hc.1 hc.2 q
theorem q_powW (ha : QE X ρ a ta aa) (hb : QE X ρ b tb ab) : QE X ρ (.BinOp a .Pow b pos) (tOp (rI CPowW fun i j => .int (i ^ j.toNat)) ta tb) (aOp (aIC CPowW fun i j => .int (i ^ j.toNat)) aa ab) := q_op op_powW (rd_IC fun _ _ _ => by rw [Rep]) ha hb
structure Glob (K : PySem.W.Frag) (mg : Str → Option Value) (x : Str) (d : D) : Prop where
  ex : ∃ v u, mg x = some u ∧ RelV v u ∧ ∀ G, Rep K G d v
def tAny (K : PySem.W.Frag) (d : D) : TE := fun _ H Q => ∀ v, (∀ G, Rep K G d v) → Q v H
theorem q_glob {mg : Str → Option Value} {d : D} (h : Glob K mg x d) (hg : Gl X x := by rfl) (hmg : X.mg = mg := by rfl) (hK : X.K = K := by rfl) (hd : (x == ("__debug__" : Str)) = false := by decide) : QE X ρ (.Name x pos) (tAny K d) (aC d) := by
  subst hK; subst hmg
  obtain ⟨v, u, hm, r, hr⟩ := h.ex
  refine ⟨⟨fun pins s σ H Q I q => (pe_glob hg hm r hd).run pins s σ H Q I (q v hr)⟩, fun B σ H G Γ M Q R k h' q => fun v hv => q v H G Γ M (.dat d) k .refl (hv G) h'⟩
theorem glob_tup {mg : Str → Option Value} {p : Addr} {ds : List D} {o : Obj} {its : Array Value} {n : Nat} {xs : List V} (h : mg x = some (.ref p)) (hl : K.lookup p = some o) (hc : o.cls = .type "tuple") (hdd : o.dict = none) (hd : o.data = .seq its n) (hz : its.size ≤ sizeLine) (hv : Vals xs its.toList) (hr : ∀ G, RepL K G ds xs) :
    Glob K mg x (.tup ds) := ⟨.ref p, _, h, rfl, fun G => rep_tupN.mpr ⟨p, xs, rfl, ⟨.inr ⟨o, its, n, hl, hc, hd, hz, hv⟩, .inr ⟨o, hl, hdd⟩⟩, hr G⟩⟩
def permL {α : Type} (π : List Nat) (xs : List α) : List α := π.filterMap (xs[·]?)
theorem RepL.perm {ds : List D} {vs : List V} (π : List Nat) (h : RepL K G ds vs) : RepL K G (permL π ds) (permL π vs) := by
  induction π with
  | nil => exact repL_nil.mpr rfl
  | cons n π ih =>
    unfold permL at *
    cases e : ds[n]? with
    | none =>
      have e2 : vs[n]? = none := by rw [List.getElem?_eq_none_iff] at *; rw [h.length]; exact e
      rw [List.filterMap_cons, List.filterMap_cons, e, e2]; exact ih
    | some d =>
      obtain ⟨v, e2, r⟩ := h.get e
      rw [List.filterMap_cons, List.filterMap_cons, e, e2]; exact repL_cons.mpr ⟨v, _, rfl, r, ih⟩
structure PCal (P : Program) (w : World) (K : PySem.W.Frag) (mg : Str → Option Value) (base : Heap) (x : Str) (ps : List Str) (m : Nat) (ks : List Str) (π : List Nat) (k : Nat) (S : ASp) : Prop where
  ex : ∃ f fd, FnG P w K mg base CX0 k f fd ps (spA K ps.length S) ∧ mg x = some (.ref f) ∧ PySem.W.keepIn K (.ref f) = true ∧
    (∀ (s : Shared) (us ws : List Value), K.In s.heap → us.length = m → ws.length = ks.length → BindsTo s fd ⟨us, ks.zip ws⟩ (ps.zip (permL π (us ++ ws)))) ∧ Ar ps.length S
def aCallP (S : ASp) (m n : Nat) (π : List Nat) (aa ak : AA) (Γ : Sl) (M : Mem) (Q : Ret → Sl → Mem → Prop) : Prop := aa Γ M fun ds Γ1 M1 => ak Γ1 M1 fun es Γ2 M2 => ds.length = m ∧ es.length = n ∧ ap S (permL π (ds ++ es)) M2 (fun r M3 => Q r Γ2 M3) ⟨⟩
section
variable {P : Program} {w : World} {mg : Str → Option Value} {base : Heap} {k n m : Nat} {ps ks : List Str} {π : List Nat} {S : ASp} {p : Pos} {es : List Expr} {tr tk : TA} {ar ak : AA} {kws : List Keyword}
end
end
end Gw

namespace Gw
open PySem L2
variable {ρ : Ent}
mutual
def wid : D → Nat
  | .non => 4
  | .bl _ => 5
  | .int i => i.natAbs.log2 + 2
  | .str x => (reprText x).length
  | .tup ds => widL ds + 3
  | .lst ds => widL ds + 3
  | .scr ds => widL ds + 3
  | .ref _ => 4
  | .dct _ _ => 4
  | .exc _ _ _ => 4
  | .dcT _ _ => 4
  | .dcN _ _ => 4
  | .clo _ _ => 4
def widL : List D → Nat
  | [] => 0
  | d :: ds => wid d + 2 + widL ds
end
mutual
theorem shown_wid : ∀ d : D, (toPy d).shown.length ≤ wid d
  | .non => by rw [toPy, PyData.shown, wid]; decide
  | .bl b => by rw [toPy, PyData.shown, wid]; cases b <;> decide
  | .int i => by
    rw [toPy, PyData.shown, wid]
    have h := int_text_length_le (a := i) (k := i.natAbs.log2 + 1) (by omega) (by omega)
    have e : (Str.ofString (toString i)).length = (toString i).length := by
      rw [Str.ofString_eq_toList]
      show ((toString i).toList.map Char.toNat).toArray.size = _
      rw [List.size_toArray, List.length_map]; exact String.length_toList
    rw [e]; exact h
  | .str x => by rw [toPy, PyData.shown, wid]; exact Nat.le_refl _
  | .ref _ => by rw [toPy, PyData.shown, wid]; decide
  | .dct _ _ => by rw [toPy, PyData.shown, wid]; decide
  | .exc _ _ _ => by rw [toPy, PyData.shown, wid]; decide
  | .dcT _ _ => by rw [toPy, PyData.shown, wid]; decide
  | .dcN _ _ => by rw [toPy, PyData.shown, wid]; decide
  | .clo _ _ => by rw [toPy, PyData.shown, wid]; decide
  | .tup ds => by
    rw [toPy, PyData.shown, wid]
    have := tupleText_len_le (PyData.shownAll (toPyL ds))
    have := shownL_wid ds
    omega
  | .lst ds => by
    rw [toPy, PyData.shown, wid]
    have := listText_len_le (PyData.shownAll (toPyL ds))
    have := shownL_wid ds
    omega
  | .scr ds => by
    rw [toPy, PyData.shown, wid]
    have := listText_len_le (PyData.shownAll (toPyL ds))
    have := shownL_wid ds
    omega
theorem shownL_wid : ∀ ds : List D, ((PyData.shownAll (toPyL ds)).map (·.length)).sum + 2 * (PyData.shownAll (toPyL ds)).length ≤ widL ds
  | [] => by rw [toPyL, PyData.shownAll, widL]; decide
  | d :: ds => by
    rw [toPyL, PyData.shownAll, widL, List.map_cons, List.sum_cons, List.length_cons]
    have := shown_wid d
    have := shownL_wid ds
    omega
end
mutual
def fine : D → Bool
  | .int i => decide (i.natAbs.log2 < 1920)
  | .tup ds => fineL ds
  | .lst ds => fineL ds
  | .scr ds => fineL ds
  | .ref _ => false
  | .dct _ _ => false
  | .exc _ _ _ => false
  | .dcT _ _ => false
  | .dcN _ _ => false
  | .clo _ _ => false
  | .non => true
  | .bl _ => true
  | .str _ => true
def fineL : List D → Bool
  | [] => true
  | d :: ds => fine d && fineL ds
end
mutual
theorem fine_plain : ∀ {d : D}, fine d = true → plain d = true ∧ (toPy d).showable = true
  | .int i, h => by rw [fine] at h; rw [plain, toPy, PyData.showable]; exact ⟨rfl, h⟩
  | .tup ds, h => by rw [fine] at h; rw [plain, toPy, PyData.showable]; exact fineL_plain h
  | .lst ds, h => by rw [fine] at h; rw [plain, toPy, PyData.showable]; exact fineL_plain h
  | .scr ds, h => by rw [fine] at h; rw [plain, toPy, PyData.showable]; exact fineL_plain h
  | .ref _, h => by rw [fine] at h; cases h
  | .dct _ _, h => by rw [fine] at h; cases h
  | .exc _ _ _, h => by rw [fine] at h; cases h
  | .dcT _ _, h => by rw [fine] at h; cases h
  | .dcN _ _, h => by rw [fine] at h; cases h
  | .clo _ _, h => by rw [fine] at h; cases h
  | .non, _ => by rw [plain, toPy, PyData.showable]; exact ⟨rfl, rfl⟩
  | .bl _, _ => by rw [plain, toPy, PyData.showable]; exact ⟨rfl, rfl⟩
  | .str _, _ => by rw [plain, toPy, PyData.showable]; exact ⟨rfl, rfl⟩
theorem fineL_plain : ∀ {ds : List D}, fineL ds = true → plainL ds = true ∧ PyData.showableAll (toPyL ds) = true
  | [], _ => by rw [plainL, toPyL, PyData.showableAll]; exact ⟨rfl, rfl⟩
  | d :: ds, h => by
    rw [fineL, Bool.and_eq_true] at h
    obtain ⟨a1, a2⟩ := fine_plain h.1
    obtain ⟨b1, b2⟩ := fineL_plain h.2
    rw [plainL, toPyL, PyData.showableAll, a1, a2, b1, b2]; exact ⟨rfl, rfl⟩
end
mutual
def dep : D → Nat
  | .tup ds => depL ds + 1
  | .lst ds => depL ds + 1
  | .scr ds => depL ds + 1
  | .int _ => 0
  | .ref _ => 0
  | .dct _ _ => 0
  | .exc _ _ _ => 0
  | .dcT _ _ => 0
  | .dcN _ _ => 0
  | .clo _ _ => 0
  | .non => 0
  | .bl _ => 0
  | .str _ => 0
def depL : List D → Nat
  | [] => 0
  | d :: ds => max (dep d) (depL ds)
end
mutual
theorem dep_py : ∀ d : D, (toPy d).depth = dep d
  | .tup ds => by rw [toPy, PyData.depth, dep, depL_py]
  | .lst ds => by rw [toPy, PyData.depth, dep, depL_py]
  | .scr ds => by rw [toPy, PyData.depth, dep, depL_py]
  | .int _ => by rw [toPy, PyData.depth, dep]
  | .ref _ => by rw [toPy, PyData.depth, dep]
  | .dct _ _ => by rw [toPy, PyData.depth, dep]
  | .exc _ _ _ => by rw [toPy, PyData.depth, dep]
  | .dcT _ _ => by rw [toPy, PyData.depth, dep]
  | .dcN _ _ => by rw [toPy, PyData.depth, dep]
  | .clo _ _ => by rw [toPy, PyData.depth, dep]
  | .non => by rw [toPy, PyData.depth, dep]
  | .bl _ => by rw [toPy, PyData.depth, dep]
  | .str _ => by rw [toPy, PyData.depth, dep]
theorem depL_py : ∀ ds : List D, PyData.depthAll (toPyL ds) = depL ds
  | [] => by rw [toPyL, PyData.depthAll, depL]
  | d :: ds => by rw [toPyL, PyData.depthAll, depL, dep_py, depL_py]
end
theorem sh_of {d : D} (h1 : fine d = true) (h2 : dep d ≤ 64) (h3 : wid d ≤ 16777216) : shOk d = true := by
  obtain ⟨a, b⟩ := fine_plain h1
  have := shown_wid d
  simp only [shOk, a, b, dep_py, Bool.true_and, Bool.and_eq_true, decide_eq_true_eq, size_val]
  omega
mutual
def safe : D → Bool
  | .str x => PyData.strOk x
  | .tup ds => safeL ds
  | .lst ds => safeL ds
  | .scr ds => safeL ds
  | .ref _ => false
  | .dct _ _ => false
  | .exc _ _ _ => false
  | .dcT _ _ => false
  | .dcN _ _ => false
  | .clo _ _ => false
  | .int _ => true
  | .non => true
  | .bl _ => true
def safeL : List D → Bool
  | [] => true
  | d :: ds => safe d && safeL ds
end
mutual
theorem safe_lay : ∀ {d : D}, safe d = true → plain d = true ∧ (toPy d).canLay0 = true
  | .int i, _ => by rw [plain, toPy, PyData.canLay0]; exact ⟨rfl, rfl⟩
  | .str x, h => by rw [safe] at h; rw [plain, toPy, PyData.canLay0]; exact ⟨rfl, h⟩
  | .tup ds, h => by rw [safe] at h; rw [plain, toPy, PyData.canLay0]; exact safeL_lay h
  | .lst ds, h => by rw [safe] at h; rw [plain, toPy, PyData.canLay0]; exact safeL_lay h
  | .scr ds, h => by rw [safe] at h; rw [plain, toPy, PyData.canLay0]; exact safeL_lay h
  | .ref _, h => by rw [safe] at h; cases h
  | .dct _ _, h => by rw [safe] at h; cases h
  | .exc _ _ _, h => by rw [safe] at h; cases h
  | .dcT _ _, h => by rw [safe] at h; cases h
  | .dcN _ _, h => by rw [safe] at h; cases h
  | .clo _ _, h => by rw [safe] at h; cases h
  | .non, _ => by rw [plain, toPy, PyData.canLay0]; exact ⟨rfl, rfl⟩
  | .bl _, _ => by rw [plain, toPy, PyData.canLay0]; exact ⟨rfl, rfl⟩
theorem safeL_lay : ∀ {ds : List D}, safeL ds = true → plainL ds = true ∧ PyData.canLayAll0 (toPyL ds) = true
  | [], _ => by rw [plainL, toPyL, PyData.canLayAll0]; exact ⟨rfl, rfl⟩
  | d :: ds, h => by
    rw [safeL, Bool.and_eq_true] at h
    obtain ⟨a1, a2⟩ := safe_lay h.1
    obtain ⟨b1, b2⟩ := safeL_lay h.2
    rw [plainL, toPyL, PyData.canLayAll0, a1, a2, b1, b2]; exact ⟨rfl, rfl⟩
end
theorem cmp_of {d : D} (h1 : safe d = true) (h2 : dep d ≤ 64) : cmpOk d = true := by
  obtain ⟨a, b⟩ := safe_lay h1
  simp only [cmpOk, SeqAt.shaped, a, b, dep_py, Bool.true_and, decide_eq_true_eq]
  exact h2
theorem ok_app {x y : Str} (h1 : PyData.strOk x = true) (h2 : PyData.strOk y = true) : PyData.strOk (x ++ y) = true := by
  unfold PyData.strOk at *
  show (x.cps ++ y.cps).all _ = true
  rw [Array.all_append, h1, h2]; rfl
theorem ok_str (s : String) : PyData.strOk (Str.ofString s) = true := by
  unfold PyData.strOk
  rw [Str.ofString_eq_toList, List.all_toArray, List.all_eq_true]
  intro c hc
  obtain ⟨ch, _, rfl⟩ := List.mem_map.mp hc
  have h := ch.valid
  simp only [decide_eq_true_eq]
  show ch.val.toNat < 1114112
  rcases h with h | h
  · have : ch.val.toNat < 0xd800 := h
    omega
  · exact h.2
theorem ok_join {sep : Str} (hs : PyData.strOk sep = true) : ∀ ts : List Str, (∀ t ∈ ts, PyData.strOk t = true) → PyData.strOk (Str.join sep ts) = true
  | [], _ => by simp [Str.join, Str.empty, PyData.strOk]
  | [t], h => h t List.mem_cons_self
  | t :: u :: r, h => by
    show PyData.strOk (t ++ sep ++ Str.join sep (u :: r)) = true
    exact ok_app (ok_app (h t List.mem_cons_self) hs) (ok_join hs (u :: r) fun x hx => h x (List.mem_cons_of_mem _ hx))
theorem ok_from : ∀ (ts : List Str) (k : Nat) (acc : Str), PyData.strOk acc = true → (∀ t ∈ ts, PyData.strOk t = true) → PyData.strOk (textFrom k acc ts) = true
  | [], _, _, h, _ => h
  | t :: r, k, acc, h, hr => by
    show PyData.strOk (textFrom (k + 1) (acc ++ (if k > 0 then ", " else "" : String) ++ t) r) = true
    exact ok_from r (k + 1) _ (ok_app (ok_app h (ok_str _)) (hr t List.mem_cons_self)) fun x hx => hr x (List.mem_cons_of_mem _ hx)
mutual
def safeS : D → Bool
  | .str x => PyData.strOk (reprText x)
  | .tup ds => safeSL ds
  | .lst ds => safeSL ds
  | .scr ds => safeSL ds
  | .ref _ => true
  | .dct _ _ => true
  | .exc _ _ _ => true
  | .dcT _ _ => true
  | .dcN _ _ => true
  | .clo _ _ => true
  | .int _ => true
  | .non => true
  | .bl _ => true
def safeSL : List D → Bool
  | [] => true
  | d :: ds => safeS d && safeSL ds
end
mutual
theorem ok_shown : ∀ {d : D}, safeS d = true → PyData.strOk (toPy d).shown = true
  | .non, _ => by rw [toPy, PyData.shown]; exact ok_str _
  | .ref _, _ => by rw [toPy, PyData.shown]; exact ok_str _
  | .dct _ _, _ => by rw [toPy, PyData.shown]; exact ok_str _
  | .exc _ _ _, _ => by rw [toPy, PyData.shown]; exact ok_str _
  | .dcT _ _, _ => by rw [toPy, PyData.shown]; exact ok_str _
  | .dcN _ _, _ => by rw [toPy, PyData.shown]; exact ok_str _
  | .clo _ _, _ => by rw [toPy, PyData.shown]; exact ok_str _
  | .bl b, _ => by rw [toPy, PyData.shown]; cases b <;> exact ok_str _
  | .int i, _ => by rw [toPy, PyData.shown]; exact ok_str _
  | .str x, h => by rw [safeS] at h; rw [toPy, PyData.shown]; exact h
  | .tup ds, h => by
    rw [safeS] at h; rw [toPy, PyData.shown]
    exact ok_app (ok_app (ok_str _) (ok_join (ok_str _) _ (okL_shown h))) (ok_str _)
  | .lst ds, h => by
    rw [safeS] at h; rw [toPy, PyData.shown]
    exact ok_app (ok_from _ _ _ (ok_str _) (okL_shown h)) (ok_str _)
  | .scr ds, h => by
    rw [safeS] at h; rw [toPy, PyData.shown]
    exact ok_app (ok_from _ _ _ (ok_str _) (okL_shown h)) (ok_str _)
theorem okL_shown : ∀ {ds : List D}, safeSL ds = true → ∀ t ∈ PyData.shownAll (toPyL ds), PyData.strOk t = true
  | [], _, t, h => by rw [toPyL, PyData.shownAll] at h; cases h
  | d :: ds, hs, t, h => by
    rw [safeSL, Bool.and_eq_true] at hs
    rw [toPyL, PyData.shownAll] at h
    rcases List.mem_cons.mp h with e | e
    · rw [e]; exact ok_shown hs.1
    · exact okL_shown hs.2 t e
end
theorem wid_ints {k : Nat} : ∀ {ns : List Int}, (∀ n ∈ ns, n.natAbs < 2 ^ k) → 0 < k → widL (ns.map .int) ≤ ns.length * (k + 4)
  | [], _, _ => by simp [widL]
  | n :: ns, h, hk => by
    rw [List.map_cons, widL, wid, List.length_cons]
    have a := log2_le (h n List.mem_cons_self) hk
    have b := wid_ints (fun x hx => h x (List.mem_cons_of_mem _ hx)) hk (ns := ns)
    rw [Nat.add_mul]; omega
theorem fine_ints {k : Nat} : ∀ {ns : List Int}, (∀ n ∈ ns, n.natAbs < 2 ^ k) → 0 < k → k ≤ 1920 → fineL (ns.map .int) = true
  | [], _, _, _ => by simp [fineL]
  | n :: ns, h, hk, hk2 => by
    rw [List.map_cons, fineL, fine]
    have a := log2_le (h n List.mem_cons_self) hk
    rw [fine_ints (fun x hx => h x (List.mem_cons_of_mem _ hx)) hk hk2, Bool.and_true, decide_eq_true_eq]; omega
theorem dep_ints : ∀ ns : List Int, depL (ns.map .int) = 0
  | [] => by simp [depL]
  | n :: ns => by rw [List.map_cons, depL, dep, dep_ints ns]; rfl
theorem safeS_ints : ∀ ns : List Int, safeSL (ns.map .int) = true
  | [] => by simp [safeSL]
  | n :: ns => by rw [List.map_cons, safeSL, safeS, safeS_ints ns]; rfl
end Gw

namespace Gw
open PySem L2 RZ RT
variable {ρ : Ent}
section
variable {X : Cx} {tg a b c : Expr} {ta tb tc te : TE} {aa ab ac ae : AE} {pos : Pos} {K : PySem.W.Frag} {i : Nat} {x : Str} {pos' : Pos} {B : Ent} {σ : St} {H G H1 G1 H2 G2 : Hp} {Γ Γ1 Γ2 : Sl} {M M1 M2 : Mem}
def zipD (xs ys : List D) : List D := List.zipWith (fun x y => D.tup [x, y]) xs ys
def aIzip (ar : AA) (Γ : Sl) (M : Mem) (Q : List D → Sl → Mem → Prop) : Prop := ar Γ M fun ds Γ1 M1 => match ds with
  | [.tup xs, .tup ys] => Q (zipD xs ys) Γ1 M1
  | [.lst xs, .lst ys] => Q (zipD xs ys) Γ1 M1
  | _ => False
theorem zipD_get {xs ys : List D} {i : Nat} {d : D} (h : (zipD xs ys)[i]? = some d) : ∃ x y, xs[i]? = some x ∧ ys[i]? = some y ∧ d = .tup [x, y] := by
  unfold zipD at h
  rw [List.getElem?_zipWith] at h
  cases e1 : xs[i]? with
  | none => rw [e1] at h; simp at h
  | some x =>
    cases e2 : ys[i]? with
    | none => rw [e1, e2] at h; simp at h
    | some y => rw [e1, e2] at h; simp at h; exact ⟨x, y, rfl, rfl, h.symm⟩
theorem yld_pair {xs ys : List D} {us ws : List V} {i : Nat} {H' : Hp} {v : V} {d : D} (r1 : RepL K G xs us) (r2 : RepL K G ys ws) (hd : (zipD xs ys)[i]? = some d) (y : YPair (fun i => us[i]?) (fun i => ws[i]?) i H v H') : Yld K true G H H' d v := by
  obtain ⟨d1, d2, e1, e2, rfl⟩ := zipD_get hd
  obtain ⟨T, u, z, ev, hT, eH, f1, f2⟩ := y
  obtain ⟨u', g1, q1⟩ := r1.get e1
  obtain ⟨z', g2, q2⟩ := r2.get e2
  have f1 : us[i]? = some u := f1
  have f2 : ws[i]? = some z := f2
  have eu : u' = u := by rw [g1] at f1; exact Option.some.inj f1
  have ez : z' = z := by rw [g2] at f2; exact Option.some.inj f2
  subst eu; subst ez
  exact .inr ⟨rfl, T, [u', z'], [d1, d2], ev, hT, eH, rfl, repL_cons.mpr ⟨_, _, rfl, q1, RepL.one q2⟩⟩
def aIrev (aa : AE) (Γ : Sl) (M : Mem) (Q : List D → Sl → Mem → Prop) : Prop := aa Γ M fun r Γ1 M1 => frz r Γ1 fun d Γ2 => match d with
  | .lst ds => Q ds.reverse Γ2 M1
  | .tup ds => Q ds.reverse Γ2 M1
  | _ => False
def enumD (k : Nat) : List D → List D
  | [] => []
  | d :: ds => .tup [.int k, d] :: enumD (k + 1) ds
theorem enumD_get : ∀ {ds : List D} {k i : Nat} {d : D}, (enumD k ds)[i]? = some d → ∃ x, ds[i]? = some x ∧ d = .tup [.int (k + i : Nat), x]
  | [], k, i, d, h => by simp [enumD] at h
  | y :: ds, k, 0, d, h => by simp [enumD] at h; exact ⟨y, rfl, by simpa using h.symm⟩
  | y :: ds, k, i + 1, d, h => by
    rw [enumD, List.getElem?_cons_succ] at h
    obtain ⟨x, e1, e2⟩ := enumD_get h
    exact ⟨x, by simpa using e1, by rw [e2, show k + 1 + i = k + (i + 1) by omega]⟩
theorem enumD_len : ∀ (ds : List D) (k : Nat), (enumD k ds).length = ds.length
  | [], _ => rfl
  | d :: ds, k => by rw [enumD, List.length_cons, enumD_len, List.length_cons]
def aIenum (ar : AA) (Γ : Sl) (M : Mem) (Q : List D → Sl → Mem → Prop) : Prop := ar Γ M fun ds Γ1 M1 => match ds with
  | [.lst xs] => Q (enumD 0 xs) Γ1 M1
  | _ => False
def rGetL (K : PySem.W.Frag) : V → V → Hp → VK → Prop := fun x y H Q => ∃ p xs i v, x = .ref p ∧ y = .int i ∧ SqL K H p xs ∧ 0 ≤ i ∧ xs[i.toNat]? = some v ∧ Q v H
theorem get_list : PGet X (rGetL X.K) := by
  intro pins s σ H o i ov iv Q I ro ri h
  obtain ⟨p, xs, n, v, rfl, rfl, sq, h0, hv, q⟩ := h
  cases ro
  obtain ⟨t, rfl⟩ := ri
  obtain ⟨its, r, pl, hz⟩ := I.list sq
  obtain ⟨u, eu, ru⟩ := r.get hv
  have hl : n.toNat < its.length := (List.getElem?_eq_some_iff.mp eu).1
  have hl2 := r.length
  refine wpAny_getItem_list pl.isList h0 ?_ (by simpa using eu) ⟨v, H, I, ru, q⟩
  have : sizeLine < 2 ^ 63 := by decide
  omega
def aAugX (ao ai ae : AE) (A : AEnds) (Γ : Sl) (M : Mem) : Prop := ao Γ M fun ro Γ1 M1 => ai Γ1 M1 fun ri Γ2 M2 => match ri, lget ro Γ2 M2 with
  | .dat (.int i), some ds => 0 ≤ i ∧ match ds[i.toNat]? with
    | some (.int n) => ae Γ2 M2 fun re Γ3 M3 => match re, lget ro Γ3 M3 with
      | .dat (.int m), some ds' => match ixN ds'.length i with
        | some j => lput ro (ds'.set j (.int (n + m))) Γ3 M3 fun Γ4 M4 => A.nx Γ4 M4
        | none => False
      | _, _ => False
    | _ => False
  | _, _ => False
end
end Gw
namespace Gw
open PySem L2
end Gw

namespace Gw
open PySem L2
variable {ρ : Ent}
section
variable {X : Cx} {a b c e : Expr} {ta tb tc te : TE} {aa ab ac ae : AE} {pos : Pos} {K : PySem.W.Frag} {B : Ent} {σ : St} {H G H1 G1 H2 G2 H0 : Hp} {Γ Γ1 Γ2 : Sl} {M M1 M2 : Mem}
def aLk (aa : AE) (Γ : Sl) (M : Mem) (Q : Ret → Sl → Mem → Prop) : Prop := aa Γ M fun r Γ1 M1 => match r with
  | .tmp (.dct ks ds) => Q (.dat (.dct ks ds)) Γ1 M1
  | .tmp (.dcT ks ds) => Q (.dat (.dcT ks ds)) Γ1 M1
  | .tmp (.dcN ks ds) => Q (.dat (.dcN ks ds)) Γ1 M1
  | .var i => match Γ1[i]? with
    | some (.own (.dct ks ds)) => Q (.dat (.dct ks ds)) (Γ1.set i (.dat (.dct ks ds))) M1
    | some (.own (.dcT ks ds)) => Q (.dat (.dcT ks ds)) (Γ1.set i (.dat (.dcT ks ds))) M1
    | some (.own (.dcN ks ds)) => Q (.dat (.dcN ks ds)) (Γ1.set i (.dat (.dcN ks ds))) M1
    | _ => False
  | .dat d => Q (.dat d) Γ1 M1
  | _ => False
end
end Gw

namespace Gw
open PySem L2
variable {ρ : Ent}
def getA (ks : List L2.Key) (ds : List D) (k : L2.Key) : Option D := ((ks.zip ds).find? fun p => decide (p.1 = k)).map (·.2)
def putA (t : List L2.Key × List D) (k : L2.Key) (d : D) : List L2.Key × List D :=
  if (t.1.any fun j => decide (j = k)) = true then (t.1, (t.1.zip t.2).map fun p => if p.1 = k then d else p.2) else (t.1 ++ [k], t.2 ++ [d])
def mergeA (t : List L2.Key × List D) (kds : List (L2.Key × D)) : List L2.Key × List D := kds.foldl (fun a p => putA a p.1 p.2) t
def keyD : D → Option L2.Key
  | .int i => some (.inl i)
  | .str x => some (.inr x)
  | _ => none
def kD : L2.Key → D
  | .inl i => .int i
  | .inr x => .str x
def itemsD (ks : List L2.Key) (ds : List D) : List D := (ks.zip ds).map fun p => .tup [kD p.1, p.2]
section
variable {K : PySem.W.Frag} {G G' H : Hp}
theorem rep_key {d : D} {v : V} {k : L2.Key} (h : Rep K G d v) (e : keyD d = some k) : v = kV k := by
  cases d <;> simp [keyD] at e <;> subst e <;> rw [Rep] at h <;> exact h
theorem getA_cons {k0 : L2.Key} {ks : List L2.Key} {d0 : D} {ds : List D} {k : L2.Key} : getA (k0 :: ks) (d0 :: ds) k = if k0 = k then some d0 else getA ks ds k := by
  unfold getA
  rw [List.zip_cons_cons, List.find?_cons]
  by_cases e : k0 = k
  · simp [e]
  · simp [e]
theorem getA_ok {k : L2.Key} : ∀ {ks : List L2.Key} {ds : List D} {xs : List V}, ks.length = ds.length → RepL K G ds xs → (∀ d, getA ks ds k = some d → ∃ v, valV (ks.zip xs) k = some v ∧ Rep K G d v) ∧ (getA ks ds k = none → valV (ks.zip xs) k = none)
  | [], [], xs, _, h => ⟨fun d e => by simp [getA] at e, fun _ => rfl⟩
  | k0 :: ks, d0 :: ds, xs, hl, h => by
    obtain ⟨x, r, rfl, h1, h2⟩ := repL_cons.mp h
    have ih := getA_ok (k := k) (ks := ks) (by simpa using hl) h2
    rw [getA_cons, List.zip_cons_cons]
    by_cases e : k0 = k
    · rw [if_pos e, valV_pos (p := (k0, x)) e]
      exact ⟨fun d q => by cases q; exact ⟨x, rfl, h1⟩, fun q => by cases q⟩
    · rw [if_neg e, valV_neg (p := (k0, x)) e]
      exact ih
theorem any_zip {k : L2.Key} : ∀ {ks : List L2.Key} {xs : List V}, ks.length = xs.length → ((ks.zip xs).any fun kv => decide (kv.1 = k)) = ks.any fun j => decide (j = k)
  | [], [], _ => rfl
  | k0 :: ks, x :: xs, h => by
    rw [List.zip_cons_cons, List.any_cons, List.any_cons, any_zip (by simpa using h)]
theorem map_zip {k : L2.Key} {v : V} : ∀ {ks : List L2.Key} {xs : List V}, ks.length = xs.length → (ks.zip xs).map (fun kv => if kv.1 = k then (kv.1, v) else kv) = ks.zip ((ks.zip xs).map fun p => if p.1 = k then v else p.2)
  | [], [], _ => rfl
  | k0 :: ks, x :: xs, h => by
    rw [List.zip_cons_cons, List.map_cons, List.map_cons, List.zip_cons_cons, map_zip (by simpa using h)]
    congr 1
    show (if k0 = k then (k0, v) else (k0, x)) = (k0, if k0 = k then v else x)
    split <;> rfl
theorem repL_upd {k : L2.Key} {d : D} {v : V} (r : Rep K G d v) : ∀ {ks : List L2.Key} {ds : List D} {xs : List V}, ks.length = ds.length → RepL K G ds xs → RepL K G ((ks.zip ds).map fun p => if p.1 = k then d else p.2) ((ks.zip xs).map fun p => if p.1 = k then v else p.2)
  | [], [], xs, _, h => by rw [repL_nil.mp h]; exact repL_nil.mpr rfl
  | k0 :: ks, d0 :: ds, xs, hl, h => by
    obtain ⟨x, t, rfl, h1, h2⟩ := repL_cons.mp h
    rw [List.zip_cons_cons, List.zip_cons_cons, List.map_cons, List.map_cons]
    refine repL_cons.mpr ⟨_, _, rfl, ?_, repL_upd r (by simpa using hl) h2⟩
    show Rep K G (if k0 = k then d else d0) (if k0 = k then v else x)
    split
    · exact r
    · exact h1
theorem putA_len {t : List L2.Key × List D} {k : L2.Key} {d : D} (h : t.1.length = t.2.length) : (putA t k d).1.length = (putA t k d).2.length := by
  unfold putA
  split
  · simp [h]
  · simp [h]
theorem putA_ok {t : List L2.Key × List D} {xs : List V} {k : L2.Key} {d : D} {v : V} (hl : t.1.length = t.2.length) (h : RepL K G t.2 xs) (r : Rep K G d v) :
    ∃ xs', putK (t.1.zip xs) k v = (putA t k d).1.zip xs' ∧ RepL K G (putA t k d).2 xs' := by
  obtain ⟨ks, ds⟩ := t
  have hx : ks.length = xs.length := by rw [h.length]; exact hl
  unfold putK putA
  rw [any_zip hx]
  by_cases e : (ks.any fun j => decide (j = k)) = true
  · rw [if_pos e, if_pos e]
    exact ⟨_, map_zip hx, repL_upd r hl h⟩
  · rw [if_neg e, if_neg e]
    exact ⟨xs ++ [v], by rw [List.zip_append hx]; rfl, h.append (RepL.one r)⟩
def RepKs (K : PySem.W.Frag) (G : Hp) : List (L2.Key × D) → List (L2.Key × V) → Prop
  | [], kvs => kvs = []
  | p :: r, kvs => ∃ v t, kvs = (p.1, v) :: t ∧ Rep K G p.2 v ∧ RepKs K G r t
theorem RepKs.mono (e : Ex G G') : ∀ {kds : List (L2.Key × D)} {kvs : List (L2.Key × V)}, RepKs K G kds kvs → RepKs K G' kds kvs
  | [], _, h => h
  | p :: r, _, ⟨v, t, e1, h1, h2⟩ => ⟨v, t, e1, h1.mono e, RepKs.mono e h2⟩
theorem RepKs.len : ∀ {kds : List (L2.Key × D)} {kvs : List (L2.Key × V)}, RepKs K G kds kvs → kvs.length = kds.length
  | [], _, h => by rw [show _ = [] from h]; rfl
  | p :: r, _, ⟨v, t, e1, h1, h2⟩ => by rw [e1, List.length_cons, List.length_cons, RepKs.len h2]
theorem mergeA_ok : ∀ {kds : List (L2.Key × D)} {kvs : List (L2.Key × V)} {t : List L2.Key × List D} {xs : List V}, t.1.length = t.2.length → RepL K G t.2 xs → RepKs K G kds kvs →
    ∃ xs', mergeK (t.1.zip xs) kvs = (mergeA t kds).1.zip xs' ∧ RepL K G (mergeA t kds).2 xs' ∧ (mergeA t kds).1.length = (mergeA t kds).2.length
  | [], _, t, xs, hl, h, hk => by rw [show _ = [] from hk]; exact ⟨xs, rfl, h, hl⟩
  | p :: r, _, t, xs, hl, h, ⟨v, kt, e1, h1, h2⟩ => by
    subst e1
    obtain ⟨xs1, e2, h3⟩ := putA_ok (k := p.1) hl h h1
    obtain ⟨xs2, e3, h4, h5⟩ := mergeA_ok (putA_len hl) h3 h2
    refine ⟨xs2, ?_, h4, h5⟩
    show mergeK (putK (t.1.zip xs) p.1 v) kt = _
    rw [e2]; exact e3
end
section
variable {X : Cx} {a b c e : Expr} {ta tb tc te : TE} {aa ab ac ae : AE} {pos : Pos} {K : PySem.W.Frag} {B : Ent} {σ : St} {H G H1 G1 H2 G2 H0 : Hp} {Γ Γ1 Γ2 : Sl} {M M1 M2 : Mem}
def dctOf (r : Ret) (Γ : Sl) (M : Mem) : Option (List L2.Key × List D) := match r with
  | .dat (.dct ks ds) => some (ks, ds)
  | .dat (.ref a) => match M.lookup a with
    | some (.dct ks ds) => some (ks, ds)
    | _ => none
  | .tmp (.dct ks ds) => some (ks, ds)
  | .var i => match Γ[i]? with
    | some (.own (.dct ks ds)) => some (ks, ds)
    | some (.dat (.dct ks ds)) => some (ks, ds)
    | _ => none
  | _ => none
theorem rep_dct_rd {ks : List L2.Key} {ds : List D} {v : V} (o : Ok K ρ B σ H G Γ M) (h : Rep K G (.dct ks ds) v) : ∃ a xs, v = .ref a ∧ Rd H a (.dK (ks.zip xs)) ∧ ks.length = ds.length ∧ RepL K G ds xs := by
  obtain ⟨a, od, xs, e, h1, h2, h3⟩ := rep_dct.mp h
  exact ⟨a, xs, e, .inr ⟨od, o.ex _ _ h1⟩, h2, h3⟩
theorem dctOf_ok {r : Ret} {v : V} {ks : List L2.Key} {ds : List D} (o : Ok K ρ B σ H G Γ M) (rr : RepR K B σ H0 H G Γ M r v) (h : dctOf r Γ M = some (ks, ds)) : ∃ a xs, v = .ref a ∧ Rd H a (.dK (ks.zip xs)) ∧ ks.length = ds.length ∧ RepL K G ds xs := by
  cases r with
  | dat d =>
    cases d with
    | dct ks' ds' => cases h; exact rep_dct_rd o rr
    | ref a =>
      simp only [dctOf] at h
      split at h
      · rename_i ks' ds' e1
        cases h
        obtain ⟨hg, u, ho, vs, rfl, hl, hr⟩ := o.ms a _ (lookup_mem e1)
        exact ⟨a, vs, by have := rr; simp only [RepR, Rep] at this; exact this, .inl ho, hl, hr⟩
      · cases h
    | _ => cases h
  | tmp c =>
    cases c with
    | lst ds => cases h
    | dcT ks ds => cases h
    | dcN ks ds => cases h
    | ins cn ns ds => cases h
    | tab q => cases h
    | dct ks' ds' =>
      cases h
      obtain ⟨p, rfl, h0, hb, ⟨hg, u, hu, vs, rfl, hl, hr⟩, hm, hn⟩ := rr
      exact ⟨p, vs, rfl, .inl hu, hl, hr⟩
  | var i =>
    simp only [dctOf] at h
    split at h
    · rename_i ks' ds' e1
      cases h
      obtain ⟨p, s1, hb, hm, hg, u, ho, vs, rfl, hl, hr⟩ := o.own i _ e1
      have : v = .ref p := by have := (show σ[i]? = some (some v) from rr); rw [s1] at this; cases this; rfl
      exact ⟨p, vs, this, .inl ho, hl, hr⟩
    · rename_i ks' ds' e1
      cases h
      obtain ⟨v', h1, h2⟩ := o.dat i _ e1
      have : v' = v := by have := (show σ[i]? = some (some v) from rr); rw [h1] at this; cases this; rfl
      subst this
      exact rep_dct_rd o h2
    · cases h
def cget (r : Ret) (Γ : Sl) (M : Mem) : Option Cell := match r with
  | .var i => match Γ[i]? with
    | some (.own c) => some c
    | _ => none
  | .dat (.ref a) => M.lookup a
  | _ => none
def cput (r : Ret) (c : Cell) (Γ : Sl) (M : Mem) (k : Sl → Mem → Prop) : Prop := match r with
  | .var i => k (Γ.set i (.own c)) M
  | .dat (.ref a) => k Γ (mput M a c)
  | _ => False
theorem cget_ok {r : Ret} {v : V} {c : Cell} (k : Ok K ρ B σ H G Γ M) (rr : RepR K B σ H0 H G Γ M r v) (h : cget r Γ M = some c) : ∃ l o, v = .ref l ∧ H l = some o ∧ CellOk K G l c o := by
  cases r with
  | var i =>
    simp only [cget] at h
    split at h
    · rename_i c' e1
      cases h
      obtain ⟨p, s1, hb, hm, hg, u, ho, hc⟩ := k.own i _ e1
      have : v = .ref p := by have := (show σ[i]? = some (some v) from rr); rw [s1] at this; cases this; rfl
      exact ⟨p, u, this, ho, hc⟩
    · cases h
  | dat d =>
    cases d with
    | ref a =>
      simp only [cget] at h
      obtain ⟨hg, u, ho, hc⟩ := k.ms a _ (lookup_mem h)
      exact ⟨a, u, by have := rr; simp only [RepR, Rep] at this; exact this, ho, hc⟩
    | _ => cases h
  | tmp c => cases h
theorem cput_ok {r : Ret} {l : Addr} {c c' : Cell} {o' : HO} {kk : Sl → Mem → Prop} (k : Ok K ρ B σ H G Γ M) (rr : RepR K B σ H0 H G Γ M r (.ref l)) (h : cget r Γ M = some c) (rl : CellOk K G l c' o') (hp : cput r c' Γ M kk) :
    ∃ Γ' M', Ok K ρ B σ (upd H l o') G Γ' M' ∧ Es σ H G Γ M (upd H l o') G Γ' M' ∧ kk Γ' M' := by
  have updN : ∀ x, upd H l o' x = none → H x = none := fun x e => by
    by_cases z : x = l
    · subst z; rw [upd_same] at e; cases e
    · rw [upd_ne z] at e; exact e
  cases r with
  | tmp c => cases h
  | var i =>
    simp only [cget] at h
    split at h
    · rename_i dd e1
      cases h
      obtain ⟨p, s1, hb, hm, hg, u, ho, hc⟩ := k.own i _ e1
      have e : p = l := by have := (show σ[i]? = some (some (.ref l)) from rr); rw [s1] at this; cases this; rfl
      subst e
      have exG : Ex G (upd H p o') := fun x o z => by
        have ne : x ≠ p := fun e => by subst e; rw [hg] at z; cases z
        rw [upd_ne ne]; exact k.ex x o z
      have cel : ∀ x c, x ≠ p → Cel K H G x c → Cel K (upd H p o') G x c := fun x c ne ⟨z1, o, z2, z3⟩ => ⟨z1, o, by rw [upd_ne ne]; exact z2, z3⟩
      refine ⟨_, _, ⟨⟨k.st.g, fun x o z n => ?_, k.st.gn, k.st.mn, fun x z => k.st.nn x (updN x z)⟩, exG, k.nd, fun x c z => cel x c (fun e => hm (e ▸ List.mem_map.mpr ⟨_, z, rfl⟩)) (k.ms x c z), fun j d z => ?_, fun j c z => ?_, fun j m cj cm q z z' a b => ?_, by rw [List.length_set]; exact k.len, k.pb⟩, ⟨Ex.refl G, fun x o z g m n => ?_, updN⟩, hp⟩
      · have ne : x ≠ p := fun e => by subst e; rw [hb] at z; cases z
        rw [upd_ne ne]; exact k.st.fr x o z n
      · rcases set_get z with ⟨_, e⟩ | ⟨_, e⟩
        · cases e
        · exact k.dat j d e
      · rcases set_get z with ⟨e, e2⟩ | ⟨ne, e⟩
        · cases e2; subst e
          exact ⟨p, s1, hb, hm, hg, _, upd_same, rl⟩
        · obtain ⟨q, y1, y2, y3, y4⟩ := k.own j c e
          exact ⟨q, y1, y2, y3, cel q c (fun eq => ne (k.dis j i _ _ p e e1 (eq ▸ y1) s1)) y4⟩
      · have own' : ∀ (j : Nat) (c : Cell), (Γ.set i (Slot.own c'))[j]? = some (Slot.own c) → ∃ c', Γ[j]? = some (Slot.own c') := fun j c z => by
          rcases set_get z with ⟨e, _⟩ | ⟨_, e⟩
          · subst e; exact ⟨_, e1⟩
          · exact ⟨_, e⟩
        obtain ⟨c1, z1⟩ := own' j cj z
        obtain ⟨c2, z2⟩ := own' m cm z'
        exact k.dis j m c1 c2 q z1 z2 a b
      · have ne : x ≠ p := fun e => n ⟨i, _, e1, e ▸ s1⟩
        refine ⟨by rw [upd_ne ne]; exact z, g, m, fun ⟨j, c, y1, y2⟩ => n ?_⟩
        rcases set_get y1 with ⟨e, _⟩ | ⟨_, e⟩
        · subst e; exact ⟨_, _, e1, y2⟩
        · exact ⟨j, c, e, y2⟩
    · cases h
  | dat d =>
    cases d with
    | ref a =>
      simp only [cget] at h
      obtain ⟨hg, u, ho, hc⟩ := k.ms a _ (lookup_mem h)
      have e : l = a := by have := rr; simp only [RepR, Rep] at this; cases this; rfl
      subst e
      have exG : Ex G (upd H l o') := fun x o z => by
        have ne : x ≠ l := fun e => by subst e; rw [hg] at z; cases z
        rw [upd_ne ne]; exact k.ex x o z
      have cel : ∀ x c, x ≠ l → Cel K H G x c → Cel K (upd H l o') G x c := fun x c ne ⟨z1, o, z2, z3⟩ => ⟨z1, o, by rw [upd_ne ne]; exact z2, z3⟩
      have inM : l ∈ dom M := List.mem_map.mpr ⟨_, lookup_mem h, rfl⟩
      refine ⟨_, _, ⟨⟨k.st.g, fun x o z n => ?_, k.st.gn, ?_, fun x z => k.st.nn x (updN x z)⟩, exG, by rw [dom_mput]; exact k.nd, fun x c z => ?_, k.dat, fun j c z => ?_, k.dis, k.len, k.pb⟩, ⟨Ex.refl G, fun x o z g m n => ?_, updN⟩, hp⟩
      · have ne : x ≠ l := fun e => by
          subst e
          rcases k.st.mn x inM with z' | z'
          · exact n z'
          · rw [z] at z'; cases z'
        rw [upd_ne ne]; exact k.st.fr x o z n
      · rw [dom_mput]; exact k.st.mn
      · unfold mput at z
        obtain ⟨y, hy, e⟩ := List.mem_map.mp z
        split at e
        · cases e; exact ⟨hg, _, upd_same, rl⟩
        · rename_i ne
          obtain ⟨y1, y2⟩ := y
          cases e
          exact cel x c ne (k.ms x c hy)
      · obtain ⟨q, y1, y2, y3, y4⟩ := k.own j c z
        exact ⟨q, y1, y2, by rw [dom_mput]; exact y3, cel q c (fun e => y3 (e ▸ inM)) y4⟩
      · have ne : x ≠ l := fun e => m (e ▸ inM)
        exact ⟨by rw [upd_ne ne]; exact z, g, by rw [dom_mput]; exact m, n⟩
    | _ => cases h
theorem Ok.updTmp' {p : Addr} {o u : HO} (k : Ok K ρ B σ H G Γ M) (hp : H p = some o) (hb : B.H p = none) (hg : G p = none) (hm : p ∉ dom M) (hn : ¬ owned σ Γ p) : Ok K ρ B σ (upd H p u) G Γ M := by
  have cel : ∀ x c, x ≠ p → Cel K H G x c → Cel K (upd H p u) G x c := fun x c ne ⟨z1, o, z2, z3⟩ => ⟨z1, o, by rw [upd_ne ne]; exact z2, z3⟩
  refine ⟨⟨k.st.g, fun x o z n => ?_, k.st.gn, k.st.mn, fun x z => k.st.nn x ?_⟩, fun x o z => ?_, k.nd, fun x c z => cel x c (fun e => hm (e ▸ List.mem_map.mpr ⟨_, z, rfl⟩)) (k.ms x c z), k.dat, fun i c z => ?_, k.dis, k.len, k.pb⟩
  · rw [upd_ne (ne_of_none z hb)]; exact k.st.fr x o z n
  · by_cases e : x = p
    · subst e; rw [upd_same] at z; cases z
    · rw [upd_ne e] at z; exact z
  · have ne : x ≠ p := fun e => by subst e; rw [hg] at z; cases z
    rw [upd_ne ne]; exact k.ex x o z
  · obtain ⟨q, y1, y2, y3, y4⟩ := k.own i c z
    exact ⟨q, y1, y2, y3, cel q c (fun e => hn ⟨i, c, z, e ▸ y1⟩) y4⟩
theorem Ok.grow {H' : Hp} {T : List Addr} (k : Ok K ρ B σ H G Γ M) (hh : Ex H H') (hT : ∀ t ∈ T, H t = none) : Ok K ρ B σ H' (fun b => if b ∈ T then H' b else G b) Γ M ∧ Es σ H G Γ M H' (fun b => if b ∈ T then H' b else G b) Γ M := by
  have eG : Ex G (fun b => if b ∈ T then H' b else G b) := fun x o z => by
    show (if x ∈ T then H' x else G x) = some o
    rw [if_neg (fun hx => by have := k.ex x o z; rw [hT x hx] at this; cases this)]; exact z
  have cel : ∀ x c, Cel K H G x c → Cel K H' (fun b => if b ∈ T then H' b else G b) x c := fun x c ⟨z1, o, z2, z3⟩ => ⟨by
    show (if x ∈ T then H' x else G x) = none
    rw [if_neg (fun hx => by rw [hT x hx] at z2; cases z2)]; exact z1, o, hh _ _ z2, z3.mono eG⟩
  refine ⟨⟨⟨k.st.g.trans eG, fun x o z n => hh _ _ (k.st.fr x o z n), fun x o z => ?_, k.st.mn, fun x z => k.st.nn x (hh.none z)⟩, fun x o z => ?_, k.nd, fun x c z => cel x c (k.ms x c z), fun i d z => ?_, fun i c z => ?_, k.dis, k.len, k.pb⟩, eG, fun x o z g m n => ⟨hh _ _ z, ?_, m, n⟩, fun x z => hh.none z⟩
  · change (if x ∈ T then H' x else G x) = some o at z
    by_cases hx : x ∈ T
    · exact .inr (k.st.nn x (hT x hx))
    · rw [if_neg hx] at z; exact k.st.gn x o z
  · change (if x ∈ T then H' x else G x) = some o at z
    by_cases hx : x ∈ T
    · rw [if_pos hx] at z; exact z
    · rw [if_neg hx] at z; exact hh _ _ (k.ex x o z)
  · obtain ⟨v, h1, h2⟩ := k.dat i d z
    exact ⟨v, h1, h2.mono eG⟩
  · obtain ⟨q, y1, y2, y3, y4⟩ := k.own i c z
    exact ⟨q, y1, y2, y3, cel q c y4⟩
  · show (if x ∈ T then H' x else G x) = none
    rw [if_neg (fun hx => by rw [hT x hx] at z; cases z)]; exact g
theorem Ok.fresh {p : Addr} (k : Ok K ρ B σ H G Γ M) (hp : H p = none) : p ∉ dom M ∧ ¬ owned σ Γ p ∧ B.H p = none ∧ G p = none := by
  refine ⟨fun hm => ?_, fun ⟨i, c, h1, h2⟩ => ?_, k.st.nn _ hp, k.ex.none hp⟩
  · obtain ⟨⟨a, c⟩, h1, h2⟩ := List.mem_map.mp hm
    obtain ⟨_, u, h3, _⟩ := k.ms a c h1
    simp at h2; subst h2; rw [hp] at h3; cases h3
  · obtain ⟨q, h3, _, _, _, u, h4, _⟩ := k.own i c h1
    rw [h2] at h3; cases h3; rw [hp] at h4; cases h4
def aDNew (Γ : Sl) (M : Mem) (Q : Ret → Sl → Mem → Prop) : Prop := Q (.tmp (.dct [] [])) Γ M
abbrev AP := Sl → Mem → (List (L2.Key × D) → Sl → Mem → Prop) → Prop
def RdP (K : PySem.W.Frag) (ρ : Ent) (trs : List (TE × TE)) (ap : AP) : Prop := ∀ B σ H G Γ M (Q : List (L2.Key × D) → Sl → Mem → Prop) (R : List (V × V) → Hp → Prop), Ok K ρ B σ H G Γ M → ap Γ M Q →
  (∀ kvs H' G' Γ' M' kds, Ok K ρ B σ H' G' Γ' M' → Es σ H G Γ M H' G' Γ' M' → RepKs K G' kds kvs → Q kds Γ' M' → R (kvs.map fun kv => (kV kv.1, kv.2)) H') → tPairs trs σ H R
structure QP (X : Cx) (ρ : Ent) (pos : Pos) (keys : List (Option Expr)) (values : List Expr) (trs : List (TE × TE)) (ap : AP) : Prop where
  pe : PPs X pos keys values trs
  rd : RdP X.K ρ trs ap
def apNil (Γ : Sl) (M : Mem) (Q : List (L2.Key × D) → Sl → Mem → Prop) : Prop := Q [] Γ M
def apCons (ak av : AE) (ar : AP) (Γ : Sl) (M : Mem) (Q : List (L2.Key × D) → Sl → Mem → Prop) : Prop := ak Γ M fun rk Γ1 M1 => match rk with
  | .dat y => match keyD y with
    | some k => av Γ1 M1 fun rv Γ2 M2 => frz rv Γ2 fun d Γ3 => ar Γ3 M2 fun kds Γ4 M4 => Q ((k, d) :: kds) Γ4 M4
    | none => False
  | _ => False
theorem qp_nil : QP X ρ pos [] [] [] apNil := ⟨pps_nil, fun B σ H G Γ M Q R k h q => q [] H G Γ M [] k .refl rfl h⟩
theorem qp_cons {ks : List (Option Expr)} {vs : List Expr} {trs : List (TE × TE)} {ar : AP} (ha : QE X ρ a ta aa) (hb : QE X ρ b tb ab) (hr : QP X ρ pos ks vs trs ar) : QP X ρ pos (some a :: ks) (b :: vs) ((ta, tb) :: trs) (apCons aa ab ar) := ⟨pps_cons ha.pe hb.pe hr.pe, by
  intro B σ H G Γ M Q R k h q
  refine ha.rd B σ H G Γ M _ _ k h fun v H1 G1 Γ1 M1 r1 k1 e1 rr1 h1 => ?_
  split at h1
  · rename_i y
    split at h1
    · rename_i key hy
      have ev := rep_key (show Rep X.K G1 y v from rr1) hy
      subst ev
      refine hb.rd B σ H1 G1 Γ1 M1 _ _ k1 h1 fun u H2 G2 Γ2 M2 r2 k2 e2 rr2 h2 => ?_
      obtain ⟨G3, Γ3, d, k3, e3, rp, h3⟩ := frz_ok (H0 := H1) k2 e2 rr2 h2
      refine hr.rd B σ H2 G3 Γ3 M2 _ _ k3 h3 fun kvs H4 G4 Γ4 M4 kds k4 e4 rk h4 => ?_
      exact q ((key, u) :: kvs) H4 G4 Γ4 M4 ((key, d) :: kds) k4 ((e1.trans e3).trans e4) ⟨u, kvs, rfl, rp.mono e4.g, rk⟩ h4
    · exact h1.elim
  · exact h1.elim⟩
def aDisp (ap : AP) (Γ : Sl) (M : Mem) (Q : Ret → Sl → Mem → Prop) : Prop := ap Γ M fun kds Γ1 M1 => kds.length ≤ 15 ∧ Q (.tmp (.dct (mergeA ([], []) kds).1 (mergeA ([], []) kds).2)) Γ1 M1
theorem q_disp {keys : List (Option Expr)} {values : List Expr} {trs : List (TE × TE)} {ap : AP} (h : QP X ρ pos keys values trs ap) (hall : keys.all (·.isSome) = true := by rfl) (hl : keys.length = values.length := by rfl) (h0 : keys ≠ [] := by simp)
    (h15 : keys.length ≤ 15 := by decide) : QE X ρ (.Dict keys values pos) (tDisp trs) (aDisp ap) := ⟨pe_disp h.pe hall hl h0 h15, by
  intro B σ H G Γ M Q R k hh q p hp
  obtain ⟨k1, e1, hm, hn, hb, hg⟩ := k.tmp (o := .dK []) hp
  refine h.rd B σ _ G Γ M _ _ k1 hh fun kvs H2 G2 Γ2 M2 kds k2 e2 rk h2 => ?_
  obtain ⟨p2, g2, m2, n2⟩ := e2.tmp p _ upd_same hg hm hn
  obtain ⟨xs', e3, h3, h4⟩ := mergeA_ok (t := ([], [])) rfl (repL_nil.mpr rfl) rk
  refine ⟨p2, kvs, rfl, by rw [rk.len]; exact h2.1, ?_⟩
  have e3' : mergeK [] kvs = (mergeA ([], []) kds).1.zip xs' := e3
  rw [e3']
  refine q _ _ G2 Γ2 M2 (.tmp (.dct _ _)) (k2.updTmp' p2 hb g2 m2 n2) ⟨e2.g, fun a o z g m n => ?_, fun a z => ?_⟩ ⟨p, rfl, hp, hb, ⟨g2, _, upd_same, xs', rfl, h4, h3⟩, m2, n2⟩ h2.2
  · have ne : a ≠ p := ne_of_none z hp
    obtain ⟨a1, a2, a3, a4⟩ := e2.tmp a o (by rw [upd_ne ne]; exact z) g m n
    exact ⟨by rw [upd_ne ne]; exact a1, a2, a3, a4⟩
  · by_cases e : a = p
    · subst e; exact hp
    · rw [upd_ne e] at z
      have := e2.nn a z
      rw [upd_ne e] at this; exact this⟩
def aDGet (ad ay : AE) (Γ : Sl) (M : Mem) (Q : Ret → Sl → Mem → Prop) : Prop := ad Γ M fun r Γ1 M1 => ay Γ1 M1 fun ry Γ2 M2 => match ry with
  | .dat y => match keyD y with
    | some k => match dctOf r Γ2 M2 with
      | some t => match getA t.1 t.2 k with
        | some d => Q (.dat d) Γ2 M2
        | none => False
      | none => False
    | none => False
  | _ => False
theorem rd_dget (ha : RdE K ρ ta aa) (hb : RdE K ρ tb ab) : RdE K ρ (tDGet ta tb) (aDGet aa ab) := by
  intro B σ H G Γ M Q R k h q
  refine ha B σ H G Γ M _ _ k h fun v H1 G1 Γ1 M1 r1 k1 e1 rr1 h1 => ?_
  refine hb B σ H1 G1 Γ1 M1 _ _ k1 h1 fun u H2 G2 Γ2 M2 r2 k2 e2 rr2 h2 => ?_
  split at h2
  · rename_i y
    split at h2
    · rename_i key hy
      have eu := rep_key (show Rep K G2 y u from rr2) hy
      subst eu
      split at h2
      · rename_i t ht
        obtain ⟨l, xs, rfl, hd, hl, hx⟩ := dctOf_ok k2 (rr1.es e2) ht
        split at h2
        · rename_i d hd2
          obtain ⟨w, hw, rw'⟩ := (getA_ok (k := key) hl hx).1 d hd2
          exact ⟨l, w, rfl, .inl ⟨_, key, hd, rfl, hw.symm⟩, q w H2 G2 Γ2 M2 (.dat d) k2 (e1.trans e2) rw' h2⟩
        · exact h2.elim
      · exact h2.elim
    · exact h2.elim
  · exact h2.elim
theorem q_dget (hu : X.A.units + 64 < cLine) (ha : QE X ρ a ta aa) (hb : QE X ρ b tb ab) (hs : NoSl b := by exact fun _ _ => rfl) : QE X ρ (.Subscript a b pos) (tDGet ta tb) (aDGet aa ab) := ⟨pe_dget (by omega) ha.pe hb.pe hs, rd_dget ha.rd hb.rd⟩
def aDGet2 (ad ay az : AE) (Γ : Sl) (M : Mem) (Q : Ret → Sl → Mem → Prop) : Prop := ad Γ M fun r Γ1 M1 => (dctOf r Γ1 M1).isSome = true ∧ ay Γ1 M1 fun ry Γ2 M2 => az Γ2 M2 fun rz Γ3 M3 => match ry with
  | .dat y => match rz with
    | .dat z => match keyD y with
      | some k => match dctOf r Γ3 M3 with
        | some t => Q (.dat ((getA t.1 t.2 k).getD z)) Γ3 M3
        | none => False
      | none => False
    | _ => False
  | _ => False
def aDIn (f : Bool → Bool) (ay ad : AE) (Γ : Sl) (M : Mem) (Q : Ret → Sl → Mem → Prop) : Prop := ay Γ M fun ry Γ1 M1 => ad Γ1 M1 fun r Γ2 M2 => match ry with
  | .dat y => match keyD y with
    | some k => match dctOf r Γ2 M2 with
      | some t => Q (.dat (.bl (f (getA t.1 t.2 k).isSome))) Γ2 M2
      | none => False
    | none => False
  | _ => False
def aDPut (ae ao ai : AE) (A : AEnds) (Γ : Sl) (M : Mem) : Prop := ae Γ M fun r Γ0 M0 => frz r Γ0 fun d Γ1 => ao Γ1 M0 fun ro Γ2 M2 => ai Γ2 M2 fun ri Γ3 M3 => match ri with
  | .dat y => match keyD y with
    | some k => match cget ro Γ3 M3 with
      | some (.dct ks ds) => ks.length < sizeLine ∧ cput ro (.dct (putA (ks, ds) k d).1 (putA (ks, ds) k d).2) Γ3 M3 fun Γ4 M4 => A.nx Γ4 M4
      | _ => False
    | none => False
  | _ => False
def aIItems (aa : AE) (Γ : Sl) (M : Mem) (Q : List D → Sl → Mem → Prop) : Prop := aa Γ M fun r Γ1 M1 => match r with
  | .dat (.dct ks ds) => Q (itemsD ks ds) Γ1 M1
  | _ => False
def aLItems (aa : AE) (Γ : Sl) (M : Mem) (Q : Ret → Sl → Mem → Prop) : Prop := aa Γ M fun r Γ1 M1 => match dctOf r Γ1 M1 with
  | some t => Q (.tmp (.lst (itemsD t.1 t.2))) Γ1 M1
  | none => False
def pairsOf : List D → Option (List (L2.Key × D))
  | [] => some []
  | .tup [y, d] :: ds => match keyD y with
    | some k => (pairsOf ds).map ((k, d) :: ·)
    | none => none
  | _ :: _ => none
def aDictP (r : Ret) (Γ : Sl) (M : Mem) (Q : Ret → Sl → Mem → Prop) : Prop := match sqOf r Γ M with
  | some (.lst ds) => match pairsOf ds with
    | some kds => Q (.tmp (.dct (mergeA ([], []) kds).1 (mergeA ([], []) kds).2)) Γ M
    | none => False
  | _ => False
end
end Gw

namespace Gw
open PySem L2
variable {ρ : Ent}
open PyProof.Rows hiding St
abbrev TL := V → TE
abbrev AL := Ret → AE
def tLast (r : R2) (tb : TE) : TL := fun x σ H Q => tb σ H fun y H1 => r x y H1 Q
def tLink (r : R2) (tb : TE) (t : TL) : TL := fun x σ H Q => tb σ H fun y H1 => r x y H1 fun z H2 => ∃ k, z = .bl k ∧ (if k = true then t y σ H2 Q else Q (.bl false) H2)
def tChainN (ta : TE) (t : TL) : TE := fun σ H Q => ta σ H fun x H1 => t x σ H1 Q
def aLast (ao : AOp) (ab : AE) (x : Ret) (Γ : Sl) (M : Mem) (Q : Ret → Sl → Mem → Prop) : Prop := ab Γ M fun y Γ1 M1 => ao x y Γ1 M1 Q
def aLink (ao : AOp) (ab : AE) (al : AL) (x : Ret) (Γ : Sl) (M : Mem) (Q : Ret → Sl → Mem → Prop) : Prop := ab Γ M fun y Γ1 M1 => ao x y Γ1 M1 fun z Γ2 M2 => match z with
  | .dat (.bl k) => if k = true then al y Γ2 M2 Q else Q (.dat (.bl false)) Γ2 M2
  | _ => False
def aChainN (aa : AE) (al : AL) (Γ : Sl) (M : Mem) (Q : Ret → Sl → Mem → Prop) : Prop := aa Γ M fun x Γ1 M1 => al x Γ1 M1 Q
structure QL (X : Cx) (ρ : Ent) (ops : List CmpOp) (rs : List Expr) (t : TL) (al : AL) : Prop where
  run : ∀ (pos : Pos) (pins : List (Addr × Obj)) (s : Shared) (σ : L2.St) (H : Hp) (Q : VK) (x : V) (v : Value), Inv X pins σ H s → RelV x v → t x σ H Q → wpAny (model X.prog X.w) X.A (compareChain pos v ops (evalEach rs X.env)) (EP X pins σ Q) X.xe s
  tst : ∀ (pos : Pos) (pins : List (Addr × Obj)) (s : Shared) (σ : L2.St) (H : Hp) (Q : Bool → Hp → Prop) (x : V) (v : Value), Inv X pins σ H s → RelV x v → t x σ H (fun z H' => ∃ k, z = .bl k ∧ Q k H') →
    wpAny (model X.prog X.w) X.A (testChain pos v ops (evalEach rs X.env)) (fun b s' => ∃ H', Inv X pins σ H' s' ∧ Q b H') X.xe s
  rd : ∀ B σ H H0 G Γ M rx x Q R, Ok X.K ρ B σ H G Γ M → RepR X.K B σ H0 H G Γ M rx x → al rx Γ M Q → Kont X.K ρ B σ H G Γ M Q R → t x σ H R
section
variable {X : Cx} {a b c e : Expr} {ta tb tc te : TE} {aa ab ac ae : AE} {pos : Pos} {K : PySem.W.Frag} {B : Ent} {σ : L2.St} {H G H1 G1 H2 G2 H0 : Hp} {Γ Γ1 Γ2 : Sl} {M M1 M2 : Mem}
theorem ql_last {op : CmpOp} {r : R2} {ao : AOp} (c : CmpR X ρ op r ao) (hb : QE X ρ b tb ab) : QL X ρ [op] [b] (tLast r tb) (aLast ao ab) := ⟨
  fun pos pins s σ H Q x v I rx h => chain_last (thn (hb.pe.run pins s σ H _ I h) fun u s1 ⟨y, H1, I1, r1, q1⟩ => c.ho pins s1 σ H1 x y v u Q I1 rx r1 q1),
  fun pos pins s σ H Q x v I rx h => test_last (thn (hb.pe.run pins s σ H _ I h) fun u s1 ⟨y, H1, I1, r1, q1⟩ => thn (c.ho pins s1 σ H1 x y v u _ I1 rx r1 q1) fun d s2 ⟨z, H2, I2, r2, k, e, q⟩ => by
    subst e; cases r2
    exact wpAny_truthy_bool ⟨H2, I2, q⟩),
  fun B σ H H0 G Γ M rx x Q R k rr h q => hb.rd B σ H G Γ M _ _ k h fun u H1 G1 Γ1 M1 r1 k1 e1 rr1 h1 => c.rd B σ H1 _ _ G1 Γ1 M1 rx r1 x u Q R k1 (rr.es e1) rr1 h1 (q.es e1)⟩
theorem ql_link {op op' : CmpOp} {ops : List CmpOp} {b' : Expr} {rs : List Expr} {r : R2} {ao : AOp} {t : TL} {al : AL} (c : CmpR X ρ op r ao) (hb : QE X ρ b tb ab) (hl : QL X ρ (op' :: ops) (b' :: rs) t al) : QL X ρ (op :: op' :: ops) (b :: b' :: rs) (tLink r tb t) (aLink ao ab al) := ⟨
  fun pos pins s σ H Q x v I rx h => chain_link (thn (hb.pe.run pins s σ H _ I h) fun u s1 ⟨y, H1, I1, r1, q1⟩ => thn (c.ho pins s1 σ H1 x y v u _ I1 rx r1 q1) fun d s2 ⟨z, H2, I2, r2, k, e, q⟩ => by
    subst e; cases r2
    refine wpAny_truthy_bool ?_
    cases k with
    | false => exact ite_ff ⟨.bl false, H2, I2, rfl, by simpa using q⟩
    | true => exact ite_tt (hl.run pos pins s2 σ H2 Q y u I2 r1 (by simpa using q))),
  fun pos pins s σ H Q x v I rx h => test_link (thn (hb.pe.run pins s σ H _ I h) fun u s1 ⟨y, H1, I1, r1, q1⟩ => thn (c.ho pins s1 σ H1 x y v u _ I1 rx r1 q1) fun d s2 ⟨z, H2, I2, r2, k, e, q⟩ => by
    subst e; cases r2
    refine wpAny_truthy_bool ?_
    cases k with
    | false =>
      have q' : ∃ k, V.bl false = .bl k ∧ Q k H2 := by simpa using q
      obtain ⟨k', e', q'⟩ := q'
      cases e'
      exact ite_ff ⟨H2, I2, q'⟩
    | true => exact ite_tt (hl.tst pos pins s2 σ H2 Q y u I2 r1 (by simpa using q))),
  fun B σ H H0 G Γ M rx x Q R k rr h q => hb.rd B σ H G Γ M _ _ k h fun u H1 G1 Γ1 M1 r1 k1 e1 rr1 h1 => c.rd B σ H1 _ _ G1 Γ1 M1 rx r1 x u _ _ k1 (rr.es e1) rr1 h1 fun z H2 G2 Γ2 M2 r2 k2 e2 rr2 h2 => by
    split at h2
    · rename_i kb
      have e : z = .bl kb := by have := rr2; simp only [RepR, Rep] at this; exact this
      refine ⟨kb, e, ?_⟩
      cases kb with
      | true => exact hl.rd B σ H2 _ G2 Γ2 M2 r1 u Q R k2 (rr1.es e2) (by simpa using h2) (q.es (e1.trans e2))
      | false => exact q _ H2 G2 Γ2 M2 (.dat (.bl false)) k2 (e1.trans e2) (by simp only [RepR, Rep]) (by simpa using h2)
    · exact h2.elim⟩
theorem rd_chainN {ops : List CmpOp} {rs : List Expr} {t : TL} {al : AL} (ha : RdE X.K ρ ta aa) (hl : QL X ρ ops rs t al) : RdE X.K ρ (tChainN ta t) (aChainN aa al) := fun B σ H G Γ M Q R k h q =>
  ha B σ H G Γ M _ _ k h fun v H1 G1 Γ1 M1 r1 k1 e1 rr1 h1 => hl.rd B σ H1 _ G1 Γ1 M1 r1 v Q R k1 rr1 h1 (q.es e1)
theorem qt_chainN {op op' : CmpOp} {ops : List CmpOp} {b' : Expr} {rs : List Expr} {t : TL} {al : AL} (ha : QE X ρ a ta aa) (hl : QL X ρ (op :: op' :: ops) (b :: b' :: rs) t al) (hm : lastMarks (op :: op' :: ops) (b :: b' :: rs) = false := by with_unfolding_all rfl) :
    QT X ρ (.Compare a (op :: op' :: ops) (b :: b' :: rs) pos) (tTest (tChainN ta t)) (aTst (aChainN aa al)) :=
  ⟨⟨fun pins s σ H Q I h => isTrue_chain (thn (ha.pe.run pins s σ H _ I h) fun v s1 ⟨x, H1, I1, r1, q1⟩ => hl.tst pos pins s1 σ H1 Q x v I1 r1 q1) hm⟩, rd_tst' (rd_chainN ha.rd hl)⟩
def agTL (n : Nat) (u : AGs) (d : D) (Γ : Sl) (Q : Sl → Prop) : Prop := match d with
  | .lst ds => ds.length = n ∧ u ds Γ Q
  | _ => False
def enumK {α : Type} : Nat → List α → List (L2.Key × α)
  | _, [] => []
  | i, x :: xs => (.inl (i : Int), x) :: enumK (i + 1) xs
def aDictEnum (aa : AE) (Γ : Sl) (M : Mem) (Q : Ret → Sl → Mem → Prop) : Prop := aa Γ M fun r Γ1 M1 => match sqOf r Γ1 M1 with
  | some (.lst ds) => Q (.tmp (.dct (mergeA ([], []) (enumK 0 ds)).1 (mergeA ([], []) (enumK 0 ds)).2)) Γ1 M1
  | _ => False
end
end Gw

namespace Gw
open PySem L2
variable {ρ : Ent}
section
variable {X : Cx} {a b c e : Expr} {ta tb tc te : TE} {aa ab ac ae : AE} {pos : Pos} {K : PySem.W.Frag} {B : Ent} {σ : St} {H G H1 G1 H2 G2 H0 : Hp} {Γ Γ1 Γ2 : Sl} {M M1 M2 : Mem}
inductive Knd where
  | int | bool | str | tuple | list | dict
def Knd.nm : Knd → String
  | .int => "int" | .bool => "bool" | .str => "str" | .tuple => "tuple" | .list => "list" | .dict => "dict"
def isD : Knd → D → Bool
  | .int, .int _ => true
  | .int, .bl _ => true
  | .bool, .bl _ => true
  | .str, .str _ => true
  | .tuple, .tup _ => true
  | .list, .lst _ => true
  | .list, .scr _ => true
  | .dict, .dct _ _ => true
  | _, _ => false
def kdOf (r : Ret) (Γ : Sl) (M : Mem) : Option D := match r with
  | .dat d => match d with
    | .ref a => match M.lookup a with
      | some (.lst ds) => some (.lst ds)
      | some (.dct ks ds) => some (.dct ks ds)
      | _ => none
    | .exc _ _ _ => none
    | .dcT _ _ => none
    | .dcN _ _ => none
    | .clo _ _ => none
    | d => some d
  | .tmp (.lst ds) => some (.lst ds)
  | .tmp (.dct ks ds) => some (.dct ks ds)
  | .tmp (.dcT _ _) => none
  | .tmp (.dcN _ _) => none
  | .tmp (.ins _ _ _) => none
  | .tmp (.tab _) => none
  | .var i => match Γ[i]? with
    | some (.own (.lst ds)) => some (.lst ds)
    | some (.own (.dct ks ds)) => some (.dct ks ds)
    | _ => none
def aIsi (T : Knd) (r : Ret) (Γ : Sl) (M : Mem) (Q : Ret → Sl → Mem → Prop) : Prop := match kdOf r Γ M with
  | some d => Q (.dat (.bl (isD T d))) Γ M
  | none => False
def aInT (f : Bool → Bool) (x : Ret) (y : Ret) (Γ : Sl) (M : Mem) (Q : Ret → Sl → Mem → Prop) : Prop := match dOf x Γ M, dOf y Γ M with
  | some d, some e => match e with
    | .tup ds => cmpOk d = true ∧ cmpOk (.lst ds) = true ∧ Q (.dat (.bl (f (inD d ds)))) Γ M
    | .lst ds => cmpOk d = true ∧ cmpOk (.lst ds) = true ∧ Q (.dat (.bl (f (inD d ds)))) Γ M
    | _ => False
  | _, _ => False
def aRevL (r : Ret) (Γ : Sl) (M : Mem) (Q : Ret → Sl → Mem → Prop) : Prop := match sqOf r Γ M with
  | some (.lst ds) => Q (.tmp (.lst ds.reverse)) Γ M
  | some (.scr ds) => Q (.tmp (.lst ds.reverse)) Γ M
  | _ => False
def aMaxI (lt : Int → Int → Prop) (r : Ret) (Γ : Sl) (M : Mem) (Q : Ret → Sl → Mem → Prop) : Prop := match sqOf r Γ M with
  | some (.lst ds) => match intsOf ds with
    | some ns => 0 < ns.length ∧ ∀ m, m ∈ ns → (∀ y, y ∈ ns → lt y m) → Q (.dat (.int m)) Γ M
    | none => False
  | _ => False
def aUnpS (n i : Nat) (aa : AE) (u : AGs) (A : AEnds) (Γ : Sl) (M : Mem) : Prop := aa Γ M fun r Γ1 M1 => frz r Γ1 fun d Γ2 => match d with
  | .tup ds => n ≤ ds.length + 1 ∧ ds.length ≤ 16384 ∧ u (ds.take i ++ [.lst ((ds.drop i).take (ds.length + 1 - n))] ++ (ds.drop i).drop (ds.length + 1 - n)) Γ2 fun Γ3 => A.nx Γ3 M1
  | _ => False
end
end Gw

namespace Gw
open PySem L2
variable {ρ : Ent}
theorem aEq_ii {f : Bool → Bool} {i j : Int} {Γ : Sl} {M : Mem} {Q : Ret → Sl → Mem → Prop} : aEq f (.dat (.int i)) (.dat (.int j)) Γ M Q = Q (.dat (.bl (f (decide (i = j))))) Γ M := by
  unfold aEq
  simp only [dOf, cmp_int, eqD_int, true_and]
structure WitR (Q : Ret → Sl → Mem → Prop) : Type where
def hold (F : (Ret → Sl → Mem → Prop) → Prop) (Q : Ret → Sl → Mem → Prop) (_ : WitR Q) : Prop := F Q
theorem aEq_w {f : Bool → Bool} {x y : Ret} {Γ : Sl} {M : Mem} {Q : Ret → Sl → Mem → Prop} : aEq f x y Γ M Q = hold (aEq f x y Γ M) Q ⟨⟩ := by simp only [hold]
theorem aInT_w {f : Bool → Bool} {x y : Ret} {Γ : Sl} {M : Mem} {Q : Ret → Sl → Mem → Prop} : aInT f x y Γ M Q = hold (aInT f x y Γ M) Q ⟨⟩ := by simp only [hold]
theorem aRepr_w {x : Ret} {Γ : Sl} {M : Mem} {Q : Ret → Sl → Mem → Prop} : aRepr x Γ M Q = hold (aRepr x Γ M) Q ⟨⟩ := by simp only [hold]
theorem aIsi_w {T : Knd} {x : Ret} {Γ : Sl} {M : Mem} {Q : Ret → Sl → Mem → Prop} : aIsi T x Γ M Q = hold (aIsi T x Γ M) Q ⟨⟩ := by simp only [hold]
theorem hold_ii {f : Bool → Bool} {i j : Int} {Γ : Sl} {M : Mem} {Q : Ret → Sl → Mem → Prop} : hold (aEq f (.dat (.int i)) (.dat (.int j)) Γ M) Q ⟨⟩ = Q (.dat (.bl (f (decide (i = j))))) Γ M := by simp only [hold, aEq_ii]
theorem hold_bb {f : Bool → Bool} {i j : Bool} {Γ : Sl} {M : Mem} {Q : Ret → Sl → Mem → Prop} : hold (aEq f (.dat (.bl i)) (.dat (.bl j)) Γ M) Q ⟨⟩ = Q (.dat (.bl (f (decide (i = j))))) Γ M := by
  show aEq f (.dat (.bl i)) (.dat (.bl j)) Γ M Q = _
  unfold aEq
  have c : ∀ b : Bool, cmpOk (.bl b) = true := fun b => cmp_of (by simp [safe]) (by simp [dep])
  simp only [dOf, c, true_and]
  cases i <;> cases j <;> rfl
end Gw

namespace Gw
open PySem L2
variable {ρ : Ent}
def e_aAbs := @aAbs.eq_def
def e_aAllB := @aAllB.eq_def
def e_aAnd := @aAnd.eq_def
def e_aAndV := @aAndV.eq_def
def e_aAsg := @aAsg.eq_def
def e_aAsgF := @aAsgF.eq_def
def e_aAugC := @aAugC.eq_def
def e_aAugI := @aAugI.eq_def
def e_aAugL := @aAugL.eq_def
def e_aAugX := @aAugX.eq_def
def e_aBrk := @aBrk.eq_def
def e_aC := @aC.eq_def
def e_aCall := @aCall.eq_def
def e_aCall1 := @aCall1.eq_def
def e_aCall2 := @aCall2.eq_def
def e_aCallP := @aCallP.eq_def
def e_aCat := @aCat.eq_def
def e_aCatT := @aCatT.eq_def
def e_aChain := @aChain.eq_def
def e_aChainN := @aChainN.eq_def
def e_aCnt := @aCnt.eq_def
def e_aCons := @aCons.eq_def
def e_aDGet := @aDGet.eq_def
def e_aDGet2 := @aDGet2.eq_def
def e_aDIn := @aDIn.eq_def
def e_aDNew := @aDNew.eq_def
def e_aDPut := @aDPut.eq_def
def e_aDictEnum := @aDictEnum.eq_def
def e_aDictP := @aDictP.eq_def
def e_aDisp := @aDisp.eq_def
def e_aDrop := @aDrop.eq_def
def e_aEq := @aEq.eq_def
def e_aEqS := @aEqS.eq_def
def e_aFor := @aFor.eq_def
def e_aI0 := @aI0.eq_def
def e_aI3 := @aI3.eq_def
def e_aIC := @aIC.eq_def
def e_aIItems := @aIItems.eq_def
def e_aISeq := @aISeq.eq_def
def e_aITup := @aITup.eq_def
def e_aIenum := @aIenum.eq_def
def e_aIfE := @aIfE.eq_def
def e_aIfS := @aIfS.eq_def
def e_aIn := @aIn.eq_def
def e_aInT := @aInT.eq_def
def e_aInt := @aInt.eq_def
def e_aIrev := @aIrev.eq_def
def e_aIsN := @aIsN.eq_def
def e_aIsi := @aIsi.eq_def
def e_aIx := @aIx.eq_def
def e_aIzip := @aIzip.eq_def
def e_aLItems := @aLItems.eq_def
def e_aLast := @aLast.eq_def
def e_aLc := @aLc.eq_def
def e_aLen := @aLen.eq_def
def e_aLink := @aLink.eq_def
def e_aList := @aList.eq_def
def e_aLk := @aLk.eq_def
def e_aLst := @aLst.eq_def
def e_aMaxI := @aMaxI.eq_def
def e_aMeth := @aMeth.eq_def
def e_aMeth0 := @aMeth0.eq_def
def e_aNeg := @aNeg.eq_def
def e_aNext := @aNext.eq_def
def e_aNil := @aNil.eq_def
def e_aNot := @aNot.eq_def
def e_aNotV := @aNotV.eq_def
def e_aON := @aON.eq_def
def e_aOS := @aOS.eq_def
def e_aOp := @aOp.eq_def
def e_aOr := @aOr.eq_def
def e_aOrV := @aOrV.eq_def
def e_aPar := @aPar.eq_def
def e_aPar3 := @aPar3.eq_def
def e_aParO := @aParO.eq_def
def e_aRep := @aRep.eq_def
def e_aRepr := @aRepr.eq_def
def e_aRet := @aRet.eq_def
def e_aRevL := @aRevL.eq_def
def e_aRng1 := @aRng1.eq_def
def e_aRng2 := @aRng2.eq_def
def e_aSeq := @aSeq.eq_def
def e_aSetI := @aSetI.eq_def
def e_aSh := @aSh.eq_def
def e_aShV := @aShV.eq_def
def e_aSl := @aSl.eq_def
def e_aSortI := @aSortI.eq_def
def e_aTst := @aTst.eq_def
def e_aTup := @aTup.eq_def
def e_aTuple := @aTuple.eq_def
def e_aUn := @aUn.eq_def
def e_aUnp := @aUnp.eq_def
def e_aUnpS := @aUnpS.eq_def
def e_aVar := @aVar.eq_def
def e_aYes := @aYes.eq_def
def e_agCons := @agCons.eq_def
def e_agN := @agN.eq_def
def e_agNil := @agNil.eq_def
def e_agT := @agT.eq_def
def e_agTL := @agTL.eq_def
def e_amApp := @amApp.eq_def
def e_amExt := @amExt.eq_def
def e_amIns := @amIns.eq_def
def e_amPop := @amPop.eq_def
def e_amPopAt := @amPopAt.eq_def
def e_apCons := @apCons.eq_def
def e_apNil := @apNil.eq_def
def e_cget := @cget.eq_def
def e_cput := @cput.eq_def
def e_dOf := @dOf.eq_def
def e_dctOf := @dctOf.eq_def
def e_frz := @frz.eq_def
def e_kdOf := @kdOf.eq_def
def e_lget := @lget.eq_def
def e_lput := @lput.eq_def
def e_sqOf := @sqOf.eq_def
end Gw

namespace Gw
open PySem L2
variable {ρ : Ent}
section
variable {X : Cx} {a b c e : Expr} {ta tb tc te : TE} {aa ab ac ae : AE} {pos : Pos} {K : PySem.W.Frag} {B : Ent} {σ : St} {H G H1 G1 H2 G2 H0 : Hp} {Γ Γ1 Γ2 : Sl} {M M1 M2 : Mem}
def aReprX (r : Ret) (Γ : Sl) (M : Mem) (Q : Ret → Sl → Mem → Prop) : Prop := match r with
  | .dat (.dct [] []) => Q (.dat (.str "{}")) Γ M
  | r => aRepr r Γ M Q
theorem aReprX_w {x : Ret} {Γ : Sl} {M : Mem} {Q : Ret → Sl → Mem → Prop} : aReprX x Γ M Q = hold (aReprX x Γ M) Q ⟨⟩ := by simp only [hold]
end
end Gw

namespace Gw
open PySem L2
variable {ρ : Ent}
open PySem.W (EachIs AllAlike Sortable dataLe dataLt alike alikeAll)
section
variable {X : Cx} {a b c e : Expr} {ta tb tc te : TE} {aa ab ac ae : AE} {pos : Pos} {K : PySem.W.Frag} {B : Ent} {σ : St} {H G H1 G1 H2 G2 H0 : Hp} {Γ Γ1 Γ2 : Sl} {M M1 M2 : Mem}
def leD (d e : D) : Bool := !dataLt (toPy e) (toPy d)
def sortD (ds : List D) : List D := ds.mergeSort leD
def rSortD (K : PySem.W.Frag) : List V → Hp → VK → Prop := fun vs H Q => ∃ (p : Addr) (xs : List V) (ds : List D), vs = [.ref p] ∧ SqL K H p xs ∧ xs.length = ds.length ∧ (∀ q ∈ xs.zip ds, Dp K H q.1 (toPy q.2)) ∧
  AllAlike (ds.map toPy) ∧ Sortable (ds.map toPy) ∧ (∀ d ∈ ds, (toPy d).depth ≤ 64) ∧
  ∀ (ps : List (V × D)) (l : Addr), ps.Perm (xs.zip ds) → ps.map (·.2) = sortD ds → H l = none → Q (.ref l) (upd H l (.lst (ps.map (·.1))))
theorem each_zip {R : Value → V × D → Prop} : ∀ {xs : List V} {us : List Value} {ds : List D}, Vals xs us → xs.length = ds.length → (∀ q ∈ xs.zip ds, ∀ u, RelV q.1 u → R u q) → EachIs R us (xs.zip ds)
  | [], _, [], .nil, _, _ => .nil
  | x :: xs, _ :: us, d :: ds, .cons r t, hl, h => .cons (h (x, d) (by simp) _ r) (each_zip t (by simpa using hl) fun q hq u hu => h q (by rw [List.zip_cons_cons]; exact List.mem_cons_of_mem _ hq) u hu)
  | [], _, _ :: _, .nil, hl, _ => by simp at hl
  | _ :: _, _, [], _, hl, _ => by simp at hl
theorem vals_each : ∀ {ps : List (V × D)} {us : List Value}, EachIs (fun u (q : V × D) => RelV q.1 u) us ps → Vals (ps.map (·.1)) us
  | [], _, .nil => .nil
  | _ :: _, _, .cons r t => .cons r (vals_each t)
theorem call_sortD (hu : X.A.units + 100 < cLine) : CallR X (.builtin "sorted") (rSortD X.K) := by
  intro pins s σ H vs us Q I r h
  obtain ⟨p, xs, ds, rfl, hs, hl, hd, hal, hk, hdep, q⟩ := h
  obtain ⟨its, rv, hit, hz⟩ := I.list hs
  rw [Vals.ref1 r]
  have em : (xs.zip ds).map (fun q => toPy q.2) = ds.map toPy := by
    rw [show (fun q : V × D => toPy q.2) = toPy ∘ Prod.snd from rfl, ← List.map_map, List.map_snd_zip (by omega)]
  have e : EachIs (fun u (q : V × D) => RelV q.1 u) its (xs.zip ds) := each_zip rv hl fun q _ u hu => hu
  have er : EachIs (fun u (q : V × D) => ∃ as, Reads s.heap u (toPy q.2) as) its (xs.zip ds) := each_zip rv hl fun q hq u hu => Dp.reads I _ _ _ (hd q hq) hu
  refine PySem.W.sorted_data (enc := fun q : V × D => toPy q.2) hit.isList e er (by rw [em]; exact hal) (by rw [em]; exact hk) (by rw [List.length_zip]; omega) (fun b hb => ?_) fun out ho eo => ?_
  · have := hdep b.2 (List.of_mem_zip hb).2
    omega
  · obtain ⟨ep, he'⟩ := PyProof.Rows.sortedAll_at s.heap its (List.toArray out)
    have v1 := vals_each eo
    have hlen : (((xs.zip ds).mergeSort (dataLe false fun q : V × D => toPy q.2)).map (·.1)).length ≤ sizeLine := by
      rw [List.length_map, List.length_mergeSort, List.length_zip]; omega
    refine ⟨.ref _, upd H (s.heap.objs.size + 1) (.lst _), I.laid (t' := s.toks) (fun _ _ => PyProof.Rows.sortedAll_old) (Nat.le_succ _) ⟨hlen, out, ep, v1, he'⟩, rfl, q _ _ (List.mergeSort_perm _ _) ?_ (I.hok.fresh (Nat.le_succ _))⟩
    rw [List.map_mergeSort (s := leD) (fun a _ b _ => by rw [PySem.W.dataLe_eq]; rfl), List.map_snd_zip (by omega)]
    rfl
def aSortD (r : Ret) (Γ : Sl) (M : Mem) (Q : Ret → Sl → Mem → Prop) : Prop := match sqOf r Γ M with
  | some (.lst ds) => (∀ d ∈ ds, plain d = true ∧ dep d ≤ 64) ∧ AllAlike (ds.map toPy) ∧ Sortable (ds.map toPy) ∧ Q (.tmp (.lst (sortD ds))) Γ M
  | _ => False
theorem repL_zip : ∀ {ds : List D} {xs : List V}, RepL K G ds xs → ∀ q ∈ xs.zip ds, Rep K G q.2 q.1
  | [], _, h, q, hq => by rw [repL_nil.mp h] at hq; simp at hq
  | d :: ds, _, h, q, hq => by
    obtain ⟨x, r, rfl, h1, h2⟩ := repL_cons.mp h
    rw [List.zip_cons_cons, List.mem_cons] at hq
    rcases hq with rfl | hq
    · exact h1
    · exact repL_zip h2 q hq
theorem repL_pairs : ∀ {ps : List (V × D)}, (∀ q ∈ ps, Rep K G q.2 q.1) → RepL K G (ps.map (·.2)) (ps.map (·.1))
  | [], _ => repL_nil.mpr rfl
  | p :: ps, h => repL_cons.mpr ⟨_, _, rfl, h p List.mem_cons_self, repL_pairs fun q hq => h q (List.mem_cons_of_mem _ hq)⟩
theorem rd_sortD : RdU K ρ (rSortD K) aSortD := by
  intro B σ H H1 G Γ M rx x Q R k r1 h q
  unfold aSortD at h
  split at h
  · rename_i ds hs
    obtain ⟨hp, hal, hk, h⟩ := h
    obtain ⟨p, xs, e, hx, rl⟩ := sqOf_ok k r1 hs
    have rz := repL_zip rl
    refine ⟨p, xs, ds, by rw [e], SqL.of hx, rl.length, fun q hq => ((rz q hq).mono k.ex).dp (hp q.2 (List.of_mem_zip hq).2).1, hal, hk, fun d hd => by rw [dep_py]; exact (hp d hd).2, fun ps l hps he hl => ?_⟩
    have r2 : RepL K G (sortD ds) (ps.map (·.1)) := by
      rw [← he]
      exact repL_pairs fun q hq => rz q (hps.mem_iff.mp hq)
    exact q.newL k r2 h l hl
  · exact h.elim
theorem q_sortD {p : Pos} (hu : X.A.units + 100 < cLine) (hm : X.mg "sorted" = none) (ha : QE X ρ a ta aa) (hg : Gl X "sorted" := by rfl) (na : starEach [a] X.env = (false, eval a X.env) :: starEach [] X.env := by rfl) (hK : X.K = K := by rfl) :
    QE X ρ (.Call (.Name "sorted" p) [a] [] pos) (tCB (rSortD K) (tCons ta tNil)) (aCall1 aSortD aa) := by subst hK; exact q_callB1 (call_sortD hu) rd_sortD hm ha hg (na := na)
theorem aSortD_w {x : Ret} {Γ : Sl} {M : Mem} {Q : Ret → Sl → Mem → Prop} : aSortD x Γ M Q = hold (aSortD x Γ M) Q ⟨⟩ := by simp only [hold]
end
end Gw

namespace Gw
open PySem L2 PyProof.Rows
variable {ρ : Ent}
structure Xc where
  cn : Str
  ns : List Str
  ds : List D
def Xc.d (x : Xc) : D := .exc x.cn x.ns x.ds
def RepX (K : PySem.W.Frag) (G : Hp) (x : Xc) (cls : Value) (d : Option Addr) : Prop :=
  ∃ C ws, cls = .ref C ∧ PySem.W.nsIn K mainGlobals x.cn = some (some (.ref C)) ∧ XD G d ws ∧ ws.map (·.1) = x.ns ∧ RepL K G x.ds (ws.map (·.2))
theorem RepX.mono {K : PySem.W.Frag} {G G' : Hp} {x : Xc} {cls : Value} {d : Option Addr} (e : Ex G G') (h : RepX K G x cls d) : RepX K G' x cls d := by
  obtain ⟨C, ws, h1, h2, h3, h4, h5⟩ := h
  exact ⟨C, ws, h1, h2, h3.mono e, h4, h5.mono e⟩
abbrev XW := Xc → Sl → Mem → Prop
abbrev ASx := List D → Mem → (Ret → Mem → Prop) → (Xc → Mem → Prop) → Prop
def Conn (K : PySem.W.Frag) (ρ : Ent) (W : WX) (w : XW) : Prop :=
  ∀ B σ H G Γ M x cls d, Ok K ρ B σ H G Γ M → RepX K G x cls d → w x Γ M → W cls d σ H
def spX (K : PySem.W.Frag) (n : Nat) (S : ASx) : Sp := fun vs H Q E => ∃ G M ds, vs.length = n ∧ Ex G H ∧ (dom M).Nodup ∧ (∀ a c, (a, c) ∈ M → Cel K H G a c) ∧ RepL K G ds vs ∧
  ∃ (Qa : Ret → Mem → Prop) (Xa : Xc → Mem → Prop), S ds M Qa Xa ∧ (∀ r M' v H' G', Qa r M' → Post K H G M H' G' M' → RetOk K H H' G' M' r v → Q v H') ∧
    ∀ x M' cls d H' G', Xa x M' → Post K H G M H' G' M' → RepX K G' x cls d → E cls d H'
structure WitX (Q : Ret → Mem → Prop) (Z : Xc → Mem → Prop) : Type where
def apX (S : ASx) (ds : List D) (M : Mem) (Q : Ret → Mem → Prop) (Z : Xc → Mem → Prop) (_ : WitX Q Z) : Prop := S ds M Q Z
def aCallX (w : XW) (S : ASx) (aa : AA) (Γ : Sl) (M : Mem) (Q : Ret → Sl → Mem → Prop) : Prop := aa Γ M fun ds Γ1 M1 => apX S ds M1 (fun r M2 => Q r Γ1 M2) (fun x M2 => w x Γ1 M2) ⟨⟩
def ArX (n : Nat) (S : ASx) : Prop := ∀ ds M Q Z, S ds M Q Z → ds.length = n
section
variable {X : Cx} {K : PySem.W.Frag} {B : Ent} {σ : L2.St} {H G H1 G1 H2 G2 : Hp} {Γ Γ1 Γ2 : Sl} {M M1 M2 : Mem}
theorem rd_callX {n : Nat} {S : ASx} {W : WX} {w : XW} {tr : TA} {ar : AA} (hn : ArX n S) (cn : Conn K ρ W w) (ha : RdA K ρ tr ar) : RdE K ρ (tCallS (spX K n S) (WE W) tr) (aCallX w S ar) := by
  intro B σ H G Γ M Q R k h q
  refine ha B σ H G Γ M _ _ k h fun vs H1 G1 Γ1 M1 ds k1 e1 rl h1 => ?_
  refine ⟨G1, M1, ds, by rw [rl.length]; exact hn _ _ _ _ h1, k1.ex, k1.nd, k1.ms, rl, _, _, h1, fun r M' v H' G' hq p rr => ?_, fun x M' cls d H' G' hq p rx => ?_⟩
  · obtain ⟨k2, e2, r2⟩ := k1.call p rr
    exact q _ H' G' Γ1 M' r k2 (e1.trans e2) (r2.old e1.nn) hq
  · obtain ⟨k2, e2, r2⟩ := k1.call (r := .dat .non) (v := .non) p (by simp only [RetOk, Rep])
    exact cn B σ H' G' Γ1 M' x cls d k2 rx hq
section
variable {k : Nat} {f : Addr} {fd : FuncData} {ps : List Str} {S : ASx} {x : Str} {p pos : Pos} {a : Expr} {es : List Expr} {tr : TA} {ar : AA} {W : WX} {w : XW}
theorem pe_callX {CX : CXT} {sp : Sp} {E : L2.St → XK} (F : FnG X.prog X.w X.K X.mg X.base CX k f fd ps sp) (room : Room k X.A) (gd : X.A.guards = some []) (hg : Gl X x) (hm : X.mg x = some (.ref f)) (hk : PySem.W.keepIn X.K (.ref f) = true) (hb : Binds X.K fd ps []) (hx : ∀ σ, PassesAt CX X σ (E σ))
    (ha : PA X (a :: es) tr) (hdb : (x == ("__debug__" : Str)) = false) (he : starEach (a :: es) X.env = (false, eval a X.env) :: starEach es X.env) (hpl : (backTo pos (starEach es X.env)).any (·.1) = false) :
    PE X (.Call (.Name x p) (a :: es) [] pos) (tCallS sp E tr) := by
  refine ⟨fun pins s σ H Q I h => wpAny_Call_Name_kw (ld_glob I hg hm ?_ hdb)⟩
  refine PySem.W.callWith_K (h₀ := X.base) I.ok.mod.kin hk (thn (ha.run pos pins s σ H _ I h) ?_) he hpl
  rintro us s1 ⟨vs, H1, I1, r, q⟩
  have hl : us.length = ps.length := by rw [← r.length]; exact F.arity _ _ _ _ q
  have b := hb s1 us I1.kIn (by rw [List.append_nil]; exact hl)
  rw [List.append_nil] at b
  refine ⟨I1.kIn, wpAny_call (codeAny_mono (F.go X.A X.stack s1 H1 ⟨us, []⟩ us vs Q (E σ) room gd I1.env0 b r q) fun res s' hq => ?_)⟩
  exact match res, hq with
    | .ok (.ret u), hq => I1.after hq
    | .ok .next, hq => hq.elim
    | .ok .brk, hq => hq.elim
    | .ok .cont, hq => hq.elim
    | .error e, hq => hx σ pins H1 s1 e s' I1 hq
theorem q_callX (F : FnG X.prog X.w X.K X.mg X.base (L2.CX X.prog X.w) k f fd ps (spX X.K n S)) (hr : Room k X.A) (gd : X.A.guards = some []) (hm : X.mg x = some (.ref f)) (hk : PySem.W.keepIn X.K (.ref f) = true) (hb : Binds X.K fd ps []) (hn : ArX n S)
    (tk : Takes X W) (cn : Conn X.K ρ W w) (ha : QA X ρ (a :: es) tr ar) (hg : Gl X x := by rfl) (hdb : (x == ("__debug__" : Str)) = false := by decide) (he : starEach (a :: es) X.env = (false, eval a X.env) :: starEach es X.env := by rfl) (hpl : (backTo pos (starEach es X.env)).any (·.1) = false := by rfl) :
    QE X ρ (.Call (.Name x p) (a :: es) [] pos) (tCallS (spX X.K n S) (WE W) tr) (aCallX w S ar) := ⟨pe_callX F hr gd hg hm hk hb (passAt tk) ha.pe hdb he hpl, rd_callX hn cn ha.rd⟩
end
end
theorem Ok.base {K : PySem.W.Frag} {B : Ent} {σ : L2.St} {H G : Hp} {Γ : Sl} {M : Mem} (k : Ok K ρ B σ H G Γ M) : Ok K ρ ρ σ H G Γ M := by
  obtain ⟨PH, PG, PA⟩ := ρ
  obtain ⟨BH, BG, BA⟩ := B
  obtain ⟨h1, h2, h3, h4⟩ := id k.pb
  dsimp only at h1 h2 h3 h4
  subst h1 h2
  exact (Ok.back (B := ⟨BH, PG, BA⟩) (Refi.refl _) k h3 h4).1
section
variable {P : Program} {w : World} {K : PySem.W.Frag} {mg : Str → Option Value} {base : Heap}
theorem takes_cx {N : List Str} {qual : Str} {scope : Scope} {f : Addr} {cd : Value} {A : Around} {outer : List Env} {s : Shared} {H : Hp} {E : XK} :
    Takes (cxOf (L2.CX P w) P w K mg base N qual scope f cd A outer s H E) (fun cls d _ H => E cls d H) := takes_of rfl rfl rfl rfl
theorem fn_okX {k : Nat} {x qual : Str} {st : Stmt} {f : Addr} {fd : FuncData} {N ps : List Str} {S : ASx} (F : Fun K x qual st f fd) (sc : FnScope N ps (defScope st)) (hn : ArX ps.length S) {as : XW → AS}
    (hb : ∀ (ρ : Ent) (cd : Value) (A : Around) (outer : List Env) (s : Shared) (H : Hp) (E : XK) (xw : XW), Room k (A.deeper (envOfC qual (defScope st) s.heap.objs.size f cd)) → A.guards = some [] → Conn K ρ (fun cls d _ H => E cls d H) xw →
      ∃ ts, QSs (cxOf (L2.CX P w) P w K mg base N qual (defScope st) f cd A outer s H E) ρ (defBody st) ts (as xw))
    (hr : ∀ ds M Q Z, S ds M Q Z → as (fun x _ M => Z x M) (endsOf Q) (slots N.length ds) M) : FnG P w K mg base (L2.CX P w) (k + 1) f fd ps (spX K ps.length S) := by
  refine fnG_of F sc (fun vs H Q E h => ?_) fun cd A outer s H vs Q E room gd h => ?_
  · obtain ⟨G, M, ds, hl, _⟩ := h; exact hl
  · obtain ⟨G, M, ds, hl, ex, nd, ms, rl, Qa, Xa, hS, fin, finX⟩ := h
    have cn : Conn K ⟨H, G, dom M⟩ (fun cls d _ H => E cls d H) (fun x _ M => Xa x M) := fun B σ H' G' Γ' M' x cls d k' rx hx => by
      have k2 := k'.base
      exact finX x M' cls d H' G' hx ⟨k2.st, k2.ex, k2.nd, k2.ms⟩ rx
    obtain ⟨ts, q⟩ := hb ⟨H, G, dom M⟩ cd A outer s H E _ room gd cn
    refine ⟨ts, q.pe, q.rd ⟨H, G, dom M⟩ (L2.start N vs) H G (slots N.length ds) M (endsOf Qa) _ (ok_start ex nd ms rl) (hr ds M Qa Xa hS) ⟨fun σ H' G' Γ' M' k' z => ?_, fun σ H0 H' G' Γ' M' r v k' rr z => ?_, fun _ _ _ _ _ _ z => z.elim, fun _ _ _ _ _ _ z => z.elim⟩⟩
    · exact fin (.dat .non) M' .non H' G' z ⟨k'.st, k'.ex, k'.nd, k'.ms⟩ (by simp only [RetOk, Rep])
    · have post : Post K H G M H' G' M' := ⟨k'.st, k'.ex, k'.nd, k'.ms⟩
      cases r with
      | dat d => exact fin (.dat d) M' v H' G' z post rr
      | tmp c =>
        obtain ⟨p, e, _, hb, hc, hm, _⟩ := rr
        exact fin (.tmp c) M' v H' G' z post ⟨p, e, hb, hc, hm⟩
      | var i =>
        simp only [endsOf, ret] at z
        split at z
        · rename_i c e1
          obtain ⟨p, s1, hb, hm, hc⟩ := k'.own i c e1
          have : v = .ref p := by have := (show (_ : L2.St)[i]? = some (some v) from rr); rw [s1] at this; cases this; rfl
          exact fin (.tmp c) M' v H' G' z post ⟨p, this, hb, hc, hm⟩
        · rename_i d e1
          obtain ⟨v', h1, h2⟩ := k'.dat i d e1
          have : v' = v := by have := (show (_ : L2.St)[i]? = some (some v) from rr); rw [h1] at this; cases this; rfl
          subst this
          exact fin (.dat d) M' _ H' G' z post h2
        · exact z.elim
end
end Gw

namespace Gw
open PySem PySem.Spec L2 PyProof.Rows
theorem fly_keeps {base : Heap} {l : List Env} {e : Addr} {Z : Obj → Prop} {h h' : Heap} (fl : HandSPX.FlyingZ base l e Z h) (k : ∀ b o, h.get? b = some o → h'.get? b = some o) : HandSPX.FlyingZ base l e Z h' := by
  obtain ⟨k1, k2, k3, oe, vs, T, oT, ts, he, hz, hd, h1, hnT, hTe, hT, hdT, h3⟩ := fl
  exact ⟨fun b o q => k b o (k1 b o q), k2, Heap.FunFrames.of_keeps (fun b o e _ => ⟨o, k b o e, rfl⟩) k3, oe, vs, T, oT, ts, k _ _ he, hz, hd, h1, hnT, hTe, k _ _ hT, hdT, h3⟩
abbrev hnd (X : Cx) (a : Addr) : Cx := { X with A := X.A.mark (some (.ref a)), calm := false, xe := fun _ _ => False }
theorem xob_ok {P : Program} {w : World} {H : Hp} {h : Heap} {a C : Addr} {d : Option Addr} {oe : Obj} {vs : Array Value} (e : h.get? a = some oe) (z : Zc (.ref C) d oe) (f : oe.data = .fields vs) : ObjOk P w H h a (xob a C d) :=
  ⟨⟨oe, vs, e, z, f⟩, ⟨oe, e⟩, fun _ _ ⟨o, v, q, r⟩ k => ⟨o, v, k o q, r⟩⟩
section
variable {X : Cx} {pins : List (Addr × Obj)} {σ : L2.St} {H : Hp} {s : Shared}
theorem hnd_ok (ok : X.Ok) (a : Addr) : (hnd X a).Ok :=
  ⟨ok.mod, ok.kind, ok.glob, ok.blt, ok.above, ok.inj, ok.has, ok.cab, (fun z => absurd (show false = true from z) Bool.false_ne_true), ok.frames, ok.stk, ok.exf, ok.bs, ok.bsz, ok.noex, ok.exfs, ok.funs, ok.frf⟩
theorem Inv.hnd (I : Inv X pins σ H s) {a C : Addr} {d : Option Addr} {oe : Obj} {vs : Array Value} (ha : s.heap.get? a = some oe) (hz : Zc (.ref C) d oe) (hd : oe.data = .fields vs) (na : H a = none) (nL : a ≠ X.env.locals)
    (n0 : X.s_0.heap.get? a = none) (np : ∀ p ∈ X.pn ++ pins, p.1 ≠ a) (nc : ∀ x c, X.env.cells.lookup x = some c → c ≠ a) : Inv (Gw.hnd X a) pins σ (upd H a (xob a C d)) s := by
  have n1 : ∀ b o, X.s_0.heap.get? b = some o → b ≠ a := fun b o e z => nomatch (z ▸ e).symm.trans n0
  refine ⟨hnd_ok I.ok a, I.os, I.bare, ⟨I.base.keep, I.base.slot, fun b o e n x => ?_, I.base.there, fun b xs e => ?_, fun b o u e => ?_, fun b ps e => ?_⟩, I.loc, I.cell, ?_, fun x c e => ?_, fun p hp => ?_, fun b o e => ?_, I.len⟩
  · rw [upd_ne (n1 b o e)]; exact I.base.free b o e n x
  · have q := I.base.tups b xs e
    rw [upd_ne (ne_of_none q na)]; exact q
  · have q := I.base.frzs b o u e
    rw [upd_ne (ne_of_none q na)]; exact q
  · obtain ⟨m, q⟩ := I.base.tbls b ps e
    exact ⟨m, by rw [upd_ne (ne_of_none q na)]; exact q⟩
  · show upd H a (xob a C d) X.env.locals = none
    rw [upd_ne (fun z => nL z.symm)]; exact I.free
  · show upd H a (xob a C d) c = none
    rw [upd_ne (nc x c e)]; exact I.freeC x c e
  · obtain ⟨e, n, ne, nf, dd⟩ := I.pin p hp
    exact ⟨e, by rw [upd_ne (np p hp)]; exact n, ne, nf, dd⟩
  · by_cases hb : b = a
    · subst hb; rw [upd_same] at e; cases e
      exact xob_ok ha hz hd
    · rw [upd_ne hb] at e
      exact (I.hok b o e).stay (fun _ _ _ q => q) (fun c hc => by rw [upd_ne (ne_of_none hc na)]; exact hc) (fun c xs hc => by rw [upd_ne (ne_of_none hc na)]; exact hc)
theorem Inv.unhnd {a : Addr} (I : Inv (Gw.hnd X a) pins σ H s) (ok : X.Ok) : Inv X pins σ H s :=
  ⟨ok, I.os, I.bare, I.base, I.loc, I.cell, I.free, I.freeC, I.pin, I.hok, I.len⟩
inductive Tst (X : Cx) : Expr → List Value → Prop
  | one {x : Str} {c : Value} {np : Pos} (h : Names X x c) : Tst X (.Name x np) [c]
  | three {x1 x2 x3 : Str} {c1 c2 c3 : Value} {p1 p2 p3 tp : Pos} {kk : Nat} (h1 : Names X x1 c1) (h2 : Names X x2 c2) (h3 : Names X x3 c3) : Tst X (.Tuple [.Name x1 p1, .Name x2 p2, .Name x3 p3] kk tp) [c1, c2, c3]
theorem ld_names {a : Addr} {pn : List (Addr × Obj)} {x : Str} {c : Value} {np : Pos} (n : Names X x c) (S : Inv (X.suite a pn) pins σ H s) {Q : Value → Shared → Prop} {E : Value → Shared → Prop} (q : Q c s) : wpAny (model X.prog X.w) (X.A.mark (some (.ref a))) (eval (.Name x np) X.env) Q E s := by
  obtain ⟨hg, hdbg, hm | ⟨hm, hv, hnn⟩⟩ := n
  · exact ld_glob (X := X.suite a pn) S hg hm q hdbg
  · exact ld_blt (X := X.suite a pn) S hg hm hv q hnn hdbg
theorem tst_run {t : Expr} {cs : List Value} (T : Tst X t cs) {a : Addr} {pn : List (Addr × Obj)} {oe : Obj} {cls : Value} {b : Bool} (S : Inv (X.suite a pn) pins σ H s) (ha : s.heap.get? a = some oe) (hc : oe.cls = cls) (e : PySem.W.exmAny X.K cls cs = some b)
    {Q : Bool → Shared → Prop} {E E' : Value → Shared → Prop} (q : ∀ h' : Heap, (∀ b o, s.heap.get? b = some o → h'.get? b = some o) → Q b { s with heap := h' }) :
    wpAny (model X.prog X.w) (X.A.mark (some (.ref a))) (eval t X.env) (fun c s₁ => wpAny (model X.prog X.w) (X.A.mark (some (.ref a))) (excMatches (.ref a) c) Q E s₁) E' s := by
  have LT : PySem.W.Looks (model X.prog X.w) s.heap (typeOf (.ref a)) cls := fun A Q E s k q => wpAny_typeOf_ref (k _ _ ha) (by rw [hc]; exact q)
  cases T with
  | one h =>
    obtain ⟨b1, d1, e1, e2, e3⟩ := PySem.W.exmAny_cons e
    have e4 : d1 = false := by cases e2; rfl
    subst e4
    rw [Bool.or_false] at e3
    subst e3
    exact ld_names h S ((PySem.W.exm_one S.kIn LT e1).here (q s.heap fun _ _ z => z))
  | @three x1 x2 x3 c1 c2 c3 p1 p2 p3 tp kk h1 h2 h3 =>
    refine wpAny_Tuple ?_
    refine wpAny_items_cons (ld_names h1 S ?_)
    refine wpAny_items_cons (ld_names h2 S ?_)
    refine wpAny_items_cons (ld_names h3 S ?_)
    refine wpAny_items_nil ⟨by size_fits, ?_⟩
    have kp : ∀ q o, s.heap.get? q = some o → (s.heap.push { cls := .type "tuple", data := .seq [c1, c2, c3].toArray }).get? q = some o := fun _ _ z => Heap.get?_push_of_some _ z
    exact (PySem.W.exm_tup3 (S.kIn.keeps kp) (LT.keeps kp) (Heap.get?_push_size s.heap rfl) e).here (q _ kp)
end
structure Hd where
  cs : List Value
  i : Option Nat
  ts : TS
def onAs (i : Option Nat) (D : Ends) : Ends := match i with
  | none => D
  | some i => { nx := fun σ H => D.nx (σ.set i none) H, rt := D.rt, bk := fun σ H => D.bk (σ.set i none) H, ct := fun σ H => D.ct (σ.set i none) H }
def toAs (i : Option Nat) (a : Addr) (σ : L2.St) : L2.St := match i with
  | none => σ
  | some i => σ.set i (some (.ref a))
def wHs (K : PySem.W.Frag) (Wout : WX) (D : Ends) : List Hd → WX
  | [] => Wout
  | h :: r => fun cls d σ H => ∃ b C, cls = .ref C ∧ PySem.W.exmAny K cls h.cs = some b ∧ (b = true → ∀ a, H a = none → h.ts (onAs h.i D) (toAs h.i a σ) (upd H a (xob a C d))) ∧ (b = false → wHs K Wout D r cls d σ H)
inductive HdOk (X : Cx) : List ExceptHandler → List Hd → Prop
  | nil : HdOk X [] []
  | plain {t : Expr} {cs : List Value} {ts : TS} {b₀ : Stmt} {suite : List Stmt} {pos' : Pos} {hds : List ExceptHandler} {l : List Hd} (hc : Tst X t cs) (hsu : ∀ a, PSs (hnd X a) (b₀ :: suite) ts) (r : HdOk X hds l) :
      HdOk X (.ExceptHandler (some t) none (b₀ :: suite) pos' :: hds) (⟨cs, none, ts⟩ :: l)
  | as {t : Expr} {n : Str} {i : Nat} {cs : List Value} {ts : TS} {b₀ : Stmt} {suite : List Stmt} {pos' : Pos} {hds : List ExceptHandler} {l : List Hd} (hc : Tst X t cs) (hN : X.N.Nodup) (hi : X.N[i]? = some n) (hln : X.env.kindOf n = some .local)
      (hsu : ∀ a, PSs (hnd X a) (b₀ :: suite) ts) (r : HdOk X hds l) : HdOk X (.ExceptHandler (some t) (some n) (b₀ :: suite) pos' :: hds) (⟨cs, some i, ts⟩ :: l)
structure Caught (X : Cx) (pins : List (Addr × Obj)) (σ : L2.St) (H : Hp) (sI s : Shared) (B : Heap) (a : Addr) (cls : Value) (d : Option Addr) : Prop where
  J : Inv X pins σ H sI
  gr : ∀ b o, sI.heap.get? b = some o → b ∉ frs X.stack → B.get? b = some o
  up : sI.heap.UpToSlots s.heap
  na : H a = none
  os : s.os = sI.os
  ag : AllBare s.gens
  nL : a ≠ X.env.locals
  nF : a ∉ X.fs
  nI : sI.heap.get? a = none
abbrev Fly (X : Cx) (B : Heap) (a : Addr) (cls : Value) (d : Option Addr) (h : Heap) : Prop := HandSPX.FlyingZ B X.stack a (Zc cls d) h
section
variable {X : Cx} {pins : List (Addr × Obj)} {σ : L2.St} {H : Hp} {sI s : Shared} {B h : Heap} {a : Addr} {cls : Value} {d : Option Addr}
theorem Caught.inv (c : Caught X pins σ H sI s B a cls d) (fl : Fly X B a cls d h) (up : s.heap.UpToSlots h) : Inv X pins σ H { s with heap := h } := c.J.landed (s' := { s with heap := h }) c.gr fl.1 (c.up.trans up) c.os c.ag
theorem Caught.n0 (c : Caught X pins σ H sI s B a cls d) (hex : X.ex = []) : X.s_0.heap.get? a = none :=
  match q : X.s_0.heap.get? a with
  | none => rfl
  | some o => by
    obtain ⟨o', z⟩ := c.J.base.there a o q (by rw [hex]; exact List.not_mem_nil)
    exact nomatch z.symm.trans c.nI
theorem Caught.held {C : Addr} (c : Caught X pins σ H sI s B a (.ref C) d) (hex : X.ex = []) (fl : Fly X B a (.ref C) d h) (up : s.heap.UpToSlots h) : Inv (hnd X a) pins σ (upd H a (xob a C d)) { s with heap := h } := by
  obtain ⟨oe, vs, h1, h2, h3⟩ := fl.there
  refine Gw.Inv.hnd (c.inv fl up) h1 h2 h3 c.na c.nL (c.n0 hex) (fun p hp z => ?_) (fun x k e z => ?_)
  · exact nomatch (z ▸ (c.J.pin p hp).1).symm.trans c.nI
  · obtain ⟨v, o, q, _⟩ := c.J.cell x k e
    exact nomatch (z ▸ q).symm.trans c.nI
theorem Caught.test {t : Expr} {cs : List Value} {b : Bool} (c : Caught X pins σ H sI s B a cls d) (T : Tst X t cs) (e : PySem.W.exmAny X.K cls cs = some b) (fl : Fly X B a cls d h) (up : s.heap.UpToSlots h) {Q : Bool → Shared → Prop} {E E' : Value → Shared → Prop}
    (q : ∀ g, Fly X B a cls d g → s.heap.UpToSlots g → Q b { s with heap := g }) : wpAny (model X.prog X.w) (X.A.mark (some (.ref a))) (eval t X.env) (fun v s₁ => wpAny (model X.prog X.w) (X.A.mark (some (.ref a))) (excMatches (.ref a) v) Q E s₁) E' { s with heap := h } := by
  obtain ⟨oe, vs, h1, h2, h3⟩ := fl.there
  exact tst_run T ((c.inv fl up).suite h1 h3 c.na c.nL c.nF) h1 h2.1 e fun g k => q g (fly_keeps fl k) (up.trans (Heap.UpToSlots.of_keeps k))
theorem Caught.on {W : WX} {D : Ends} (c : Caught X pins σ H sI s B a cls d) (hf : X.env.frame = some X.env.locals) (tk : Takes X W) (fl : Fly X B a cls d h) (up : s.heap.UpToSlots h) (w : W cls d σ H) : wpAny (model X.prog X.w) X.A (handleBy (.ref a) X.env []) (SP X pins D) X.xe { s with heap := h } := by
  have last : wpAny (model X.prog X.w) X.A (setFlight (.ref a) X.env.frame) (fun _ s4 => wpAny (model X.prog X.w) X.A (throw (.ref a) : Sem Flow) (SP X pins D) X.xe s4) X.xe { s with heap := h } := by
    rw [hf]
    exact HandSPX.setFlight_upZ fl fun g hg ug => wpAny_throw (tk _ _ ⟨a, B, sI, pins, σ, H, cls, d, rfl, c.J, c.gr, (c.up.trans up).trans ug, .inr (.inr hg), c.na, c.os, c.ag, w⟩)
  obtain ⟨_, _, _, oe, vs, T, oT, ts, h1, h2, h3, h4, _⟩ := id fl
  refine wpAny_handleBy_nil ?_
  unfold PySem.passOn
  refine wpAny_bind (wpAny_field h1 h3 h4 ?_)
  have nn : (Value.ref T == Value.none) = false := by simp
  simp only [nn, Bool.false_eq_true, if_false]
  first
    | exact wpAny_bind last
    | exact wpAny_bind (wpAny_pure (wpAny_bind last))
theorem out_hnd {D : Ends} {f : Flow} (ok : X.Ok) (h : SP (hnd X a) pins D f s) : SP X pins D f s := by
  cases f with
  | ret u => obtain ⟨v, σ', H', I', r, q⟩ := h; exact ⟨v, σ', H', Gw.Inv.unhnd I' ok, r, q⟩
  | next => obtain ⟨σ', H', I', q⟩ := h; exact ⟨σ', H', Gw.Inv.unhnd I' ok, q⟩
  | brk => obtain ⟨σ', H', I', q⟩ := h; exact ⟨σ', H', Gw.Inv.unhnd I' ok, q⟩
  | cont => obtain ⟨σ', H', I', q⟩ := h; exact ⟨σ', H', Gw.Inv.unhnd I' ok, q⟩
theorem out_name {M : Model} {A : Around} {E : Value → Shared → Prop} {D : Ends} {f : Flow} {i : Nat} {n : Str} {pos : Pos} (hN : X.N.Nodup) (hi : X.N[i]? = some n) (hl : X.env.kindOf n = some .local) (h : SP X pins (onAs (some i) D) f s) :
    wpAny M A (do bindName X.env n .none; unbindBehindTheSuite X.env n pos) (fun _ s' => SP X pins D f s') E s := by
  cases f with
  | ret u => obtain ⟨v, σ', H', I', r, q⟩ := h; exact gone_ok I' hN hi hl fun s' I2 => ⟨v, _, H', I2, r, q⟩
  | next => obtain ⟨σ', H', I', q⟩ := h; exact gone_ok I' hN hi hl fun s' I2 => ⟨_, H', I2, q⟩
  | brk => obtain ⟨σ', H', I', q⟩ := h; exact gone_ok I' hN hi hl fun s' I2 => ⟨_, H', I2, q⟩
  | cont => obtain ⟨σ', H', I', q⟩ := h; exact gone_ok I' hN hi hl fun s' I2 => ⟨_, H', I2, q⟩
theorem Caught.by {W : WX} {D : Ends} {hds : List ExceptHandler} {l : List Hd} (c : Caught X pins σ H sI s B a cls d) (hf : X.env.frame = some X.env.locals) (hex : X.ex = []) (tk : Takes X W) (hk : HdOk X hds l) :
    ∀ h, Fly X B a cls d h → s.heap.UpToSlots h → wHs X.K W D l cls d σ H → wpAny (model X.prog X.w) X.A (handleBy (.ref a) X.env hds) (SP X pins D) X.xe { s with heap := h } := by
  have ok := c.J.ok
  induction hk with
  | nil => exact fun h fl up w => c.on hf tk fl up w
  | plain hc hsu r ih =>
    rintro h fl up ⟨b, C, rfl, hb, yes, no⟩
    refine wpAny_handleBy_cons (codeAny_handlers_test (c.test hc hb fl up fun g fg ug => ?_)) (fun q => nomatch q)
    cases b with
    | false => exact ih g fg ug (no rfl)
    | true =>
      refine codeAny_handlers_suite (HandSPX.lands_againZ fg fun g2 f2 u2 => ?_)
      exact wpAny_mono ((hsu a).run pins _ _ _ _ (c.held hex f2 (ug.trans u2)) (yes rfl a c.na)) (fun f s6 z => out_hnd ok z) (fun _ _ z => z.elim)
  | as hc hN hi hln hsu r ih =>
    rintro h fl up ⟨b, C, rfl, hb, yes, no⟩
    refine wpAny_handleBy_cons (codeAny_handlers_test (c.test hc hb fl up fun g fg ug => ?_)) (fun q => nomatch q)
    cases b with
    | false => exact ih g fg ug (no rfl)
    | true =>
      refine codeAny_handlers_suite_as (HandSPX.lands_againZ fg fun g2 f2 u2 => ?_)
      refine store_ok (X := hnd X a) (v := .ref a) (c.held hex f2 (ug.trans u2)) hN hi (.inl hln) rfl (fun s5 I5 => ?_) (.inr hln)
      exact wpAny_mono ((hsu a).run pins s5 _ _ _ I5 (yes rfl a c.na)) (fun f s6 z => out_name hN hi hln (out_hnd ok z)) (fun _ _ z => z.elim)
end
end Gw

namespace Gw
open PySem PySem.W L2 PyProof.Rows
variable {ρ : Ent}
def heirs : List (Str × List Str) := [("Refused", ["Refused", "ValueError"]), ("Missing", ["Missing", "LookupError"]), ("Halted", ["Halted", "RuntimeError"]),
  ("NoText", ["NoText", "Refused", "ValueError"]), ("NoProgram", ["NoProgram", "Refused", "ValueError"]), ("NoKind", ["NoKind", "Refused", "ValueError"]), ("TooGreat", ["TooGreat", "Refused", "ValueError"]), ("NoFit", ["NoFit", "Refused", "ValueError"]),
  ("Nothing", ["Nothing", "Refused", "ValueError"]), ("NoStep", ["NoStep", "Refused", "ValueError"]), ("NoLine", ["NoLine", "Refused", "ValueError"]),
  ("NoPlace", ["NoPlace", "Missing", "LookupError"]), ("NoGate", ["NoGate", "Missing", "LookupError"]), ("NoStage", ["NoStage", "Missing", "LookupError"]), ("Unclean", ["Unclean", "Halted", "RuntimeError"])]
def subX (r c : Str) : Bool := match heirs.lookup r with
  | some l => l.contains c
  | none => false
def isX (cns : List Str) (r : Str) : Bool := cns.any (subX r)
def clsV (K : Frag) (c : Str) : Option Value := match nsIn K mainGlobals c with
  | some (some v) => some v
  | some none => bootBuiltins c
  | none => none
def clsVal (K : Frag) (c : Str) : Value := (clsV K c).getD .none
def clsAd (K : Frag) (c : Str) : Addr := match nsIn K mainGlobals c with
  | some (some (.ref C)) => C
  | _ => 0
structure XcF (K : Frag) (C : Addr) : Prop where
  ga : findIn K (.ref C) "__getattribute__" = some (some (.builtin "BaseException.__getattribute__"))
  gg : findIn K (.ref C) "__getattr__" = some none
  exC : subIn K (.ref C) (.type "BaseException") = some true
  hdC : hasDictIn K C = true
  ca : findIn K (.ref C) "__class__" = some (some (.builtin "object.__class__"))
  gs : specialIn K (.builtin "object.__class__") "__get__" = some (some (.builtin "getset_descriptor.__get__"))
  tk : takesIn K (.builtin "object.__class__") = some true
  mr : mroIn K C (.type "object") = some true
def isClsB (v : Value) : Bool := match v with
  | .ref _ => true
  | .type _ => true
  | _ => false
structure XTab (K : Frag) (R A F : List Str) : Prop where
  ok : ∀ r ∈ R, nsIn K mainGlobals r = some (some (.ref (clsAd K r))) ∧ XcF K (clsAd K r)
  fd : ∀ r ∈ R, ∀ f ∈ F, findIn K (.ref (clsAd K r)) f = some none
  cv : ∀ c ∈ A, (clsV K c).isSome = true ∧ isClsB (clsVal K c) = true ∧ kitOne K (.type "NoneType") (clsVal K c) = some false
  is : ∀ r ∈ R, ∀ c ∈ A, kitOne K (.ref (clsAd K r)) (clsVal K c) = some (subX r c) ∧ exmOne K (.ref (clsAd K r)) (clsVal K c) = some (subX r c)
def Agr (K : Frag) (mg : Str → Option Value) : Prop := ∀ x o, nsIn K mainGlobals x = some o → mg x = o
theorem agr_of {K : Frag} {h : Heap} {mg : Str → Option Value} (X : K.In h) (G : h.Ns mainGlobals mg) : Agr K mg := fun x o e => by
  cases o with
  | none => exact mg_none_of X G e
  | some v => exact mg_of X G e
section
variable {X : Cx} {K : Frag} {mg : Str → Option Value} {R A F : List Str} {B : Ent} {σ : L2.St} {H G H1 G1 H2 G2 : Hp} {Γ Γ1 Γ2 : Sl} {M M1 M2 : Mem} {a : Expr} {ta : TE} {aa : AE} {pos : Pos}
inductive TyE (K : Frag) (H : Hp) : V → Value → Prop where
  | base {x : V} {t : Value} (h : TyX K H x t) : TyE K H x t
  | exc {a C : Addr} {d : Option Addr} {ws : List (Str × V)} (e : H a = some (xob a C d)) (f : XcF K C) (x : XD H d ws) : TyE K H (.ref a) (.ref C)
def aIsX (R cns : List Str) (r : Ret) (Γ : Sl) (M : Mem) (Q : Ret → Sl → Mem → Prop) : Prop := match r with
  | .dat (.exc cn _ _) => R.contains cn = true ∧ Q (.dat (.bl (isX cns cn))) Γ M
  | .dat .non => Q (.dat (.bl false)) Γ M
  | _ => False
inductive ClsNs (X : Cx) (A : List Str) : List Expr → List Str → Prop
  | nil : ClsNs X A [] []
  | cons {c : Str} {p : Pos} {es : List Expr} {cs : List Str} (hc : c ∈ A) (hg : Gl X c) (hn : c ≠ "__name__") (hdb : (c == ("__debug__" : Str)) = false) (hs : starEach (.Name c p :: es) X.env = (false, eval (.Name c p) X.env) :: starEach es X.env) (r : ClsNs X A es cs) : ClsNs X A (.Name c p :: es) (c :: cs)
def aXf (R : List Str) (f : Str) (r : Ret) (Γ : Sl) (M : Mem) (Q : Ret → Sl → Mem → Prop) : Prop := match r with
  | .dat (.exc cn ns ds) => R.contains cn = true ∧ match (ns.zip ds).lookup f with
    | some d => Q (.dat d) Γ M
    | none => False
  | _ => False
theorem lookup_rep {ns : List Str} {ds : List D} {ws : List (Str × V)} {f : Str} {d : D} (hn : ws.map (·.1) = ns) (h : RepL K G ds (ws.map (·.2))) (e : (ns.zip ds).lookup f = some d) : ∃ v, ws.lookup f = some v ∧ Rep K G d v := by
  subst hn
  induction ws generalizing ds with
  | nil => simp at e
  | cons w ws ih =>
    obtain ⟨n, v⟩ := w
    cases ds with
    | nil => simp at e
    | cons d0 ds =>
      obtain ⟨x, r, ex, h1, h2⟩ := repL_cons.mp h
      simp only [List.map_cons, List.cons.injEq] at ex
      obtain ⟨rfl, rfl⟩ := ex
      rw [List.map_cons, List.zip_cons_cons, List.lookup_cons] at e
      rw [List.lookup_cons]
      dsimp only at e ⊢
      split at e
      · rename_i hq
        cases e
        exact ⟨_, rfl, h1⟩
      · exact ih h2 e
structure AH where
  cns : List Str
  i : Option Nat
  as : AS
def onAsA (i : Option Nat) (A : AEnds) : AEnds := match i with
  | none => A
  | some i => { nx := fun Γ M => A.nx (Γ.set i .non) M, rt := fun r Γ M => A.rt r Γ M, bk := fun Γ M => A.bk (Γ.set i .non) M, ct := fun Γ M => A.ct (Γ.set i .non) M }
def toAsA (i : Option Nat) (x : Xc) (Γ : Sl) : Sl := match i with
  | none => Γ
  | some i => Γ.set i (.dat x.d)
def wAH (R : List Str) (xw : XW) (A : AEnds) : List AH → XW
  | [] => xw
  | h :: r => fun x Γ M => R.contains x.cn = true ∧ if isX h.cns x.cn = true then h.as (onAsA h.i A) (toAsA h.i x Γ) M else wAH R xw A r x Γ M
def aTry (R : List Str) (xw : XW) (body : XW → AS) (hs : List AH) : AS := fun A Γ M => body (wAH R xw A hs) A Γ M
theorem Ok.setN {i : Nat} (k : Ok K ρ B σ H G Γ M) : Ok K ρ B (σ.set i none) H G (Γ.set i .non) M := by
  refine ⟨k.st, k.ex, k.nd, k.ms, fun j e h => ?_, fun j c h => ?_, fun j l c c' q h h' a b => ?_, by rw [List.length_set, List.length_set]; exact k.len, k.pb⟩
  · rcases set_get h with ⟨_, e2⟩ | ⟨ne, e1⟩
    · cases e2
    · rw [List.getElem?_set_ne (fun q => ne q.symm)]; exact k.dat j e e1
  · rcases set_get h with ⟨_, e2⟩ | ⟨ne, e1⟩
    · cases e2
    · rw [List.getElem?_set_ne (fun q => ne q.symm)]; exact k.own j c e1
  · rcases set_get h with ⟨_, e2⟩ | ⟨ne, e1⟩
    · cases e2
    rcases set_get h' with ⟨_, e2⟩ | ⟨ne', e1'⟩
    · cases e2
    rw [List.getElem?_set_ne (fun q => ne q.symm)] at a
    rw [List.getElem?_set_ne (fun q => ne' q.symm)] at b
    exact k.dis j l c c' q e1 e1' a b
inductive HdQ (X : Cx) (ρ : Ent) (A : List Str) : List ExceptHandler → List Hd → List AH → Prop
  | nil : HdQ X ρ A [] [] []
  | plain {t : Expr} {cns : List Str} {ts : TS} {as : AS} {b₀ : Stmt} {suite : List Stmt} {pos' : Pos} {hds : List ExceptHandler} {l : List Hd} {la : List AH} (hc : Tst X t (cns.map (clsVal X.K))) (hA : ∀ c ∈ cns, c ∈ A)
      (hsu : ∀ a, QSs (hnd X a) ρ (b₀ :: suite) ts as) (r : HdQ X ρ A hds l la) : HdQ X ρ A (.ExceptHandler (some t) none (b₀ :: suite) pos' :: hds) (⟨cns.map (clsVal X.K), none, ts⟩ :: l) (⟨cns, none, as⟩ :: la)
  | as {t : Expr} {n : Str} {i : Nat} {cns : List Str} {ts : TS} {as : AS} {b₀ : Stmt} {suite : List Stmt} {pos' : Pos} {hds : List ExceptHandler} {l : List Hd} {la : List AH} (hc : Tst X t (cns.map (clsVal X.K))) (hA : ∀ c ∈ cns, c ∈ A) (hN : X.N.Nodup) (hi : X.N[i]? = some n) (hln : X.env.kindOf n = some .local)
      (hsu : ∀ a, QSs (hnd X a) ρ (b₀ :: suite) ts as) (r : HdQ X ρ A hds l la) : HdQ X ρ A (.ExceptHandler (some t) (some n) (b₀ :: suite) pos' :: hds) (⟨cns.map (clsVal X.K), some i, ts⟩ :: l) (⟨cns, some i, as⟩ :: la)
theorem HdQ.ok {hds : List ExceptHandler} {l : List Hd} {la : List AH} (h : HdQ X ρ A hds l la) : HdOk X hds l := by
  induction h with
  | nil => exact .nil
  | plain hc hA hsu r ih => exact .plain hc (fun a => (hsu a).pe) ih
  | as hc hA hN hi hln hsu r ih => exact .as hc hN hi hln (fun a => (hsu a).pe) ih
theorem Ok.self (k : Ok K ρ B σ H G Γ M) : Ok K B B σ H G Γ M := ⟨k.st, k.ex, k.nd, k.ms, k.dat, k.own, k.dis, k.len, Refi.refl B⟩
theorem Ok.from (k : Ok K B B σ H G Γ M) (p : Refi ρ B) : Ok K ρ B σ H G Γ M := ⟨k.st, k.ex, k.nd, k.ms, k.dat, k.own, k.dis, k.len, p⟩
theorem Sim.as {A : AEnds} {E : Ends} (i : Option Nat) (s : Sim K ρ B A E) : Sim K ρ B (onAsA i A) (onAs i E) := by
  cases i with
  | none => exact s
  | some i => exact ⟨fun σ H G Γ M k q => s.nx _ H G _ M k.setN q, s.rt, fun σ H G Γ M k q => s.bk _ H G _ M k.setN q, fun σ H G Γ M k q => s.ct _ H G _ M k.setN q⟩
end
end Gw

namespace Gw
open PySem PySem.W L2 PyProof.Rows
variable {ρ : Ent}
structure OxG (K : Frag) (C : Addr) : Prop where
  ex : ∃ (B newId initId : String) (bmB : List Value), ExcBaseFacts B newId initId bmB ∧ StoreFacts B bmB "object.__setattr__" "object" ∧ excInitIn K C bmB newId = true ∧ excOver K C bmB = true
  hd : hasDictIn K C = true
  sa : findIn K (.ref C) "__setattr__" = some (some (.builtin "object.__setattr__"))
  exC : subIn K (.ref C) (.type "BaseException") = some true
  tyC : typeIn K (.ref C) = some (.type "type")
  kC : keepIn K (.ref C) = true
section
variable {X : Cx} {pins : List (Addr × Obj)} {σ : L2.St} {H H' : Hp} {s : Shared} {h' : Heap}
theorem Inv.re {t' : Nat} (T : Addr → Prop) (I : L2.Inv X pins σ H s) (c0 : ∀ b, ¬ T b → H' b = H b ∧ ∀ o, s.heap.get? b = some o → h'.get? b = some o) (c1 : ∀ b, T b → (∃ φ, H b = some (.ext φ)) ∨ (H b = none ∧ s.heap.get? b = none))
    (c2 : ∀ b, T b → ∃ o, H' b = some o ∧ ObjOk X.prog X.w H' h' b o ∧ ∃ u, h'.get? b = some u) : L2.Inv X pins σ H' { s with heap := h', toks := t' } := by
  have cls : ∀ b, T b ∨ ¬ T b := fun b => Classical.em _
  have bare : ∀ b u, H b = some u → (∀ φ, u ≠ .ext φ) → ¬ T b := fun b u e n1 z => by
    rcases c1 b z with ⟨φ, q⟩ | ⟨q, _⟩ <;> rw [e] at q <;> cases q
    exact n1 _ rfl
  have none' : ∀ b o, s.heap.get? b = some o → H b = none → ¬ T b := fun b o e n z => by
    rcases c1 b z with ⟨_, q⟩ | ⟨_, q⟩
    · rw [n] at q; cases q
    · rw [e] at q; cases q
  have same : ∀ b u, H b = some u → (∀ φ, u ≠ .ext φ) → H' b = some u := fun b u e n1 => by rw [(c0 b (bare b u e n1)).1]; exact e
  refine Inv.un I ⟨fun b o e n _ _ => (c0 b (none' b o e n)).2 o e, fun b o e n _ _ => ⟨o.slots, (c0 b (none' b o e n)).2 o e⟩, fun b o e n _ => by rw [(c0 b (none' b o e n)).1]; exact n, fun b o e _ => ?_, fun b xs e => same b _ e nofun, fun b o u e => same b _ e nofun, fun b ps e => ⟨#[], ?_⟩⟩ fun b o e => ?_
  · rcases cls b with z | z
    · obtain ⟨_, _, _, q⟩ := c2 b z; exact q
    · exact ⟨o, (c0 b z).2 o e⟩
  · rw [same b _ e nofun]; simp
  · rcases cls b with z | z
    · obtain ⟨u, e1, e2, _⟩ := c2 b z
      cases e1.symm.trans e; exact e2
    · rw [(c0 b z).1] at e
      refine (I.hok b o e).stay (fun c u hc q => (c0 c ?_).2 u q) (fun c hc => same c _ hc nofun) (fun c xs hc => same c _ hc nofun)
      rcases hc with rfl | hc
      · exact z
      · exact bare c _ hc nofun
end
section
variable {X : Cx} {o e : Expr} {es : List Expr} {to te : TE} {ta : TA} {f : Str} {p p' pos : Pos}
end
def spInit (K : Frag) (names : List Str) : Sp := fun vs H Q _ => ∃ (a C : Addr) (ws : List V), vs = .ref a :: ws ∧ ws.length = names.length ∧ OxG K C ∧ (∀ f ∈ names, findIn K (.ref C) f = some none) ∧ H a = some (exo a C none) ∧
  ∀ dx, H dx = none → dx ≠ a → Q .non (upd (upd H dx (exd dx (names.zip ws).reverse)) a (exo a C (some dx)))
structure Xcl (P : Program) (w : World) (K : Frag) (mg : Str → Option Value) (base : Heap) (cn : Str) (names : List Str) (k : Nat) : Prop where
  ns : nsIn K mainGlobals cn = some (some (.ref (clsAd K cn)))
  ox : OxG K (clsAd K cn)
  no : ∀ f ∈ names, findIn K (.ref (clsAd K cn)) f = some none
  ex : ∃ (fI : Addr) (fd : FuncData) (ps : List Str), findIn K (.ref (clsAd K cn)) "__init__" = some (some (.ref fI)) ∧ typeIn K (.ref fI) = some (.type "function") ∧ FnOk P w K mg base CX0 k fI fd ps (spInit K names) ∧ Binds K fd ps []
  ln : names.length ≤ 1000
section
variable {X : Cx} {e : Expr} {es : List Expr} {ta : TA} {names : List Str} {cn : Str} {k : Nat} {p pos : Pos} {pins : List (Addr × Obj)} {σ : L2.St} {H1 : Hp} {vs : List V} {us : List Value}
end
end Gw

namespace Gw
open PySem L2 PyProof.Rows
variable {ρ : Ent}
def aRaise (w : XW) (cn : Str) (names : List Str) (aa : AA) (_ : AEnds) (Γ : Sl) (M : Mem) : Prop := aa Γ M fun ds Γ1 M1 => ds.length = names.length ∧ w ⟨cn, names.reverse, ds.reverse⟩ Γ1 M1
section
variable {X : Cx} {K : PySem.W.Frag} {mg : Str → Option Value}
def aMk (cn : Str) (names : List Str) (aa : AA) (Γ : Sl) (M : Mem) (Q : Ret → Sl → Mem → Prop) : Prop := aa Γ M fun ds Γ1 M1 => ds.length = names.length ∧ Q (.dat (.exc cn names.reverse ds.reverse)) Γ1 M1
structure XclP (K : PySem.W.Frag) (cn : Str) : Prop where
  ns : PySem.W.nsIn K mainGlobals cn = some (some (.ref (clsAd K cn)))
  ex : ∃ (B newId initId : String) (bmB : List Value), ExcBaseFacts B newId initId bmB ∧ PySem.W.excIn K (clsAd K cn) bmB newId = true
  kC : PySem.W.keepIn K (.ref (clsAd K cn)) = true
  exC : PySem.W.subIn K (.ref (clsAd K cn)) (.type "BaseException") = some true
  tyC : PySem.W.typeIn K (.ref (clsAd K cn)) = some (.type "type")
theorem pmk_P {x : Str} {e : Expr} {ta : TE} {p pos : Pos} (c : XclP X.K x) (g : Agr X.K X.mg) (hg : Gl X x) (he : PE X e ta) (hs : starEach [e] X.env = (false, eval e X.env) :: starEach [] X.env) (hdb : (x == ("__debug__" : Str)) = false) :
    PMk X (.Call (.Name x p) [e] [] pos) (fun σ H Q => ta σ H fun _ H1 => Q (.ref (clsAd X.K x)) none H1) := fun pins s σ H Q I w => by
  obtain ⟨B, newId, initId, bmB, F, q⟩ := c.ex
  refine wpAny_Call_Name_kw (ld_glob I hg (g _ _ c.ns) (PySem.W.callWith_K (h₀ := X.base) I.ok.mod.kin c.kC (thn ((pa_cons he pa_nil hs).run pos pins s σ H (fun vs H1 => match vs with | [_] => Q (.ref (clsAd X.K x)) none H1 | _ => False) I w) ?_) hs rfl) hdb)
  rintro us s1 ⟨vs, H1, I1, rv, w1⟩
  have one : vs.length = 1 ∧ Q (.ref (clsAd X.K x)) none H1 := by
    split at w1
    · exact ⟨rfl, w1⟩
    · exact w1.elim
  obtain ⟨l1, w1⟩ := one
  have few : us.length ≤ sizeLine := by rw [← rv.length, l1, sizeLine_eq]; omega
  obtain ⟨_, _, _, _, _, _, _, _, _, _, _, _, _, _, _, _, _, hC, hN, hni, T⟩ := exc_obj I1.kIn q
  exact ⟨I1.kIn, wpAny_call_exc_subT F T hC hN hni (fun h' a hm => mk_of I1 hm (raises_own c.exC c.tyC) w1 (I1.hok.gone hm.new)) few⟩
def aRaiseP (w : XW) (cn : Str) (aa : AE) (_ : AEnds) (Γ : Sl) (M : Mem) : Prop := aa Γ M fun _ Γ1 M1 => w ⟨cn, [], []⟩ Γ1 M1
theorem q_raiseP {W : WX} {w : XW} {cn : Str} {e : Expr} {ta : TE} {aa : AE} {p p1 pos : Pos} (c : XclP K cn) (g : Agr K mg) (tk : Takes X W) (con : Conn K ρ W w) (ha : QE X ρ e ta aa) (hc : X.calm = true := by rfl) (hg : Gl X cn := by rfl)
    (hdb : (cn == ("__debug__" : Str)) = false := by decide) (he : starEach [e] X.env = (false, eval e X.env) :: starEach [] X.env := by rfl) (hK : X.K = K := by rfl) (hM : X.mg = mg := by rfl) :
    QS X ρ (.Raise (some (.Call (.Name cn p) [e] [] pos)) none p1) (fun _ σ H => ta σ H fun _ H1 => W (.ref (clsAd K cn)) none σ H1) (aRaiseP w cn aa) := by
  subst hK; subst hM
  refine ⟨ps_raise (pos := p1) hc tk (pmk_P (p := p) (pos := pos) c g hg ha.pe he hdb), fun B σ H G Γ M A E k h s => ha.rd B σ H G Γ M _ _ k h fun v H1 G1 Γ1 M1 r k1 e1 rr hh => ?_⟩
  exact con B σ H1 G1 Γ1 M1 _ _ _ k1 ⟨_, [], rfl, c.ns, .inl ⟨rfl, rfl⟩, rfl, repL_nil.mpr rfl⟩ hh
end
end Gw

namespace Gw
open PySem L2 PyProof.Rows
section
variable {P : Program} {w : World} {K : PySem.W.Frag} {mg : Str → Option Value} {base : Heap}
end
end Gw

namespace Gw
open PySem L2 PyProof.Rows
variable {ρ : Ent}
section
variable {X : Cx} {a b c e : Expr} {ta tb tc te : TE} {aa ab ac ae : AE} {pos : Pos} {K : PySem.W.Frag} {B : Ent} {σ : L2.St} {H G H1 G1 H2 G2 H0 : Hp} {Γ Γ1 Γ2 : Sl} {M M1 M2 : Mem}
def aSlS (aa : AE) (al ah : AO) (Γ : Sl) (M : Mem) (Q : Ret → Sl → Mem → Prop) : Prop := aa Γ M fun r Γ1 M1 => al Γ1 M1 fun lo Γ2 M2 => ah Γ2 M2 fun hi Γ3 M3 => match r with
  | .dat (.str z) => z.length ≤ sizeLine ∧ Q (.dat (.str (cutS z lo hi))) Γ3 M3
  | _ => False
def aStr (r : Ret) (Γ : Sl) (M : Mem) (Q : Ret → Sl → Mem → Prop) : Prop := match r with
  | .dat (.int i) => i.natAbs.log2 < 1920 ∧ Q (.dat (.str (Str.ofString (toString i)))) Γ M
  | _ => False
def rEq0 (K : PySem.W.Frag) (f : Bool → Bool) : R2 := fun x y H Q => ∃ a b xs, x = .ref a ∧ y = .ref b ∧ SqT K H a xs ∧ SqT K H b [] ∧ Q (.bl (f (xs.length == 0))) H
theorem op_eq0 (hu : X.A.units + 64 < cLine) : OpR X (compareOp .Eq) (rEq0 X.K id) := by
  rintro pins s σ H x y v u Q I rx ry ⟨p, q, xs, rfl, rfl, hp, hq, w⟩
  cases rx; cases ry
  obtain ⟨its, r, ht, _⟩ := I.tuple hp
  obtain ⟨jts, r2, ht2, _⟩ := I.tuple hq
  cases r2
  refine SeqAt.RcAt.tuples (e := fun _ => true) (show s.heap.IsTuple p its.toArray from ht) (show s.heap.IsTuple q #[] from ht2) (by omega) (fun j _ h2 => absurd h2 (Nat.not_lt_zero j)) X.prog X.w X.xe _ ⟨.bl _, H, I, ?_, w⟩
  rw [r.length]
  simp
  rfl
def aEq0 (f : Bool → Bool) (x : Ret) (y : Ret) (Γ : Sl) (M : Mem) (Q : Ret → Sl → Mem → Prop) : Prop := match x, y with
  | .dat (.tup ds), .dat (.tup []) => Q (.dat (.bl (f (ds.length == 0)))) Γ M
  | _, _ => False
theorem rd_eq0 {f : Bool → Bool} : RdO K ρ (rEq0 K f) (aEq0 f) := by
  intro B σ H H1 H2 G Γ M rx ry x y Q R k r1 r2 h q
  unfold aEq0 at h
  split at h
  · rename_i ds
    obtain ⟨p, xs, e1, h1, l1⟩ := rep_tup (show Rep K G (.tup ds) x from r1)
    obtain ⟨p2, ys, e2, h2, l2⟩ := rep_tup (show Rep K G (.tup []) y from r2)
    rw [repL_nil.mp l2] at h2
    exact ⟨p, p2, xs, e1, e2, ex_t k.ex h1, ex_t k.ex h2, q _ H G Γ M (.dat (.bl _)) k .refl (by simp only [RepR, Rep]; rw [l1.length]) h⟩
  · exact h.elim
theorem c_eq0 (hu : X.A.units + 64 < cLine) (hK : X.K = K := by rfl) : CmpR X ρ .Eq (rEq0 K id) (aEq0 id) := by subst hK; exact ⟨op_eq0 hu, rd_eq0⟩
def intsD : List D → Option (List Int)
  | [] => some []
  | .int i :: ds => (intsD ds).map (i :: ·)
  | _ :: _ => none
theorem intsD_ok : ∀ {ds : List D} {ns : List Int}, intsD ds = some ns → ds = ns.map .int
  | [], _, h => by cases h; rfl
  | .int i :: ds, _, h => by
    simp only [intsD, Option.map_eq_some_iff] at h
    obtain ⟨ns, h1, rfl⟩ := h
    rw [intsD_ok h1]; rfl
theorem intsD_map (ns : List Int) : intsD (ns.map .int) = some ns := by
  induction ns with
  | nil => rfl
  | cons n ns ih => rw [List.map_cons, intsD, ih]; rfl
def aLtT (x : Ret) (y : Ret) (Γ : Sl) (M : Mem) (Q : Ret → Sl → Mem → Prop) : Prop := match x, y with
  | .dat (.tup ds), .dat (.tup es) => match intsD ds, intsD es with
    | some ns, some ms => Q (.dat (.bl (HT.lexLt ns ms))) Γ M
    | _, _ => False
  | _, _ => False
def aSortSet (r : Ret) (Γ : Sl) (M : Mem) (Q : Ret → Sl → Mem → Prop) : Prop := match r with
  | .dat (.tup ds) => match intsD ds with
    | some ns => ns.length ≤ 60 ∧ ∀ ms : List Int, ms.Pairwise (· < ·) → (∀ k, k ∈ ms ↔ k ∈ ns) → Q (.tmp (.lst (ms.map .int))) Γ M
    | none => False
  | _ => False
def aRepT (x : Ret) (y : Ret) (Γ : Sl) (M : Mem) (Q : Ret → Sl → Mem → Prop) : Prop := match x, y with
  | .dat (.tup ds), .dat (.int k) => (ds ≠ [] ∧ 2 ≤ k ∧ k ≤ 10000 ∧ ds.length ≤ 100) ∧ Q (.dat (.tup (List.replicate k.toNat ds).flatten)) Γ M
  | _, _ => False
def aRevT (r : Ret) (Γ : Sl) (M : Mem) (Q : Ret → Sl → Mem → Prop) : Prop := match r with
  | .dat (.tup ds) => Q (.dat (.tup ds.reverse)) Γ M
  | _ => False
end
def e_aCatS := @aCatS.eq_def
def e_aSlS := @aSlS.eq_def
def e_aStr := @aStr.eq_def
def e_aEq0 := @aEq0.eq_def
def e_aLtT := @aLtT.eq_def
def e_aSortSet := @aSortSet.eq_def
def e_aRepT := @aRepT.eq_def
def e_aRevT := @aRevT.eq_def
end Gw

namespace Gw
open PySem L2 PyProof.Rows
variable {ρ : Ent}
section
variable {prog : Program} {w : World} {A : Around} {E : Value → Shared → Prop} {s : Shared} {i : Int} {t : Tok} {b : Bool} {Q : Value → Shared → Prop}
def b2i (b : Bool) : Int := if b = true then 1 else 0
end
section
variable {X : Cx} {a b : Expr} {ta tb : TE} {aa ab : AE} {pos : Pos} {K : PySem.W.Frag}
def aIB (f : Int → Int → Int) (x : Ret) (y : Ret) (Γ : Sl) (M : Mem) (Q : Ret → Sl → Mem → Prop) : Prop := match x, y with
  | .dat (.int i), .dat (.int j) => Q (.dat (.int (f i j))) Γ M
  | .dat (.int i), .dat (.bl c) => Q (.dat (.int (f i (b2i c)))) Γ M
  | .dat (.bl c), .dat (.int j) => Q (.dat (.int (f (b2i c) j))) Γ M
  | _, _ => False
def strN : D → Str
  | .int i => Str.ofString (toString i)
  | .bl b => if b then "True" else "False"
  | _ => ""
def aStrB (r : Ret) (Γ : Sl) (M : Mem) (Q : Ret → Sl → Mem → Prop) : Prop := match r with
  | .dat (.int i) => i.natAbs.log2 < 1920 ∧ Q (.dat (.str (strN (.int i)))) Γ M
  | .dat (.bl c) => Q (.dat (.str (strN (.bl c)))) Γ M
  | _ => False
def rEqL0 (K : PySem.W.Frag) (f : Bool → Bool) : R2 := fun x y H Q => ∃ a b xs, x = .ref a ∧ y = .ref b ∧ SqL K H a xs ∧ SqL K H b [] ∧ Q (.bl (f (xs.length == 0))) H
theorem op_neL0 (hu : X.A.units + 64 < cLine) : OpR X (compareOp .NotEq) (rEqL0 X.K not) := by
  rintro pins s σ H x y v u Q I rx ry ⟨p, q, xs, rfl, rfl, hp, hq, w⟩
  cases rx; cases ry
  obtain ⟨its, r, ht, _⟩ := I.list hp
  obtain ⟨jts, r2, ht2, _⟩ := I.list hq
  cases r2
  by_cases z : its.toArray.size = (#[] : Array Value).size
  · refine SeqAt.RcNeAt.lists (e := fun _ => true) ht.isList ht2.isList z (by omega) (fun j _ h2 => absurd h2 (Nat.not_lt_zero j)) X.prog X.w X.xe _ ⟨.bl _, H, I, ?_, w⟩
    have : xs.length = 0 := by rw [r.length, ← List.size_toArray]; exact z
    rw [this]; simp at z; subst z; rfl
  · refine SeqAt.RcNeAt.lists_lengths ht.isList ht2.isList (bne_iff_ne.mpr z) (by omega) X.prog X.w X.xe _ ⟨.bl _, H, I, ?_, w⟩
    have : xs.length ≠ 0 := by rw [r.length, ← List.size_toArray]; exact z
    show Value.bool true = Value.bool (not (xs.length == 0))
    rw [show (xs.length == 0) = false from by simpa using this]; rfl
def aEqL0 (f : Bool → Bool) (x : Ret) (y : Ret) (Γ : Sl) (M : Mem) (Q : Ret → Sl → Mem → Prop) : Prop := match sqOf x Γ M, y with
  | some (.lst ds), .tmp (.lst []) => Q (.dat (.bl (f (ds.length == 0)))) Γ M
  | _, _ => False
theorem rd_eqL0 {f : Bool → Bool} : RdO K ρ (rEqL0 K f) (aEqL0 f) := by
  intro B σ H H1 H2 G Γ M rx ry x y Q R k r1 r2 h q
  unfold aEqL0 at h
  split at h
  · rename_i ds hs
    obtain ⟨p, xs, e1, h1, l1⟩ := sqOf_ok k r1 hs
    obtain ⟨p2, ys, e2, h2, l2⟩ := sqOf_ok k r2 (show sqOf (.tmp (.lst [])) Γ M = some (.lst []) from rfl)
    rw [repL_nil.mp l2] at h2
    exact ⟨p, p2, xs, e1, e2, SqL.of h1, SqL.of h2, q _ H G Γ M (.dat (.bl _)) k .refl (by simp only [RepR, Rep]; rw [l1.length]) h⟩
  · exact h.elim
theorem c_neL0 (hu : X.A.units + 64 < cLine) (hK : X.K = K := by rfl) : CmpR X ρ .NotEq (rEqL0 K not) (aEqL0 not) := by subst hK; exact ⟨op_neL0 hu, rd_eqL0⟩
end
def e_aEqL0 := @aEqL0.eq_def
def e_aIB := @aIB.eq_def
def e_aStrB := @aStrB.eq_def
end Gw

namespace Gw
open PySem L2 PyProof.Rows
variable {ρ : Ent}
section
variable {X : Cx} {tg tg1 a : Expr} {ta te : TE} {aa ae : AE} {pos : Pos} {K : PySem.W.Frag} {B : Ent} {σ σ' : L2.St} {H G H0 G0 H2 G2 H3 G3 : Hp} {Γ Γ' Γ0 Γ2 Γ3 : Sl} {M M0 M2 M3 : Mem}
structure Grow (K : PySem.W.Frag) (ρ : Ent) (B : Ent) (p : Addr) (σ0 : L2.St) (H0 G0 : Hp) (Γ0 : Sl) (M0 : Mem) (vs : List Nat) (acc : List D) (σ : L2.St) (H G : Hp) (Γ : Sl) (M : Mem) : Prop where
  ok : Ok K ρ B σ H G Γ M
  g : Ex G0 G
  tmp : ∀ a o, H0 a = some o → G0 a = none → a ∉ dom M0 → ¬ owned σ0 Γ0 a → H a = some o ∧ G a = none ∧ a ∉ dom M ∧ ¬ owned σ Γ a
  nn : ∀ a, H a = none → H0 a = none
  wi : ∀ (j : Nat) (s : Slot), Γ[j]? = some s → s ≠ .non → j ∉ vs
  here : ∃ xs, H p = some (.lst xs) ∧ RepL K G acc xs
  gp : G p = none
  mp : p ∉ dom M
  op : ¬ owned σ Γ p
  base : B.H p = none ∧ H0 p = none
variable {p : Addr} {σ0 : L2.St} {vs : List Nat} {acc : List D}
theorem Grow.es (w : Grow K ρ B p σ0 H0 G0 Γ0 M0 vs acc σ H G Γ M) (k : Ok K ρ B σ H2 G2 Γ2 M2) (e : Es σ H G Γ M H2 G2 Γ2 M2) : Grow K ρ B p σ0 H0 G0 Γ0 M0 [] acc σ H2 G2 Γ2 M2 := by
  obtain ⟨xs, hp, ra⟩ := w.here
  obtain ⟨p1, p2, p3, p4⟩ := e.tmp p _ hp w.gp w.mp w.op
  refine ⟨k, w.g.trans e.g, fun a o h g m n => ?_, fun a z => w.nn a (e.nn a z), fun j s _ _ => by simp, ⟨xs, p1, ra.mono e.g⟩, p2, p3, p4, w.base⟩
  obtain ⟨a1, a2, a3, a4⟩ := w.tmp a o h g m n
  exact e.tmp a o a1 a2 a3 a4
theorem Grow.to (w : Grow K ρ B p σ0 H0 G0 Γ0 M0 vs acc σ H G Γ M) (k : Ok K ρ B σ' H G Γ' M) (o : ∀ x, owned σ' Γ' x → owned σ Γ x) {us : List Nat} (hw : ∀ (j : Nat) (s : Slot), Γ'[j]? = some s → s ≠ .non → j ∉ us) : Grow K ρ B p σ0 H0 G0 Γ0 M0 us acc σ' H G Γ' M := by
  refine ⟨k, w.g, fun a o' h g m n => ?_, w.nn, hw, w.here, w.gp, w.mp, fun z => w.op (o _ z), w.base⟩
  obtain ⟨a1, a2, a3, a4⟩ := w.tmp a o' h g m n
  exact ⟨a1, a2, a3, fun z => a4 (o _ z)⟩
theorem Grow.add {xs : List V} {v : V} {y : D} (w : Grow K ρ B p σ0 H0 G0 Γ0 M0 vs acc σ H G Γ M) (hp : H p = some (.lst xs)) (ra : RepL K G acc xs) (rv : Rep K G y v) : Grow K ρ B p σ0 H0 G0 Γ0 M0 vs (acc ++ [y]) σ (upd H p (.lst (xs ++ [v]))) G Γ M := by
  refine ⟨w.ok.updTmp hp w.base.1 w.gp w.mp w.op, w.g, fun a o h g m n => ?_, fun a z => ?_, w.wi, ⟨_, upd_same, ra.append (RepL.one rv)⟩, w.gp, w.mp, w.op, w.base⟩
  · obtain ⟨a1, a2, a3, a4⟩ := w.tmp a o h g m n
    exact ⟨by rw [upd_ne (ne_of_none h w.base.2)]; exact a1, a2, a3, a4⟩
  · by_cases e : a = p
    · subst e; exact w.base.2
    · rw [upd_ne e] at z; exact w.nn a z
theorem Grow.enter (w : Grow K ρ B p σ0 H0 G0 Γ0 M0 vs acc σ H G Γ M) : Grow K ρ B p σ0 H0 G0 Γ0 M0 vs acc (wipe σ vs) H G Γ M := by
  obtain ⟨k, o⟩ := w.ok.agree (σ' := wipe σ vs) (Γ' := Γ) (fun j s a b => ⟨a, wipe_out (w.wi j s a b)⟩) (by rw [wipe_length]; exact w.ok.len)
  exact w.to k o w.wi
theorem Grow.leave (w : Grow K ρ B p σ0 H0 G0 Γ0 M0 [] acc σ' H G Γ M) (hw : wipe σ' vs = wipe σ vs) : Grow K ρ B p σ0 H0 G0 Γ0 M0 vs acc σ H G (wipeS Γ vs) M := by
  have ag : ∀ j, j ∉ vs → σ[j]? = σ'[j]? := fun j hj => by rw [← wipe_out (σ := σ') hj, hw, wipe_out hj]
  have hl : σ'.length = σ.length := by rw [← wipe_length σ' vs, hw, wipe_length]
  obtain ⟨k, o⟩ := w.ok.agree (σ' := σ) (Γ' := wipeS Γ vs) (fun j s a b => ⟨(wipeS_some a b).1, ag j (wipeS_some a b).2⟩) (by rw [wipeS_length, w.ok.len, hl])
  exact w.to k o fun j s a b => (wipeS_some a b).2
def aLcO (ai1 : AI) (g : AG) (tt : AT) (g1 : AG) (tt1 : AT) (ae : AE) (vs vs1 : List Nat) (k : List D → Sl → Mem → Prop) : List D → List D → Sl → Mem → Prop
  | [], acc, Γ, M => k acc Γ M
  | d :: ds, acc, Γ, M => g d Γ fun Γ1 => tt Γ1 M fun b Γ2 M2 => if b = true then ai1 Γ2 M2 fun es Γ3 M3 => aLcL g1 tt1 ae vs1 (fun acc' Γ4 M4 => aLcO ai1 g tt g1 tt1 ae vs vs1 k ds acc' (wipeS Γ4 vs) M4) es acc (wipeS Γ3 vs1) M3
      else aLcO ai1 g tt g1 tt1 ae vs vs1 k ds acc (wipeS Γ2 vs) M2
def lcO (ai1 : AI) (g : AG) (tt : AT) (g1 : AG) (tt1 : AT) (ae : AE) (vs vs1 : List Nat) (k : List D → Sl → Mem → Prop) (_ : WitL k) (ds acc : List D) (Γ : Sl) (M : Mem) : Prop := aLcO ai1 g tt g1 tt1 ae vs vs1 k ds acc Γ M
def aLc2 (ai : AI) (g : AG) (tt : AT) (ai1 : AI) (g1 : AG) (tt1 : AT) (ae : AE) (vs vs1 : List Nat) (Γ : Sl) (M : Mem) (Q : Ret → Sl → Mem → Prop) : Prop := ai Γ M fun ds Γ1 M1 => lcO ai1 g tt g1 tt1 ae vs vs1 (fun acc Γ2 M2 => Q (.tmp (.lst acc)) Γ2 M2) ⟨⟩ ds [] (wipeS Γ1 vs) M1
def rowD (r : List Int) : D := .tup (r.map .int)
def rowsD : List D → Option (List (List Int))
  | [] => some []
  | .tup es :: ds => match intsD es, rowsD ds with
    | some r, some rs => some (r :: rs)
    | _, _ => none
  | _ :: _ => none
theorem lex_code {B : Int} : ∀ {r q : List Int}, r.length = q.length → TS.Bd B r → TS.Bd B q → (HT.lexLt r q = true ↔ TS.code B r < TS.code B q)
  | [], [], _, _, _ => by simp [HT.lexLt, TS.code]
  | x :: r, y :: q, hl, hr, hq => by
    have hl' : r.length = q.length := by simpa using hl
    rw [HT.lexLt_cons]
    by_cases e : x = y
    · subst e
      rw [if_pos rfl, lex_code hl' hr.tail hq.tail, TS.code_same hl']
    · rw [if_neg e, decide_eq_true_iff]
      constructor
      · exact fun h => TS.code_lt hl' hr.tail hq.tail h
      · intro h
        by_cases z : x < y
        · exact z
        · have := TS.code_lt hl'.symm hq.tail hr.tail (by omega : y < x)
          omega
end
section
variable {prog : Program} {w : World} {A : Around} {E : Value → Shared → Prop} {s : Shared}
end
section
variable {X : Cx} {a : Expr} {ta : TE} {aa : AE} {pos : Pos} {K : PySem.W.Frag}
def aSortRows (r : Ret) (Γ : Sl) (M : Mem) (Q : Ret → Sl → Mem → Prop) : Prop := match sqOf r Γ M with
  | some (.lst ds) => match rowsD ds with
    | some rs => (rs.length < 64 ∧ ∃ n, ∀ r ∈ rs, r.length = n ∧ TS.Bd 64 r) ∧ ∀ os : List (List Int), os.Pairwise (fun r q => HT.lexLt r q = true) → (∀ r, r ∈ os ↔ r ∈ rs) → Q (.tmp (.lst (os.map rowD))) Γ M
    | none => False
  | _ => False
end
def e_aLc2 := @aLc2.eq_def
def e_aSortRows := @aSortRows.eq_def
end Gw

namespace Gw
open PySem L2 PyProof.Rows
abbrev RK (P : Program) (w : World) : HeapKind P w (List Int) := tupleKind (intKind P w)
theorem DcT.at {h h' : Heap} {a : Addr} {L : List RE} (t : DcT h a L) (k : ∀ o, h.get? a = some o → h'.get? a = some o) : DcT h' a L := by
  obtain ⟨xs, pr, o, es, ep, ho, r⟩ := t.ex
  exact ⟨⟨xs, pr, o, es, ep, k o ho, r⟩, t.few, t.sys⟩
theorem dcO_ok {P : Program} {w : World} {H : Hp} {h : Heap} {a : Addr} {L : List RE} (t : DcT h a L) : ObjOk P w H h a (DcO a L) := by
  refine ⟨t, ?_, fun h1 h2 p k => DcT.at p k⟩
  obtain ⟨xs, pr, o, es, ep, ho, r⟩ := t.ex
  exact ⟨o, ho⟩
def putR : List RE → List Int → Addr → V → List RE
  | [], k, b, v => [(k, b, v)]
  | p :: L, k, b, v => if p.1 = k then (p.1, p.2.1, v) :: L else p :: putR L k b v
theorem map_putAt {k : List Int} {v : Value} : ∀ {xs : List REv}, k ∉ xs.map (·.1) → xs.map (putAt k v) = xs
  | [], _ => rfl
  | x :: xs, h => by
    simp only [List.map_cons, List.mem_cons, not_or] at h
    rw [List.map_cons, map_putAt h.2, putAt, if_neg (fun e => h.1 e.symm)]
theorem stored_cons {k : List Int} {b : Addr} {v : Value} {x : REv} {xs : List REv} (nd : ((x :: xs).map (·.1)).Nodup) : storedH (x :: xs) k b v = if x.1 = k then (x.1, x.2.1, v) :: xs else x :: storedH xs k b v := by
  rw [List.map_cons, List.nodup_cons] at nd
  by_cases e : x.1 = k
  · have a : atKey (x :: xs) k = some x.2 := by simp only [atKey, List.find?_cons, e, decide_true, Option.map_some]
    rw [storedH_old a, List.map_cons, putAt, if_pos e, if_pos e, map_putAt (e ▸ nd.1)]
  · have a : atKey (x :: xs) k = atKey xs k := by simp only [atKey, List.find?_cons, e, decide_false]
    rw [if_neg e]
    unfold storedH
    rw [a]
    split
    · rw [List.map_cons, putAt, if_neg e]
    · rfl
theorem putR_val {L : List RE} {xs : List REv} (pr : Paired ReIs L xs) {k : List Int} {b : Addr} {v : V} {u : Value} (rv : RelV v u) (nd : (xs.map (·.1)).Nodup) : Paired ReIs (putR L k b v) (storedH xs k b u) := by
  induction pr with
  | nil => exact .cons ⟨rfl, rfl, rv⟩ .nil
  | @cons p q L xs h t ih =>
    rw [stored_cons nd]
    rw [List.map_cons, List.nodup_cons] at nd
    obtain ⟨h1, h2, h3⟩ := h
    by_cases e : p.1 = k
    · have e' : q.1 = k := h1 ▸ e
      simp only [putR, e, if_true, e']
      exact .cons ⟨rfl, h2, rv⟩ t
    · have e' : ¬ q.1 = k := h1 ▸ e
      simp only [putR, e, if_false, e']
      exact .cons ⟨h1, h2, h3⟩ (ih nd.2)
theorem putR_len {k : List Int} {b : Addr} {v : V} : ∀ {L : List RE}, (putR L k b v).length ≤ L.length + 1
  | [] => Nat.le_refl _
  | p :: L => by
    unfold putR
    split
    · simp
    · have := putR_len (k := k) (b := b) (v := v) (L := L)
      simp only [List.length_cons]; omega
section
variable {X : Cx} {o i e f value : Expr} {pos pos' apos cpos : Pos} {td ty tv tx : TE} {pins : List (Addr × Obj)} {σ : L2.St} {H : Hp} {s : Shared} {a : Addr} {L : List RE} {K : PySem.W.Frag}
theorem dc_rd (I : Inv X pins σ H s) (d : Rd H a (DcO a L)) (hk : KeyR X.K H L) : DcT s.heap a L ∧ ∃ xs, Paired ReIs L xs ∧ s.heap.DictOfH (RK X.prog X.w) a xs := by
  have t : DcT s.heap a L := (show ObjOk X.prog X.w H s.heap a (DcO a L) from d.ok I.hok).1
  obtain ⟨xs, pr, o, es, ep, ho, hx, hd, he, nd⟩ := t.ex
  refine ⟨t, xs, pr, o, es, ep, ho, hx, hd, he, fun x hx => ?_, nd⟩
  have all : ∀ {L : List RE} {xs : List REv}, Paired ReIs L xs → KeyR X.K H L → ∀ x ∈ xs, (RK X.prog X.w).is s.heap x.1 x.2.1 := by
    intro L xs pr
    induction pr with
    | nil => intro _ x hx; cases hx
    | @cons p q L xs h _ ih =>
      intro hk x hx
      rcases List.mem_cons.mp hx with rfl | hx
      · have := I.isT (hk p List.mem_cons_self).1
        rw [h.1, h.2.1] at this
        exact this
      · exact ih (fun p hp => hk p (List.mem_cons_of_mem _ hp)) x hx
  exact all pr hk x hx
def tRNew : TE := fun _ H Q => ∀ p, H p = none → Q (.ref p) (upd H p (DcO p []))
theorem pe_rnew : PE X (.Dict [] [] pos) tRNew := ⟨fun pins s σ H Q I h => wpAny_Dict_empty
  ⟨.ref s.heap.objs.size, _, I.laid (a := s.heap.objs.size) (o := DcO s.heap.objs.size []) (t' := s.toks) (fun _ _ q => Heap.get?_push_of_some _ q) (Nat.le_refl _)
    (dcO_ok ⟨⟨[], .nil, _, #[], 0, Heap.get?_push_size _ rfl, ⟨rfl, rfl, rfl⟩, rfl, rfl, List.nodup_nil⟩, Nat.zero_le _, beq_eq_false_iff_ne.mpr (Ne.symm (Nat.ne_of_lt I.big))⟩), rfl, h _ (I.hok.fresh (Nat.le_refl _))⟩⟩
def sRPut (K : PySem.W.Frag) (td ty tv : TE) : TS := fun D σ H => tv σ H fun v H1 => td σ H1 fun x H2 => ty σ H2 fun y H3 => ∃ a L k b, x = .ref a ∧ y = .ref b ∧ H3 a = some (DcO a L) ∧ KeyR K H3 L ∧ SqN K H3 b (k.map V.int) ∧ L.length < sizeLine ∧ D.nx σ (upd H3 a (DcO a (putR L k b v)))
theorem ps_rput (hu : X.A.units + 1 < cLine) (ho : PE X o td) (hi : PE X i ty) (hv : PE X value tv) (hs : swapsWith value (some (.Subscript o i pos')) pos.line X.env = pure false) :
    PS X (.Assign [.Subscript o i pos'] value pos) (sRPut X.K td ty tv) := ⟨fun pins s σ H D I h => by
  refine wpAny_Assign_Subscript (thn (hv.run pins s σ H _ I h) fun r s1 ⟨v, H1, I1, rv, q1⟩ => thn (ho.run pins s1 σ H1 _ I1 q1) fun u s2 ⟨x, H2, I2, rx, q2⟩ => thn (hi.run pins s2 σ H2 _ I2 q2) fun iv s3 ⟨y, H3, I3, ry, a, L, k, b, ex, ey, d, hk, hb, hl, q3⟩ => ?_) hs
  subst ex; subst ey
  cases rx; cases ry
  obtain ⟨t, xs, pr, dd⟩ := dc_rd I3 (.inl d) hk
  have hz : xs.length ≤ sizeLine := by rw [← Paired.length pr]; exact t.few
  have nd : (xs.map (·.1)).Nodup := let ⟨_, _, _, _, _, _, _, _, n⟩ := dd; n
  refine wpAny_setItem_heap (hsz := hz) (tupleKind_room_in1 hu) (I3.isT hb.1) dd fun h' dd' sb => ⟨σ, _, d_write I3 (by rw [d]; exact True.intro) sb ?_ ?_, q3⟩
  · obtain ⟨o', _, _, ho', _⟩ := dd'; exact ⟨o', ho'⟩
  · obtain ⟨o', es, ep, h1, h2, h3, h4, _, h5⟩ := dd'
    exact dcO_ok ⟨⟨_, putR_val pr rv nd, o', es, ep, h1, h2, h3, h4, h5⟩, Nat.le_trans putR_len hl, t.sys⟩⟩
theorem paired_at {xs : List REv} (pr : Paired ReIs L xs) {j : Nat} {p : RE} (h : L[j]? = some p) : ∃ q, xs[j]? = some q ∧ ReIs p q := by
  induction pr generalizing j with
  | nil => cases h
  | @cons p' q' L xs hh _ ih => cases j with
    | zero => cases h; exact ⟨q', rfl, hh⟩
    | succ j => exact ih h
end
end Gw

namespace Gw
open PySem L2 PyProof.Rows
variable {ρ : Ent}
def keyT : D → Option (List Int)
  | .tup ds => intsD ds
  | _ => none
def getT : List (List Int) → List D → List Int → Option D
  | k :: ks, d :: ds, x => if k = x then some d else getT ks ds x
  | _, _, _ => none
def putT : List (List Int) → List D → List Int → D → List (List Int) × List D
  | k :: ks, e :: ds, x, d => if k = x then (k :: ks, d :: ds) else (k :: (putT ks ds x d).1, e :: (putT ks ds x d).2)
  | _, _, x, d => ([x], [d])
def itemsT : List (List Int) → List D → List D
  | k :: ks, d :: ds => .tup [rowD k, d] :: itemsT ks ds
  | _, _ => []
section
variable {X : Cx} {a b c e : Expr} {ta tb tc te : TE} {aa ab ac ae : AE} {pos : Pos} {K : PySem.W.Frag} {B : Ent} {σ : L2.St} {H G H1 G1 H2 G2 H0 : Hp} {Γ Γ1 Γ2 : Sl} {M M1 M2 : Mem}
theorem rep_keyT {d : D} {v : V} {k : List Int} (h : Rep K G d v) (e : keyT d = some k) : ∃ b, v = .ref b ∧ SqN K G b (k.map V.int) := by
  cases d with
  | tup ds =>
    obtain ⟨b, xs, rfl, hb, hr⟩ := rep_tupN.mp h
    rw [intsD_ok e] at hr
    rw [repL_map_int.mp hr] at hb
    exact ⟨b, rfl, hb⟩
  | _ => cases e
theorem putT_ok {k : List Int} {bb : Addr} {v : V} {d : D} (rv : Rep K G d v) : ∀ {L : List RE} {ds : List D}, RepL K G ds (L.map (·.2.2)) → (putR L k bb v).map (·.1) = (putT (L.map (·.1)) ds k d).1 ∧ RepL K G (putT (L.map (·.1)) ds k d).2 ((putR L k bb v).map (·.2.2))
  | [], ds, h => by
    refine ⟨by simp [putR, putT], ?_⟩
    have : putT ([] : List (List Int)) ds k d = ([k], [d]) := by cases ds <;> rfl
    rw [List.map_nil, this]
    exact RepL.one rv
  | p :: L, [], h => by cases repL_nil.mp h
  | p :: L, e :: ds, h => by
    obtain ⟨x, r, e1, h1, h2⟩ := repL_cons.mp h
    simp only [List.map_cons, List.cons.injEq] at e1
    obtain ⟨rfl, rfl⟩ := e1
    obtain ⟨i1, i2⟩ := putT_ok (k := k) (bb := bb) rv h2
    simp only [List.map_cons, putT, putR]
    by_cases z : p.1 = k
    · simp only [z, if_true, List.map_cons]
      exact ⟨trivial, repL_cons.mpr ⟨_, _, rfl, rv, h2⟩⟩
    · simp only [z, if_false, List.map_cons]
      exact ⟨by rw [i1], repL_cons.mpr ⟨_, _, rfl, h1, i2⟩⟩
theorem putR_keys {k : List Int} {bb : Addr} {v : V} (hb : SqN K G bb (k.map V.int)) : ∀ {L : List RE}, KeyR K G L → KeyR K G (putR L k bb v)
  | [], _ => fun p hp => by cases List.mem_singleton.mp hp; exact hb
  | q :: L, h => fun p hp => by
    unfold putR at hp
    split at hp
    · rcases List.mem_cons.mp hp with rfl | hp
      · exact h q List.mem_cons_self
      · exact h p (List.mem_cons_of_mem _ hp)
    · rcases List.mem_cons.mp hp with rfl | hp
      · exact h p List.mem_cons_self
      · exact putR_keys hb (fun r hr => h r (List.mem_cons_of_mem _ hr)) p hp
def dcTOf (r : Ret) (Γ : Sl) (M : Mem) : Option (List (List Int) × List D) := match r with
  | .dat (.dcT ks ds) => some (ks, ds)
  | .dat (.ref a) => match M.lookup a with
    | some (.dcT ks ds) => some (ks, ds)
    | _ => none
  | .tmp (.dcT ks ds) => some (ks, ds)
  | .var i => match Γ[i]? with
    | some (.own (.dcT ks ds)) => some (ks, ds)
    | some (.dat (.dcT ks ds)) => some (ks, ds)
    | _ => none
  | _ => none
structure SeeT (K : PySem.W.Frag) (H G : Hp) (l : Addr) (L : List RE) (t : List (List Int) × List D) : Prop where
  rd : Rd H l (DcO l L)
  ks : L.map (·.1) = t.1
  key : KeyR K G L
  val : RepL K G t.2 (L.map (·.2.2))
theorem seeT_dat {ks : List (List Int)} {ds : List D} {v : V} (o : Ok K ρ B σ H G Γ M) (h : Rep K G (.dcT ks ds) v) : ∃ l L, v = .ref l ∧ SeeT K H G l L (ks, ds) := by
  obtain ⟨l, od, L, e, h1, h2, h3, h4⟩ := rep_dcT.mp h
  exact ⟨l, L, e, .inr ⟨od, o.ex _ _ h1⟩, h2, h3, h4⟩
theorem seeT_cel {ks : List (List Int)} {ds : List D} {l : Addr} (h : Cel K H G l (.dcT ks ds)) : ∃ L, H l = some (DcO l L) ∧ SeeT K H G l L (ks, ds) := by
  obtain ⟨_, u, hu, L, rfl, h1, h2, h3⟩ := h
  exact ⟨L, hu, .inl hu, h1, h2, h3⟩
theorem dcTOf_ok {r : Ret} {v : V} {t : List (List Int) × List D} (o : Ok K ρ B σ H G Γ M) (rr : RepR K B σ H0 H G Γ M r v) (h : dcTOf r Γ M = some t) : ∃ l L, v = .ref l ∧ SeeT K H G l L t := by
  have cel : ∀ {l : Addr} {ks : List (List Int)} {ds : List D}, v = .ref l → Cel K H G l (.dcT ks ds) → ∃ l L, v = .ref l ∧ SeeT K H G l L (ks, ds) := fun {l ks ds} ev hc => by
    obtain ⟨L, _, s⟩ := seeT_cel hc
    exact ⟨l, L, ev, s⟩
  cases r with
  | dat d =>
    cases d with
    | dcT ks ds => cases h; exact seeT_dat o rr
    | ref l =>
      simp only [dcTOf] at h
      split at h
      · rename_i ks ds e1
        cases h
        exact cel (by have := rr; simp only [RepR, Rep] at this; exact this) (o.ms l _ (lookup_mem e1))
      · cases h
    | _ => cases h
  | tmp c =>
    cases c with
    | lst ds => cases h
    | dct ks ds => cases h
    | dcN ks ds => cases h
    | ins cn ns ds => cases h
    | tab q => cases h
    | dcT ks ds =>
      cases h
      obtain ⟨p, ev, _, _, hc, _⟩ := rr
      exact cel ev hc
  | var i =>
    simp only [dcTOf] at h
    split at h
    · rename_i ks ds e1
      cases h
      obtain ⟨p, s1, _, _, hc⟩ := o.own i _ e1
      exact cel (by have := (show σ[i]? = some (some v) from rr); rw [s1] at this; cases this; rfl) hc
    · rename_i ks ds e1
      cases h
      obtain ⟨v', h1, h2⟩ := o.dat i _ e1
      have : v' = v := by have := (show σ[i]? = some (some v) from rr); rw [h1] at this; cases this; rfl
      subst this
      exact seeT_dat o h2
    · cases h
def aTNew (Γ : Sl) (M : Mem) (Q : Ret → Sl → Mem → Prop) : Prop := Q (.tmp (.dcT [] [])) Γ M
theorem q_tnew : QE X ρ (.Dict [] [] pos) tRNew aTNew := ⟨pe_rnew, fun B σ H G Γ M Q R k h q p hp => by
  obtain ⟨k2, e2, hm, hn, hb, hg⟩ := k.tmp (o := DcO p []) hp
  exact q _ _ _ Γ M (.tmp (.dcT [] [])) k2 e2 ⟨p, rfl, hp, hb, ⟨hg, _, upd_same, [], rfl, rfl, fun _ z => (List.not_mem_nil z).elim, repL_nil.mpr rfl⟩, hm, hn⟩ h⟩
def aTGet (ad ay : AE) (Γ : Sl) (M : Mem) (Q : Ret → Sl → Mem → Prop) : Prop := ad Γ M fun r Γ1 M1 => ay Γ1 M1 fun ry Γ2 M2 => match ry with
  | .dat y => match keyT y with
    | some k => match dcTOf r Γ2 M2 with
      | some t => match getT t.1 t.2 k with
        | some d => Q (.dat d) Γ2 M2
        | none => False
      | none => False
    | none => False
  | _ => False
def aTGet2 (ad ay az : AE) (Γ : Sl) (M : Mem) (Q : Ret → Sl → Mem → Prop) : Prop := ad Γ M fun r Γ1 M1 => (dcTOf r Γ1 M1).isSome = true ∧ ay Γ1 M1 fun ry Γ2 M2 => az Γ2 M2 fun rz Γ3 M3 => match ry with
  | .dat y => match rz with
    | .dat z => match keyT y with
      | some k => match dcTOf r Γ3 M3 with
        | some t => Q (.dat ((getT t.1 t.2 k).getD z)) Γ3 M3
        | none => False
      | none => False
    | _ => False
  | _ => False
def aTPut (ae ao ai : AE) (A : AEnds) (Γ : Sl) (M : Mem) : Prop := ae Γ M fun r Γ0 M0 => frz r Γ0 fun d Γ1 => ao Γ1 M0 fun ro Γ2 M2 => ai Γ2 M2 fun ri Γ3 M3 => match ri with
  | .dat y => match keyT y with
    | some k => match cget ro Γ3 M3 with
      | some (.dcT ks ds) => ks.length < sizeLine ∧ cput ro (.dcT (putT ks ds k d).1 (putT ks ds k d).2) Γ3 M3 fun Γ4 M4 => A.nx Γ4 M4
      | _ => False
    | none => False
  | _ => False
theorem qs_tput {o i : Expr} {to ti : TE} {ao ai : AE} {pos' : Pos} (hu : X.A.units + 64 < cLine) (h : QE X ρ a ta aa) (ho : QE X ρ o to ao) (hi : QE X ρ i ti ai) (hs : swapsWith a (some (.Subscript o i pos')) pos.line X.env = pure false := by rfl) (hK : X.K = K := by rfl) :
    QS X ρ (.Assign [.Subscript o i pos'] a pos) (sRPut K to ti ta) (aTPut aa ao ai) := by
  subst hK
  refine ⟨ps_rput (by omega) ho.pe hi.pe h.pe hs, fun B σ H G Γ M A E k hh s => h.rd B σ H G Γ M _ _ k hh fun v H1 G1 Γ1 M1 r k1 e1 rr h1 => ?_⟩
  obtain ⟨G2, Γ2, d, k2, e2, rp, h2⟩ := frz_ok (H0 := H) k1 e1 rr h1
  refine ho.rd B σ H1 G2 Γ2 M1 _ _ k2 h2 fun ov H3 G3 Γ3 M3 ro k3 e3 rro h3 => ?_
  refine hi.rd B σ H3 G3 Γ3 M3 _ _ k3 h3 fun iv H4 G4 Γ4 M4 ri k4 e4 rri h4 => ?_
  split at h4
  · rename_i y
    split at h4
    · rename_i key hy
      obtain ⟨bb, rfl, hb'⟩ := rep_keyT (show Rep X.K G4 y iv from rri) hy
      split at h4
      · rename_i ks ds hd
        have rro' := rro.es e4
        obtain ⟨l, o', rfl, hl, L, rfl, hks, hkey, hval⟩ := cget_ok k4 rro' hd
        have rp4 : Rep X.K G4 d v := (rp.mono e3.g).mono e4.g
        have pt := putT_ok (k := key) (bb := bb) rp4 hval
        rw [hks] at pt
        obtain ⟨Γ5, M5, k5, e6, hq⟩ := cput_ok (c' := .dcT _ _) (o' := DcO l (putR L key bb v)) k4 rro' hd ⟨_, rfl, pt.1, putR_keys hb' hkey, pt.2⟩ h4.2
        exact ⟨l, L, key, bb, rfl, rfl, hl, hkey.mono k4.ex, ex_n k4.ex hb', by rw [← List.length_map (f := (·.1)), hks]; exact h4.1, s.nx σ _ G4 Γ5 M5 k5 hq⟩
      · exact h4.elim
    · exact h4.elim
  · exact h4.elim
def aTItems (aa : AE) (Γ : Sl) (M : Mem) (Q : List D → Sl → Mem → Prop) : Prop := aa Γ M fun r Γ1 M1 => match r with
  | .dat (.dcT ks ds) => Q (itemsT ks ds) Γ1 M1
  | _ => False
def aTIn (f : Bool → Bool) (ay ad : AE) (Γ : Sl) (M : Mem) (Q : Ret → Sl → Mem → Prop) : Prop := ay Γ M fun ry Γ1 M1 => ad Γ1 M1 fun r Γ2 M2 => match ry with
  | .dat y => match keyT y with
    | some k => match dcTOf r Γ2 M2 with
      | some t => Q (.dat (.bl (f (getT t.1 t.2 k).isSome))) Γ2 M2
      | none => False
    | none => False
  | _ => False
def aSortT (r : Ret) (Γ : Sl) (M : Mem) (Q : Ret → Sl → Mem → Prop) : Prop := match dcTOf r Γ M with
  | some t => (t.1.length < 64 ∧ ∃ n, ∀ r ∈ t.1, r.length = n ∧ TS.Bd 64 r) ∧ ∀ os : List (List Int), os.Pairwise (fun r q => HT.lexLt r q = true) → os.Perm t.1 → Q (.tmp (.lst (os.map rowD))) Γ M
  | none => False
end
def e_aTNew := @aTNew.eq_def
def e_aTGet := @aTGet.eq_def
def e_aTGet2 := @aTGet2.eq_def
def e_aTPut := @aTPut.eq_def
def e_aTItems := @aTItems.eq_def
def e_aTIn := @aTIn.eq_def
def e_aSortT := @aSortT.eq_def
def e_dcTOf := @dcTOf.eq_def
end Gw

namespace Gw
open PySem L2 PyProof.Rows
variable {ρ : Ent}
section
variable {X : Cx} {a : Expr} {ta : TE} {aa : AE} {pos : Pos} {K : PySem.W.Frag} {pins : List (Addr × Obj)} {σ : L2.St} {H G : Hp} {s : Shared}
def pairsT : List D → Option (List (List Int × D))
  | [] => some []
  | d :: ds => match d with
    | .tup [k, e] => match keyT k, pairsT ds with
      | some r, some ps => some ((r, e) :: ps)
      | _, _ => none
    | _ => none
def putAllT (t : List (List Int) × List D) (ps : List (List Int × D)) : List (List Int) × List D := ps.foldl (fun t p => putT t.1 t.2 p.1 p.2) t
def aDictT (r : Ret) (Γ : Sl) (M : Mem) (Q : Ret → Sl → Mem → Prop) : Prop := match sqOf r Γ M with
  | some (.lst ds) => match pairsT ds with
    | some ps => Q (.tmp (.dcT (putAllT ([], []) ps).1 (putAllT ([], []) ps).2)) Γ M
    | none => False
  | some (.tup ds) => match pairsT ds with
    | some ps => Q (.tmp (.dcT (putAllT ([], []) ps).1 (putAllT ([], []) ps).2)) Γ M
    | none => False
  | _ => False
end
def e_aDictT := @aDictT.eq_def
end Gw

namespace Gw
open PySem L2 PyProof.Rows
variable {ρ : Ent}
section
variable {X : Cx} {kx vx tg iter : Expr} {ifs : List Expr} {scope : Scope} {own : List (Str × Nat)} {pos : Pos} {wi : TI} {g : TG} {tt : TT} {tk tv : TE} {pins : List (Addr × Obj)} {σ : L2.St} {H : Hp} {s : Shared}
end
section
variable {X : Cx} {kx vx tg iter : Expr} {ifs : List Expr} {pos : Pos} {tk tv : TE} {ak av : AE} {K : PySem.W.Frag} {B : Ent} {σ σ' σ0 : L2.St} {H G H0 G0 H2 G2 : Hp} {Γ Γ' Γ0 Γ2 : Sl} {M M0 M2 : Mem} {p : Addr} {vs : List Nat} {c : Cell}
structure Grows (K : PySem.W.Frag) (ρ : Ent) (B : Ent) (p : Addr) (σ0 : L2.St) (H0 G0 : Hp) (Γ0 : Sl) (M0 : Mem) (vs : List Nat) (c : Cell) (σ : L2.St) (H G : Hp) (Γ : Sl) (M : Mem) : Prop where
  ok : Ok K ρ B σ H G Γ M
  g : Ex G0 G
  tmp : ∀ a o, H0 a = some o → G0 a = none → a ∉ dom M0 → ¬ owned σ0 Γ0 a → H a = some o ∧ G a = none ∧ a ∉ dom M ∧ ¬ owned σ Γ a
  nn : ∀ a, H a = none → H0 a = none
  wi : ∀ (j : Nat) (s : Slot), Γ[j]? = some s → s ≠ .non → j ∉ vs
  here : Cel K H G p c
  mp : p ∉ dom M
  op : ¬ owned σ Γ p
  base : B.H p = none ∧ H0 p = none
theorem Grows.es (w : Grows K ρ B p σ0 H0 G0 Γ0 M0 vs c σ H G Γ M) (k : Ok K ρ B σ H2 G2 Γ2 M2) (e : Es σ H G Γ M H2 G2 Γ2 M2) : Grows K ρ B p σ0 H0 G0 Γ0 M0 [] c σ H2 G2 Γ2 M2 := by
  obtain ⟨gp, o, hp, hc⟩ := w.here
  obtain ⟨p1, p2, p3, p4⟩ := e.tmp p _ hp gp w.mp w.op
  refine ⟨k, w.g.trans e.g, fun a o h g m n => ?_, fun a z => w.nn a (e.nn a z), fun j s _ _ => by simp, ⟨p2, o, p1, hc.mono e.g⟩, p3, p4, w.base⟩
  obtain ⟨a1, a2, a3, a4⟩ := w.tmp a o h g m n
  exact e.tmp a o a1 a2 a3 a4
theorem Grows.to (w : Grows K ρ B p σ0 H0 G0 Γ0 M0 vs c σ H G Γ M) (k : Ok K ρ B σ' H G Γ' M) (o : ∀ x, owned σ' Γ' x → owned σ Γ x) {us : List Nat} (hw : ∀ (j : Nat) (s : Slot), Γ'[j]? = some s → s ≠ .non → j ∉ us) : Grows K ρ B p σ0 H0 G0 Γ0 M0 us c σ' H G Γ' M := by
  refine ⟨k, w.g, fun a o' h g m n => ?_, w.nn, hw, w.here, w.mp, fun z => w.op (o _ z), w.base⟩
  obtain ⟨a1, a2, a3, a4⟩ := w.tmp a o' h g m n
  exact ⟨a1, a2, a3, fun z => a4 (o _ z)⟩
theorem Grows.put {c' : Cell} {u : HO} (w : Grows K ρ B p σ0 H0 G0 Γ0 M0 vs c σ H G Γ M) (hu : CellOk K G p c' u) : Grows K ρ B p σ0 H0 G0 Γ0 M0 vs c' σ (upd H p u) G Γ M := by
  obtain ⟨gp, o, hp, hc⟩ := w.here
  refine ⟨w.ok.updTmp' hp w.base.1 gp w.mp w.op, w.g, fun a o h g m n => ?_, fun a z => ?_, w.wi, ⟨gp, u, upd_same, hu⟩, w.mp, w.op, w.base⟩
  · obtain ⟨a1, a2, a3, a4⟩ := w.tmp a o h g m n
    exact ⟨by rw [upd_ne (ne_of_none h w.base.2)]; exact a1, a2, a3, a4⟩
  · by_cases e : a = p
    · subst e; exact w.base.2
    · rw [upd_ne e] at z; exact w.nn a z
theorem Grows.enter (w : Grows K ρ B p σ0 H0 G0 Γ0 M0 vs c σ H G Γ M) : Grows K ρ B p σ0 H0 G0 Γ0 M0 vs c (wipe σ vs) H G Γ M := by
  obtain ⟨k, o⟩ := w.ok.agree (σ' := wipe σ vs) (Γ' := Γ) (fun j s a b => ⟨a, wipe_out (w.wi j s a b)⟩) (by rw [wipe_length]; exact w.ok.len)
  exact w.to k o w.wi
theorem Grows.leave (w : Grows K ρ B p σ0 H0 G0 Γ0 M0 [] c σ' H G Γ M) (hw : wipe σ' vs = wipe σ vs) : Grows K ρ B p σ0 H0 G0 Γ0 M0 vs c σ H G (wipeS Γ vs) M := by
  have ag : ∀ j, j ∉ vs → σ[j]? = σ'[j]? := fun j hj => by rw [← wipe_out (σ := σ') hj, hw, wipe_out hj]
  have hl : σ'.length = σ.length := by rw [← wipe_length σ' vs, hw, wipe_length]
  obtain ⟨k, o⟩ := w.ok.agree (σ' := σ) (Γ' := wipeS Γ vs) (fun j s a b => ⟨(wipeS_some a b).1, ag j (wipeS_some a b).2⟩) (by rw [wipeS_length, w.ok.len, hl])
  exact w.to k o fun j s a b => (wipeS_some a b).2
def aDcL (g : AG) (tt : AT) (ak av : AE) (vs : List Nat) (k : List (List Int) × List D → Sl → Mem → Prop) : List D → List (List Int) × List D → Sl → Mem → Prop
  | [], t, Γ, M => k t Γ M
  | d :: ds, t, Γ, M => g d Γ fun Γ1 => tt Γ1 M fun b Γ2 M2 => if b = true then ak Γ2 M2 fun rk Γ3 M3 => match rk with
      | .dat y => match keyT y with
        | some key => av Γ3 M3 fun rv Γ4 M4 => frz rv Γ4 fun e Γ5 => t.1.length < sizeLine ∧ aDcL g tt ak av vs k ds (putT t.1 t.2 key e) (wipeS Γ5 vs) M4
        | none => False
      | _ => False
    else aDcL g tt ak av vs k ds t (wipeS Γ2 vs) M2
structure WitD (k : List (List Int) × List D → Sl → Mem → Prop) : Type where
def dcW (g : AG) (tt : AT) (ak av : AE) (vs : List Nat) (k : List (List Int) × List D → Sl → Mem → Prop) (_ : WitD k) (ds : List D) (t : List (List Int) × List D) (Γ : Sl) (M : Mem) : Prop := aDcL g tt ak av vs k ds t Γ M
def aDcR (ai : AI) (g : AG) (tt : AT) (ak av : AE) (vs : List Nat) (Γ : Sl) (M : Mem) (Q : Ret → Sl → Mem → Prop) : Prop := ai Γ M fun ds Γ1 M1 => dcW g tt ak av vs (fun t Γ2 M2 => Q (.tmp (.dcT t.1 t.2)) Γ2 M2) ⟨⟩ ds ([], []) (wipeS Γ1 vs) M1
end
def e_aDcR := @aDcR.eq_def
end Gw

namespace Gw
open PySem L2 PyProof.Rows
variable {ρ : Ent}
section
variable {X : Cx} {a b : Expr} {ta tb : TE} {aa ab : AE} {pos : Pos} {K : PySem.W.Frag} {B : Ent} {σ : L2.St} {H G : Hp} {Γ : Sl} {M : Mem}
def aOneR (aa ab : AE) (Γ : Sl) (M : Mem) (Q : Ret → Sl → Mem → Prop) : Prop := aa Γ M fun rk Γ1 M1 => match rk with
  | .dat y => match keyT y with
    | some k => ab Γ1 M1 fun rv Γ2 M2 => match rv with
      | .dat d => Q (.tmp (.dcT [k] [d])) Γ2 M2
      | _ => False
    | none => False
  | _ => False
end
def e_aOneR := @aOneR.eq_def
end Gw

namespace Gw
open PySem L2 PyProof.Rows
variable {ρ : Ent}
def wk (Q : Ret → Mem → Prop) (r : Ret) (M : Mem) : Prop := ∃ M', List.Sublist M' M ∧ Q r M'
section
variable {P : Program} {w : World} {K : PySem.W.Frag} {mg : Str → Option Value} {base : Heap}
theorem dom_sub {M M' : Mem} (h : List.Sublist M' M) : List.Sublist (dom M') (dom M) := h.map _
theorem Post.sub {H G H' G' : Hp} {M M1 M2 : Mem} (h : List.Sublist M2 M1) (p : Post K H G M H' G' M1) : Post K H G M H' G' M2 := by
  obtain ⟨st, ex, nd, ms⟩ := p
  exact ⟨⟨st.g, st.fr, st.gn, fun a ha => st.mn a ((dom_sub h).subset ha), st.nn⟩, ex, (dom_sub h).nodup nd, fun a c hc => ms a c (h.subset hc)⟩
theorem RetOk.sub {H H' G' : Hp} {M1 M2 : Mem} {r : Ret} {v : V} (h : List.Sublist M2 M1) (p : RetOk K H H' G' M1 r v) : RetOk K H H' G' M2 r v := by
  cases r with
  | dat d => exact p
  | tmp c =>
    obtain ⟨q, e, hq, hc, hm⟩ := p
    exact ⟨q, e, hq, hc, fun z => hm ((dom_sub h).subset z)⟩
  | var i => exact p
theorem FnG.weaken {CX : CXT} {k : Nat} {f : Addr} {fd : FuncData} {ps : List Str} {sp sp' : Sp} (F : FnG P w K mg base CX k f fd ps sp) (h : ∀ vs H Q E, sp' vs H Q E → sp vs H Q E) : FnG P w K mg base CX k f fd ps sp' :=
  ⟨fun vs H Q E z => F.arity vs H Q E (h vs H Q E z), fun A o s H ar us vs Q E r gd env b rl z => F.go A o s H ar us vs Q E r gd env b rl (h vs H Q E z)⟩
end
end Gw

namespace Gw
open PySem L2 PyProof.Rows
variable {ρ : Ent}
def aPutI (d : D) (ao ai : AE) (k : Sl → Mem → Prop) (Γ : Sl) (M : Mem) : Prop := ao Γ M fun ro Γ2 M2 => ai Γ2 M2 fun ri Γ3 M3 => match ri, lget ro Γ3 M3 with
  | .dat (.int i), some ds => match ixN ds.length i with
    | some j => lput ro (ds.set j d) Γ3 M3 k
    | none => False
  | _, _ => False
def aSetI2 (aa : AA) (ao ai ap aj : AE) (A : AEnds) (Γ : Sl) (M : Mem) : Prop := aa Γ M fun ds Γ1 M1 => match ds with
  | [d, e] => aPutI d ao ai (aPutI e ap aj A.nx) Γ1 M1
  | _ => False
section
variable {X : Cx} {a b o i p j : Expr} {to ti tp tj : TE} {ao ai ap aj : AE} {K : PySem.W.Frag} {B : Ent} {σ : L2.St} {H G : Hp} {Γ : Sl} {M : Mem}
theorem rd_putI {d : D} {v : V} {k : Sl → Mem → Prop} {Q : L2.St → Hp → Prop} (ho : RdE K ρ to ao) (hi : RdE K ρ ti ai) (ok : Ok K ρ B σ H G Γ M) (rp : Rep K G d v) (h : aPutI d ao ai k Γ M)
    (q : ∀ H' G' Γ' M', Ok K ρ B σ H' G' Γ' M' → Ex G G' → k Γ' M' → Q σ H') : gSub to ti rSetL v σ H Q := by
  refine ho B σ H G Γ M _ _ ok h fun ov H3 G3 Γ3 M3 ro k3 e3 rro h3 => ?_
  refine hi B σ H3 G3 Γ3 M3 _ _ k3 h3 fun iv H4 G4 Γ4 M4 ri k4 e4 rri h4 => ?_
  split at h4
  · rename_i n ds hd
    split at h4
    · rename_i m hm
      have rro' := rro.es e4
      obtain ⟨l, xs, rfl, hl, hx⟩ := lget_ok k4 rro' hd
      have ei : iv = .int n := by have := rri; simp only [RepR, Rep] at this; exact this
      have rp4 : Rep K G4 d v := (rp.mono e3.g).mono e4.g
      obtain ⟨Γ5, M5, k5, e5, hq⟩ := lput_ok k4 rro' hd (hx.set m rp4) h4
      exact ⟨l, xs, n, m, rfl, ei, hl, by rw [hx.length]; exact hm, q _ G4 Γ5 M5 k5 (e3.g.trans e4.g) hq⟩
    · exact h4.elim
  · exact h4.elim
theorem qs_setI2 {tr : TA} {ar : AA} {po pp pt spos : Pos} {kt k2 pt2} (ha : QA X ρ [a, b] tr ar) (ho : QE X ρ o to ao) (hi : QE X ρ i ti ai) (hp : QE X ρ p tp ap) (hj : QE X ρ j tj aj)
    (has : ∀ v, assign (.Subscript o i po) X.env v = (do
      let ov ← holding [v] (eval o X.env)
      let iv ← holding [v, ov] (eval i X.env)
      standAt po
      holding [v, ov, iv] (setItem ov iv v)
      release [v, ov, iv] []) := by intro _; rfl)
    (hbs : ∀ v, assign (.Subscript p j pp) X.env v = (do
      let ov ← holding [v] (eval p X.env)
      let iv ← holding [v, ov] (eval j X.env)
      standAt pp
      holding [v, ov, iv] (setItem ov iv v)
      release [v, ov, iv] []) := by intro _; rfl)
    (hs : swapsWithSole [.Tuple [.Subscript o i po, .Subscript p j pp] kt pt] (.Tuple [a, b] k2 pt2) spos.line X.env = pure false := by rfl) (hw : swappedStores [.Tuple [.Subscript o i po, .Subscript p j pp] kt pt] (.Tuple [a, b] k2 pt2) X.env = pure none := by rfl) (hc : X.calm = true := by rfl) (hK : X.K = K := by rfl) :
    QS X ρ (.Assign [.Tuple [.Subscript o i po, .Subscript p j pp] kt pt] (.Tuple [a, b] k2 pt2) spos) (tAsg (tTup tr) (gTup K 2 (gCons (gSub to ti rSetL) (gCons (gSub tp tj rSetL) gNil)))) (aSetI2 ar ao ai ap aj) := by
  subst hK
  refine ⟨ps_asg (pe_tup ha.pe) (pg_tup hc (pgs_cons (pg_sub ho.pe hi.pe set_list has) (pgs_cons (pg_sub hp.pe hj.pe set_list hbs) pgs_nil))) hs hw, fun B σ H G Γ M A E k h s => ?_⟩
  refine ha.rd B σ H G Γ M _ _ k h fun vs H1 G1 Γ1 M1 ds k1 e1 rl h1 => ?_
  split at h1
  · rename_i d e
    obtain ⟨v, r, rfl, rv, rl⟩ := repL_cons.mp rl
    obtain ⟨u, r, rfl, ru, rl⟩ := repL_cons.mp rl
    cases repL_nil.mp rl
    refine ⟨by show 2 ≤ sizeLine; decide, fun q hq => ?_⟩
    obtain ⟨k4, e4, _⟩ := k1.tmp (o := .tup [v, u]) hq
    refine ⟨q, [v, u], rfl, SqT.of upd_same, rfl, v, [u], rfl, ?_⟩
    refine rd_putI ho.rd hi.rd k4 rv h1 fun H5 G5 Γ5 M5 k5 g5 h5 => ?_
    refine ⟨u, [], rfl, rd_putI hp.rd hj.rd k5 (ru.mono g5) h5 fun H6 G6 Γ6 M6 k6 _ h6 => ?_⟩
    exact ⟨rfl, s.nx σ H6 G6 Γ6 M6 k6 h6⟩
  · exact h1.elim
end
def aIAny (aa : AE) (Γ : Sl) (M : Mem) (Q : List D → Sl → Mem → Prop) : Prop := aISeq aa Γ M Q ∨ aITup aa Γ M Q
def e_aIAny := @aIAny.eq_def
def aIsB (f : Bool → Bool) (x : Ret) (y : Ret) (Γ : Sl) (M : Mem) (Q : Ret → Sl → Mem → Prop) : Prop := match x, y with
  | .dat (.bl a), .dat (.bl b) => Q (.dat (.bl (f (decide (a = b))))) Γ M
  | _, _ => False
def e_aIsB := @aIsB.eq_def
def e_aPutI := @aPutI.eq_def
def e_aSetI2 := @aSetI2.eq_def
end Gw

namespace Gw
open PySem L2 PyProof.Rows
open PySem.W (EachIs AllAlike Sortable dataLe)
open L2.DX (itemsO itemsO_ok)
variable {ρ : Ent}
section
variable {X : Cx} {e : Expr} {td : TE} {apos cpos : Pos} {K : PySem.W.Frag} {B : Ent} {σ : L2.St} {H G H1 G1 : Hp} {Γ Γ1 : Sl} {M M1 : Mem} {pins : List (Addr × Obj)} {s : Shared}
def tRItems (td : TE) : TE := fun σ H Q => td σ H fun x H1 => ∃ a L, x = .ref a ∧ Rd H1 a (DcO a L) ∧ ∀ p, H1 p = none → Q (.ref p) (upd H1 p (itemsO p a))
theorem pe_ritems (he : PE X e td) (hbase : attributeBase e "items" X.env (eval e X.env) = eval e X.env := by rfl) (hline : (apos.endLine == cpos.line) = true := by rfl) :
    PE X (.Call (.Attribute e "items" apos) [] [] cpos) (tRItems td) := ⟨fun pins s σ H Q I h => by
  refine wpAny_Call_method (T := "dict") (id := "dict.items") hbase rfl hline F.plainAttrs_dict F.slot_dict_items F.type_dict_items (thn (he.run pins s σ H _ I h) fun u s1 ⟨x, H1, I1, rx, d, L, ex, hd, q⟩ => ?_)
  subst ex
  cases rx
  have t : DcT s1.heap d L := (show ObjOk X.prog X.w H1 s1.heap d (DcO d L) from hd.ok I1.hok).1
  obtain ⟨xs, pr, ob, es, ep, hg, hx, hdt, hes, nd⟩ := t.ex
  have raw : DT.Raw s1.heap d es ep := ⟨ob, hg, hx, hdt⟩
  refine ⟨raw.typeIs, fun b e => by cases e; exact ⟨ob, hg, hx.2.1⟩, ?_⟩
  have hf : H1 s1.heap.objs.size = none := I1.hok.fresh (Nat.le_refl _)
  have fin : EP X pins σ Q (.ref s1.heap.objs.size) { s1 with heap := s1.heap.push { cls := .type "dict_items", data := .fields #[.ref d] } } :=
    ⟨.ref s1.heap.objs.size, upd H1 s1.heap.objs.size (itemsO s1.heap.objs.size d), I1.laid (t' := s1.toks) (fun b u z => Heap.get?_push_of_some _ z) (Nat.le_refl _) (itemsO_ok (Heap.get?_push_size _ rfl)), rfl, q _ hf⟩
  show wpAny _ _ (callWith cpos (.builtin "dict.items") [.ref d] [] []) _ X.xe s1
  exact method_meetsIn F.slot_dict_items F.entry_dict_items rfl (PySem.evalArgs_none ⟨rfl, raw.typeIs, F.args_dict_items_1 _, _, DT.meetsItems t.sys, ⟨raw, fin⟩⟩)⟩
def pairE (z : RE × D) : D := .tup [rowD z.1.1, z.2]
mutual
theorem reads_lt {h : Heap} : ∀ {v : Value} {d : PyData} {as : List Addr}, Reads h v d as → ∀ a ∈ as, a < h.objs.size
  | _, _, _, .none, a, ha => by cases ha
  | _, _, _, .bool _, a, ha => by cases ha
  | _, _, _, .int _ _, a, ha => by cases ha
  | _, _, _, .str _ _, a, ha => by cases ha
  | _, _, _, .list e _ _ r, a, ha => by
    rcases List.mem_cons.mp ha with rfl | ha
    · exact Heap.lt_size e
    · exact readsAll_lt r a ha
  | _, _, _, .tuple _ _ _ r, a, ha => readsAll_lt r a ha
  | _, _, _, .dict e _ _ r1 r2, a, ha => by
    rcases List.mem_append.mp ha with ha | ha
    · rcases List.mem_cons.mp ha with rfl | ha
      · exact Heap.lt_size e
      · exact readsAll_lt r1 a ha
    · exact readsAll_lt r2 a ha
theorem readsAll_lt {h : Heap} : ∀ {vs : List Value} {ds : List PyData} {as : List Addr}, ReadsAll h vs ds as → ∀ a ∈ as, a < h.objs.size
  | _, _, _, .nil, a, ha => by cases ha
  | _, _, _, .cons r1 r2, a, ha => by
    rcases List.mem_append.mp ha with ha | ha
    · exact reads_lt r1 a ha
    · exact readsAll_lt r2 a ha
end
theorem each_of {α : Type} {R : Value → α → Prop} {f : α → Value} : ∀ {xs : List α}, (∀ x ∈ xs, R (f x) x) → EachIs R (xs.map f) xs
  | [], _ => .nil
  | x :: xs, h => .cons (h x List.mem_cons_self) (each_of fun y hy => h y (List.mem_cons_of_mem _ hy))
theorem each_eq {α : Type} {f : α → Value} : ∀ {us : List Value} {xs : List α}, EachIs (fun v x => v = f x) us xs → us = xs.map f
  | _, _, .nil => rfl
  | _, _, .cons h r => by rw [h, each_eq r]; rfl
def rSortIt (K : PySem.W.Frag) : List V → Hp → VK → Prop := fun vs H Q => ∃ (p a : Addr) (zs : List (RE × D)), vs = [.ref p] ∧ H p = some (itemsO p a) ∧ Rd H a (DcO a (zs.map (·.1))) ∧ KeyR K H (zs.map (·.1)) ∧ (∀ z ∈ zs, Rep K H z.2 z.1.2.2 ∧ plain z.2 = true ∧ dep z.2 ≤ 60) ∧
  AllAlike (zs.map fun z => toPy (pairE z)) ∧ Sortable (zs.map fun z => toPy (pairE z)) ∧
  ∀ (ps : List (Addr × RE × D)) (l : Addr) (H2 : Hp), (ps.map (·.2)).Perm zs → (ps.map fun x => pairE x.2) = sortD (zs.map pairE) → Ex H H2 → (∀ x ∈ ps, H x.1 = none ∧ ∃ o : Obj, o.dict = none ∧ H2 x.1 = some (.frz o (.tup [.ref x.2.1.2.1, x.2.1.2.2]))) → H2 l = none → Q (.ref l) (upd H2 l (.lst (ps.map fun x => V.ref x.1)))
theorem cr_sortIt (hc : X.calm = true) (hu : X.A.units + 100 < cLine) : CallR X (.builtin "sorted") (rSortIt X.K) := by
  intro pins s σ H vs us Q I r h
  obtain ⟨p, a, zs, rfl, hp, d, hk, hv, hal, hso, q⟩ := h
  obtain rfl := Vals.ref1 r
  have view : s.heap.IsItemsView p a := (show ObjOk X.prog X.w H s.heap p (itemsO p a) from I.hok p _ hp).1
  have t : DcT s.heap a (zs.map (·.1)) := (show ObjOk X.prog X.w H s.heap a (DcO a _) from d.ok I.hok).1
  obtain ⟨xs, pr, o, es, ep, ho, hx, hd, he, nd⟩ := t.ex
  have sz : es.size = zs.length := by rw [← Array.length_toList, he, List.length_map, ← Paired.length pr, List.length_map]
  have zl : zs.length ≤ sizeLine := by have := t.few; rw [List.length_map] at this; exact this
  refine DT.sortedI (es := es) (ep := ep) (I.ok.hd hc) view ⟨o, ho, hx, hd⟩ (by rw [sz]; exact zl) fun h' tk as hk' hlt hl hG => ?_
  have lak : as.length = zs.length := by omega
  have nda : as.Nodup := List.Pairwise.imp (fun h => Nat.ne_of_lt h) hG.rise
  have pr' : ∀ (j : Nat) (b : Addr), as[j]? = some b → ∃ (z : RE × D) (x : REv), zs[j]? = some z ∧ ReIs z.1 x ∧ h'.get? b = some { cls := .type "tuple", data := .seq #[.ref x.2.1, x.2.2] } := by
    intro j b hj
    obtain ⟨en, he', hg⟩ := hG.pairs j b hj
    rw [← Array.getElem?_toList, he, List.getElem?_map] at he'
    obtain ⟨x, hx', rfl⟩ := Option.map_eq_some_iff.mp he'
    have jz : j < zs.length := by rw [← lak]; exact (List.getElem?_eq_some_iff.mp hj).1
    obtain ⟨y, hy, ry⟩ := paired_at pr (j := j) (p := zs[j].1) (by rw [List.getElem?_map, List.getElem?_eq_getElem jz]; rfl)
    rw [hx'] at hy
    cases hy
    exact ⟨zs[j], x, List.getElem?_eq_getElem jz, ry, hg⟩
  have I1 : Inv X pins σ H { s with heap := h', toks := tk } := I.kept hk'
  obtain ⟨H2, I2, g2, q2⟩ := take_all I (fun b u => ∃ (j : Nat) (z : RE × D) (o : Obj), as[j]? = some b ∧ zs[j]? = some z ∧ o.dict = none ∧ u = .frz o (.tup [.ref z.1.2.1, z.1.2.2])) as H I1 nda fun b hb => by
    obtain ⟨j, hj⟩ := List.mem_iff_getElem?.mp hb
    obtain ⟨z, x, hz, rx, hg⟩ := pr' j b hj
    have hbl : s.heap.objs.size ≤ b := Nat.le_of_lt (hG.above b hb)
    exact ⟨hbl, I.hok.fresh hbl, _, ⟨j, z, _, hj, hz, rfl, rfl⟩, fun H3 => ⟨hg, by show 2 ≤ sizeLine; decide, [.ref x.2.1, x.2.2], .cons (by rw [rx.2.1]; rfl) (.cons rx.2.2 .nil), ⟨_, hg, rfl, _, rfl⟩⟩⟩
  have at_ : ∀ (j : Nat) (b : Addr) (z : RE × D), as[j]? = some b → zs[j]? = some z → H b = none ∧ ∃ o : Obj, o.dict = none ∧ H2 b = some (.frz o (.tup [.ref z.1.2.1, z.1.2.2])) := fun j b z hj hz => by
    obtain ⟨_, ⟨i, z', o, hi, hz', ho, rfl⟩, hH⟩ := q2 b (List.mem_of_getElem? hj)
    have eij : i = j := (List.getElem?_inj (List.getElem?_eq_some_iff.mp hi).1 nda).mp (hi.trans hj.symm)
    subst eij
    rw [hz] at hz'
    cases hz'
    exact ⟨I.hok.fresh (Nat.le_of_lt (hG.above b (List.mem_of_getElem? hj))), o, ho, hH⟩
  have mem_ : ∀ y ∈ as.zip zs, ∃ j : Nat, as[j]? = some y.1 ∧ zs[j]? = some y.2 := fun y hy => by
    obtain ⟨j, hj⟩ := List.mem_iff_getElem?.mp hy
    exact ⟨j, List.getElem?_zip_eq_some.mp hj⟩
  have rp : ∀ y ∈ as.zip zs, Rep X.K H2 (pairE y.2) (.ref y.1) := fun y hy => by
    obtain ⟨j, hj, hz⟩ := mem_ y hy
    have hzm := List.mem_of_getElem? hz
    have ks := hk y.2.1 (List.mem_map.mpr ⟨y.2, hzm, rfl⟩)
    obtain ⟨_, o, ho, hH⟩ := at_ j _ _ hj hz
    exact rep_tupN.mpr ⟨y.1, _, rfl, ⟨.inl (.inr ⟨o, hH⟩), .inl ⟨o, _, hH, ho⟩⟩, repL_cons.mpr ⟨_, _, rfl, rep_tupN.mpr ⟨y.2.1.2.1, _, rfl, ex_n g2 ks, repL_map_int.mpr rfl⟩, repL_cons.mpr ⟨_, _, rfl, (hv y.2 hzm).1.mono g2, repL_nil.mpr rfl⟩⟩⟩
  have hob : (h'.push { cls := .type "list", data := .seq (as.map Value.ref).toArray }).get? h'.objs.size = some (seqObj "list" (as.map Value.ref).toArray 0) := Heap.get?_push_size _ rfl
  have zm : (as.zip zs).map (·.1) = as := List.map_fst_zip (by omega)
  have zm2 : (as.zip zs).map (·.2) = zs := List.map_snd_zip (by omega)
  have em : (as.zip zs).map (fun y => toPy (pairE y.2)) = zs.map fun z => toPy (pairE z) := by
    rw [show (fun y : Addr × RE × D => toPy (pairE y.2)) = (fun z => toPy (pairE z)) ∘ Prod.snd from rfl, ← List.map_map, zm2]
  have ev : as.map Value.ref = (as.zip zs).map fun y => Value.ref y.1 := by
    rw [show (fun y : Addr × RE × D => Value.ref y.1) = Value.ref ∘ Prod.fst from rfl, ← List.map_map, zm]
  have pl : ∀ z ∈ zs, plain (pairE z) = true := fun z hz => by
    have h1 := (hv z hz).2.1
    unfold pairE rowD
    rw [plain, plainL, plainL, plainL, plain, plainL_ints, h1]
    rfl
  have dpt : ∀ z ∈ zs, (toPy (pairE z)).depth ≤ 64 := fun z hz => by
    have h1 := (hv z hz).2.2
    have h2 := dep_ints z.1.1
    rw [dep_py]
    unfold pairE rowD
    rw [dep, depL, depL, depL, dep, h2]
    omega
  have kb : ∀ b u, h'.get? b = some u → (h'.push { cls := .type "list", data := .seq (as.map Value.ref).toArray }).get? b = some u := fun b u e => Heap.get?_push_of_some _ e
  have e1 : EachIs (fun v (y : Addr × RE × D) => v = Value.ref y.1) (as.map Value.ref) (as.zip zs) := by
    rw [ev]; exact each_of fun _ _ => rfl
  have e2 : EachIs (fun v (y : Addr × RE × D) => ∃ bs, Reads (h'.push { cls := .type "list", data := .seq (as.map Value.ref).toArray }) v (toPy (pairE y.2)) bs ∧ h'.objs.size ∉ bs) (as.map Value.ref) (as.zip zs) := by
    have gen : ∀ (P : Value → Addr × RE × D → Prop), (∀ y ∈ as.zip zs, P (.ref y.1) y) → EachIs P (as.map Value.ref) (as.zip zs) := fun P hP => by rw [ev]; exact each_of hP
    refine gen _ fun y hy => ?_
    obtain ⟨j, hj, hz⟩ := mem_ y hy
    obtain ⟨bs, rb⟩ := Dp.reads I2 _ _ _ ((rp y hy).dp (pl y.2 (List.mem_of_getElem? hz))) (rfl : RelV (V.ref y.1) (.ref y.1))
    exact ⟨bs, Reads.keeps kb rb, fun z => Nat.lt_irrefl _ (reads_lt rb _ z)⟩
  refine PySem.W.list_sort_data (s := { s with heap := h'.push { cls := .type "list", data := .seq (as.map Value.ref).toArray }, toks := tk }) (enc := fun y : Addr × RE × D => toPy (pairE y.2)) hob e1 e2 (by rw [em]; exact hal) (by rw [em]; exact hso) (by rw [List.length_zip]; omega) (fun y hy => ?_) fun out lo eo => ?_
  · obtain ⟨j, hj, hz⟩ := mem_ y hy
    have := dpt y.2 (List.mem_of_getElem? hz)
    show X.A.units + 1 + 1 + _ < cLine
    omega
  · have eout := each_eq eo
    have pm := List.mergeSort_perm (as.zip zs) (dataLe false fun y : Addr × RE × D => toPy (pairE y.2))
    generalize hps : (as.zip zs).mergeSort (dataLe false fun y : Addr × RE × D => toPy (pairE y.2)) = ps at eout pm
    have es' : (ps.map fun x => pairE x.2) = sortD (zs.map pairE) := by
      rw [← hps, List.map_mergeSort (s := leD) (fun a _ b _ => by rw [PySem.W.dataLe_eq]; rfl)]
      rw [show (fun y : Addr × RE × D => pairE y.2) = pairE ∘ Prod.snd from rfl, ← List.map_map, zm2]
      rfl
    obtain ⟨c, hc'⟩ := sortedHeap_at (vs := as.map Value.ref) (out := out.toArray) hob
    have kk : ∀ b u, h'.get? b = some u → (sortedHeap (h'.push { cls := .type "list", data := .seq (as.map Value.ref).toArray }) h'.objs.size (as.map Value.ref) out.toArray).get? b = some u := fun b u e => by
      have lt := Heap.lt_size e
      rw [sortedHeap_old (Nat.ne_of_lt lt) (by rw [size_push']; exact Nat.lt_succ_of_lt lt)]
      exact kb b u e
    have hn2 : H2 h'.objs.size = none := I2.hok.fresh (Nat.le_refl _)
    have hz : (ps.map fun x => V.ref x.1).length ≤ sizeLine := by rw [List.length_map, pm.length_eq, List.length_zip]; omega
    have vl : Vals (ps.map fun x => V.ref x.1) out := by
      rw [eout]
      clear hps es' pm eout hz
      induction ps with
      | nil => exact .nil
      | cons x ps ih => exact .cons rfl ih
    exact ⟨.ref h'.objs.size, _, I2.laid (t' := tk) (o := .lst (ps.map fun x => V.ref x.1)) kk (Nat.le_refl _) ⟨hz, out, c, vl, hc'⟩, rfl, q ps _ H2 (by have := pm.map (·.2); rw [zm2] at this; exact this) es' g2 (fun x hx => by
      obtain ⟨j, hj, hz⟩ := mem_ x (pm.mem_iff.mp hx)
      exact at_ j _ _ hj hz) hn2⟩
def aSortIt (aa : AE) (Γ : Sl) (M : Mem) (Q : Ret → Sl → Mem → Prop) : Prop := aa Γ M fun r Γ1 M1 => match dcTOf r Γ1 M1 with
  | some t => (∀ d ∈ t.2, plain d = true ∧ dep d ≤ 60) ∧ AllAlike ((itemsT t.1 t.2).map toPy) ∧ Sortable ((itemsT t.1 t.2).map toPy) ∧ Q (.tmp (.lst (sortD (itemsT t.1 t.2)))) Γ1 M1
  | none => False
theorem items_zip : ∀ {L : List RE} {ds : List D}, L.length = ds.length → itemsT (L.map (·.1)) ds = (L.zip ds).map pairE
  | [], [], _ => rfl
  | p :: L, d :: ds, h => by
    rw [List.map_cons, itemsT, List.zip_cons_cons, List.map_cons, items_zip (by simpa using h)]
    rfl
  | [], _ :: _, h => by simp at h
  | _ :: _, [], h => by simp at h
theorem repL_zip2 : ∀ {L : List RE} {ds : List D}, RepL K G ds (L.map (·.2.2)) → ∀ z ∈ L.zip ds, Rep K G z.2 z.1.2.2
  | [], _, _, z, hz => by simp at hz
  | _ :: _, [], _, z, hz => by simp at hz
  | p :: L, d :: ds, h, z, hz => by
    obtain ⟨x, r, e, h1, h2⟩ := repL_cons.mp h
    simp only [List.map_cons, List.cons.injEq] at e
    obtain ⟨rfl, rfl⟩ := e
    rw [List.zip_cons_cons, List.mem_cons] at hz
    rcases hz with rfl | hz
    · exact h1
    · exact repL_zip2 h2 z hz
theorem repL_of {α : Type} {f : α → D} {g : α → V} : ∀ {xs : List α}, (∀ x ∈ xs, Rep K G (f x) (g x)) → RepL K G (xs.map f) (xs.map g)
  | [], _ => repL_nil.mpr rfl
  | x :: xs, h => repL_cons.mpr ⟨_, _, rfl, h x List.mem_cons_self, repL_of fun y hy => h y (List.mem_cons_of_mem _ hy)⟩
theorem q_sortIt {p pos : Pos} {aa : AE} (hu : X.A.units + 100 < cLine) (hm : X.mg "sorted" = none) (ha : QE X ρ e td aa) (hc : X.calm = true := by rfl) (hbase : attributeBase e "items" X.env (eval e X.env) = eval e X.env := by rfl) (hline : (apos.endLine == cpos.line) = true := by rfl) (hg : Gl X "sorted" := by rfl)
    (na : starEach [.Call (.Attribute e "items" apos) [] [] cpos] X.env = (false, eval (.Call (.Attribute e "items" apos) [] [] cpos) X.env) :: starEach [] X.env := by rfl) (hpl : (backTo pos (starEach [] X.env)).any (·.1) = false := by rfl) (hK : X.K = K := by rfl) :
    QE X ρ (.Call (.Name "sorted" p) [.Call (.Attribute e "items" apos) [] [] cpos] [] pos) (tCB (rSortIt K) (tCons (tRItems td) tNil)) (aSortIt aa) := by
  subst hK
  refine ⟨pe_callB (cr_sortIt hc hu) hg hm (by decide +kernel) (pa_cons (pe_ritems ha.pe hbase hline) pa_nil na) (by decide) (by decide) na hpl, ?_⟩
  intro B σ H G Γ M Q R k h q
  refine ha.rd B σ H G Γ M _ _ k h fun v H1 G1 Γ1 M1 r k1 e1 rr h1 => ?_
  split at h1
  · rename_i t ht
    obtain ⟨hp, hal, hso, h1⟩ := h1
    obtain ⟨l, L, rfl, s⟩ := dcTOf_ok k1 rr ht
    have ll : L.length = t.2.length := by rw [← s.val.length, List.length_map]
    refine ⟨l, L, rfl, s.rd, fun p hp' => ?_⟩
    obtain ⟨k2, e2, _⟩ := k1.tmp (o := itemsO p l) hp'
    have zm : (L.zip t.2).map (·.1) = L := List.map_fst_zip (by omega)
    have it := items_zip ll
    rw [s.ks] at it
    rw [it] at hal hso h1
    rw [List.map_map] at hal hso
    have g1 : Ex G1 (upd H1 p (itemsO p l)) := k2.ex
    refine ⟨p, l, L.zip t.2, rfl, upd_same, by rw [zm]; exact ex_rd (Ex.new hp') s.rd, by rw [zm]; exact s.key.mono g1, fun z hz => ⟨(repL_zip2 s.val z hz).mono g1, hp z.2 (List.of_mem_zip hz).2⟩, hal, hso, fun ps l' H2 pm es g2 at_ hn => ?_⟩
    obtain ⟨k3, e3⟩ := k2.grow (H' := H2) (T := ps.map (·.1)) g2 fun b hb => by
      obtain ⟨x, hx, rfl⟩ := List.mem_map.mp hb
      exact (at_ x hx).1
    refine (q.es ((e1.trans e2).trans e3)).newL k3 ?_ h1 l' hn
    rw [← es]
    refine repL_of fun x hx => ?_
    have hz := pm.mem_iff.mp (List.mem_map.mpr ⟨x, hx, rfl⟩)
    obtain ⟨_, o, ho, hx2⟩ := at_ x hx
    have hG : (fun b => if b ∈ ps.map (·.1) then H2 b else G1 b) x.1 = some (.frz o (.tup [.ref x.2.1.2.1, x.2.1.2.2])) := by
      show (if x.1 ∈ ps.map (·.1) then H2 x.1 else G1 x.1) = _
      rw [if_pos (List.mem_map.mpr ⟨x, hx, rfl⟩)]
      exact hx2
    have kx := s.key x.2.1 (List.of_mem_zip hz).1
    exact rep_tupN.mpr ⟨x.1, _, rfl, ⟨.inl (.inr ⟨o, hG⟩), .inl ⟨o, _, hG, ho⟩⟩, repL_cons.mpr ⟨_, _, rfl, rep_tupN.mpr ⟨x.2.1.2.1, _, rfl, ex_n (e2.g.trans e3.g) kx, repL_map_int.mpr rfl⟩, repL_cons.mpr ⟨_, _, rfl, (repL_zip2 s.val x.2 hz).mono (e2.g.trans e3.g), repL_nil.mpr rfl⟩⟩⟩
  · exact h1.elim
def aListRg (aa : AE) (Γ : Sl) (M : Mem) (Q : Ret → Sl → Mem → Prop) : Prop := aa Γ M fun r Γ1 M1 => match r with
  | .dat (.int n) => (-(2 ^ 62) ≤ n ∧ n ≤ 16777216) ∧ Q (.tmp (.lst (rngD 0 n.toNat))) Γ1 M1
  | _ => False
end
def e_aListRg := @aListRg.eq_def
def e_aSortIt := @aSortIt.eq_def
end Gw

namespace Gw
open PySem L2
theorem forA {α : Type} (enc : α → D) {g : AG} {body : AS} {A : AEnds} (I : List α → List α → Sl → Mem → Prop) (hn : ∀ dn Γ M, I dn [] Γ M → A.nx Γ M)
    (hc : ∀ dn x ls Γ M (K : Sl → Mem → Prop), I dn (x :: ls) Γ M → (∀ Γ' M', I (dn ++ [x]) ls Γ' M' → K Γ' M') → g (enc x) Γ fun Γ1 => body { A with nx := K, ct := K, bk := A.nx } Γ1 M) :
    ∀ (ls dn : List α) {Γ : Sl} {M : Mem}, I dn ls Γ M → aForL g body (ls.map enc) A Γ M
  | [], dn, Γ, M, h => hn dn Γ M h
  | x :: ls, dn, Γ, M, h => hc dn x ls Γ M _ h fun Γ' M' h' => forA enc I hn hc ls (dn ++ [x]) h'
theorem lcMapA {α : Type} (enc f : α → D) {g : AG} {ae : AE} {vs : List Nat} {k : List D → Sl → Mem → Prop} {Γ : Sl} {M : Mem} : ∀ (xs : List α) (acc : List D), acc.length + xs.length ≤ 16777216 →
    (∀ x ∈ xs, ∀ P : D → Sl → Mem → Prop, P (f x) Γ M → g (enc x) Γ fun Γ1 => ae Γ1 M fun r Γ3 M3 => frz r Γ3 fun y Γ4 => P y (wipeS Γ4 vs) M3) → k (acc ++ xs.map f) Γ M → aLcL g aYes ae vs k (xs.map enc) acc Γ M
  | [], acc, _, _, h => by simpa [aLcL] using h
  | x :: xs, acc, hl, hs, h => by
    rw [List.map_cons]
    unfold aLcL
    simp only [aYes, if_true]
    refine hs x List.mem_cons_self (fun y Γ' M' => acc.length < sizeLine ∧ aLcL g aYes ae vs k (xs.map enc) (acc ++ [y]) Γ' M') ⟨by rw [size_val]; simp at hl; omega, ?_⟩
    refine lcMapA enc f xs (acc ++ [f x]) (by simp at hl ⊢; omega) (fun e he => hs e (List.mem_cons_of_mem _ he)) ?_
    simpa using h
theorem lcFiltA {α : Type} (enc : α → D) (p : α → Bool) (f : α → D) {g : AG} {tt : AT} {ae : AE} {vs : List Nat} {k : List D → Sl → Mem → Prop} {Γ : Sl} {M : Mem} : ∀ (xs : List α) (acc : List D), acc.length + xs.length ≤ 16777216 →
    (∀ x ∈ xs, ∀ (P : D → Sl → Mem → Prop) (N : Sl → Mem → Prop), (p x = true → P (f x) Γ M) → (p x = false → N Γ M) → g (enc x) Γ fun Γ1 => tt Γ1 M fun b Γ2 M2 => if b = true then ae Γ2 M2 fun r Γ3 M3 => frz r Γ3 fun y Γ4 => P y (wipeS Γ4 vs) M3 else N (wipeS Γ2 vs) M2) →
    k (acc ++ (xs.filter p).map f) Γ M → aLcL g tt ae vs k (xs.map enc) acc Γ M
  | [], acc, _, _, h => by simpa [aLcL] using h
  | x :: xs, acc, hl, hs, h => by
    rw [List.map_cons]
    unfold aLcL
    refine hs x List.mem_cons_self (fun y Γ' M' => acc.length < sizeLine ∧ aLcL g tt ae vs k (xs.map enc) (acc ++ [y]) Γ' M') (fun Γ' M' => aLcL g tt ae vs k (xs.map enc) acc Γ' M') (fun e => ⟨by rw [size_val]; simp at hl; omega, ?_⟩) (fun e => ?_)
    · refine lcFiltA enc p f xs (acc ++ [f x]) (by simp at hl ⊢; omega) (fun e he => hs e (List.mem_cons_of_mem _ he)) ?_
      rw [List.filter_cons, if_pos e] at h
      simpa using h
    · refine lcFiltA enc p f xs acc (by simp at hl ⊢; omega) (fun e he => hs e (List.mem_cons_of_mem _ he)) ?_
      rw [List.filter_cons, if_neg (by rw [e]; decide)] at h
      exact h
theorem bls_fun {α : Type} {f : α → Bool} (xs : List α) : blsOf (xs.map fun x => .bl (f x)) = some (xs.map f) := by
  rw [show (xs.map fun x => D.bl (f x)) = (xs.map f).map D.bl by rw [List.map_map]; rfl, blsOf_map]
/-! ### the order of data -/
open PySem.W PyProof.Rows in
theorem lt_ints : ∀ r q : List Int, PyProof.Rows.lexLt itemOrd (keyToksAll (toPyL (r.map .int))) (keyToksAll (toPyL (q.map .int))) = HT.lexLt r q
  | [], [] => lex_irrefl _
  | [], y :: q => by
    have : rowLt (([] : List Int).map PyData.int) ((y :: q).map PyData.int) = decide (([] : List Int) < y :: q) := dataLt_ints [] (y :: q)
    simp only [List.map_cons, List.map_nil, toPyL, toPy]
    rw [toPyL_ints]
    refine Eq.trans this ?_
    simp [HT.lexLt]
  | x :: r, [] => by
    have : rowLt ((x :: r).map PyData.int) (([] : List Int).map PyData.int) = decide ((x :: r : List Int) < []) := dataLt_ints (x :: r) []
    simp only [List.map_cons, List.map_nil, toPyL, toPy]
    rw [toPyL_ints]
    refine Eq.trans this ?_
    simp [HT.lexLt]
  | x :: r, y :: q => by
    have ih := lt_ints r q
    simp only [List.map_cons, toPyL, toPy]
    rw [dataLt_cons (by simp [alike]), ih, dataLt_int, HT.lexLt_cons]
    simp only [PyData.eqv, beq_iff_eq]
open PySem.W PyProof.Rows in
theorem leD_trans (a b c : D) (h1 : leD a b = true) (h2 : leD b c = true) : leD a c = true := by
  unfold leD dataLt at *
  simp only [Bool.not_eq_true'] at *
  cases e : PyProof.Rows.lexLt itemOrd (keyToks (toPy c)) (keyToks (toPy a)) with
  | false => rfl
  | true =>
    rcases lex_negTrans (O := itemOrd) _ (keyToks (toPy b)) _ e with h | h
    · rw [h] at h2; cases h2
    · rw [h] at h1; cases h1
open PySem.W PyProof.Rows in
theorem leD_total (a b : D) : (leD a b || leD b a) = true := by
  unfold leD dataLt
  cases e1 : PyProof.Rows.lexLt itemOrd (keyToks (toPy b)) (keyToks (toPy a)) with
  | false => rfl
  | true =>
    cases e2 : PyProof.Rows.lexLt itemOrd (keyToks (toPy a)) (keyToks (toPy b)) with
    | false => rfl
    | true =>
      have := lex_trans (O := itemOrd) _ _ _ e1 e2
      rw [lex_irrefl] at this
      cases this
theorem lex_conn : ∀ {r q : List Int}, HT.lexLt r q = false → HT.lexLt q r = false → r = q
  | [], [], _, _ => rfl
  | [], _ :: _, h, _ => by cases h
  | _ :: _, [], _, h => by cases h
  | x :: r, y :: q, h, h' => by
    rw [HT.lexLt_cons] at h h'
    by_cases e : x = y
    · subst e
      rw [if_pos rfl] at h h'
      rw [lex_conn h h']
    · rw [if_neg e] at h
      rw [if_neg (fun z => e z.symm)] at h'
      have := of_decide_eq_false h
      have := of_decide_eq_false h'
      omega
end Gw

namespace Gw
open PySem L2
variable {ρ : Ent}
def keyPy : L2.Key → PyData
  | .inl i => .int i
  | .inr x => .str x
mutual
def toPyN : D → PyData
  | .non => .none
  | .bl b => .bool b
  | .int i => .int i
  | .str x => .str x
  | .tup ds => .tuple (toPyNL ds)
  | .lst ds => .list (toPyNL ds)
  | .scr ds => .list (toPyNL ds)
  | .dct ks ds => .dict ((ks.map keyPy).zip (toPyNL ds))
  | .ref _ => .none
  | .exc _ _ _ => .none
  | .dcT _ _ => .none
  | .dcN _ _ => .none
  | .clo _ _ => .none
def toPyNL : List D → List PyData
  | [] => []
  | d :: ds => toPyN d :: toPyNL ds
end
mutual
def plainN : D → Bool
  | .tup ds => plainNL ds
  | .lst ds => plainNL ds
  | .scr ds => plainNL ds
  | .dct _ ds => plainNL ds
  | .ref _ => false
  | .exc _ _ _ => false
  | .dcT _ _ => false
  | .dcN _ _ => false
  | .clo _ _ => false
  | .non => true
  | .bl _ => true
  | .int _ => true
  | .str _ => true
def plainNL : List D → Bool
  | [] => true
  | d :: ds => plainN d && plainNL ds
end
theorem toPyNL_len : ∀ ds : List D, (toPyNL ds).length = ds.length
  | [] => rfl
  | d :: ds => by rw [toPyNL, List.length_cons, toPyNL_len ds]; rfl
def RKs (P : Program) (w : World) (h : Heap) (u : Value) (d : PyData) : Prop := (∃ as, Reads h u d as) ∧ ∃ bs, ReadAtMost h d.depth bs ∧ ReprK P w bs h d.depth u d.shown
def RKsL (P : Program) (w : World) (h : Heap) (us : List Value) (ds : List PyData) : Prop := (∃ as, ReadsAll h us ds as) ∧ ∃ bs, ReadAtMost h (PyData.depthAll ds) bs ∧ ReprAllK P w bs h (PyData.depthAll ds) us (PyData.shownAll ds)
section
variable {P : Program} {w : World} {h : Heap}
theorem RKsL.nil : RKsL P w h [] [] := ⟨⟨[], .nil⟩, [], (fun _ z => nomatch z), by simp only [PyData.shownAll]; exact .nil⟩
theorem RKsL.cons {u : Value} {d : PyData} {us : List Value} {ds : List PyData} (a : RKs P w h u d) (b : RKsL P w h us ds) : RKsL P w h (u :: us) (d :: ds) := by
  obtain ⟨⟨as, r⟩, b1, hb1, k1⟩ := a
  obtain ⟨⟨as2, r2⟩, b2, hb2, k2⟩ := b
  refine ⟨⟨as ++ as2, .cons r r2⟩, b1 ++ b2, ?_, ?_⟩
  · simp only [PyData.depthAll]
    exact (hb1.mono (Nat.le_max_left _ _)).append (hb2.mono (Nat.le_max_right _ _))
  · simp only [PyData.depthAll, PyData.shownAll]
    exact .cons ((k1.more fun b hb => List.mem_append_left _ hb).level_le (Nat.le_max_left _ _)) (k2.more_le (fun b hb => List.mem_append_right _ hb) (Nat.le_max_right _ _))
theorem keys_pairs {knd : KeyKind P w L2.Key} (hk : ∀ k v, knd.is k v = true → keyIs k v = true) : ∀ {es : List DictEntry} {kvs : List (L2.Key × Value)}, Pairs knd es kvs → (∀ t ∈ (kvs.map (·.1)).map keyPy, t.showable = true ∧ t.shown.length ≤ sizeLine) → RKsL P w h (es.map (·.key)) ((kvs.map (·.1)).map keyPy) ∧ es.map (·.val) = kvs.map (·.2)
  | _, _, .nil, _ => ⟨RKsL.nil, rfl⟩
  | _, _, .cons (e := e) (kv := kv) (es := es) (kvs := kvs) h1 h2 r, hz => by
    obtain ⟨i1, i2⟩ := keys_pairs hk r fun t ht => hz t (by simp only [List.map_cons]; exact List.mem_cons_of_mem _ ht)
    obtain ⟨s, z⟩ := hz (keyPy kv.1) (by simp)
    refine ⟨?_, by rw [List.map_cons, List.map_cons, h2, i2]⟩
    rw [List.map_cons, List.map_cons, List.map_cons]
    refine RKsL.cons ?_ i1
    rcases keyIs_shape (hk _ _ h1) with ⟨i, t, e1, e2⟩ | ⟨x, t, e1, e2⟩
    · rw [e1, e2]
      rw [e1] at s
      refine ⟨⟨_, .int i t⟩, [], (fun _ q => nomatch q), ?_⟩
      simp only [keyPy, PyData.shown]
      exact .of_is (ReprIs.int t (by simpa [keyPy, PyData.showable] using s)) _ _ _
    · rw [e1, e2]
      rw [e1] at z
      refine ⟨⟨_, .str x t⟩, [], (fun _ q => nomatch q), ?_⟩
      simp only [keyPy, PyData.shown]
      exact .of_is (ReprIs.str x t (by simpa only [keyPy, PyData.shown] using z)) _ _ _
end
section
variable {X : Cx} {pins : List (Addr × Obj)} {σ : L2.St} {H : Hp} {s : Shared}
inductive Held (P : Program) (w : World) (h : Heap) (a : Addr) : PyData → Prop
  | lst {o : Obj} {us : List Value} {n : Nat} {ds : List PyData} (h1 : h.get? a = some o) (h2 : o.cls = .type "list") (h3 : o.data = .seq us.toArray n) (r : RKsL P w h us ds) : Held P w h a (.list ds)
  | tup {o : Obj} {us : List Value} {n : Nat} {ds : List PyData} (h1 : h.get? a = some o) (h2 : o.cls = .type "tuple") (h3 : o.data = .seq us.toArray n) (r : RKsL P w h us ds) : Held P w h a (.tuple ds)
  | dct {o : Obj} {es : Array DictEntry} {n : Nat} {kvs : List (PyData × PyData)} (h1 : h.get? a = some o) (h2 : o.cls = .type "dict") (h3 : o.data = .dict es n) (hs : (a == sysModules) = false) (r1 : RKsL P w h (es.toList.map (·.key)) (kvs.map (·.1))) (r2 : RKsL P w h (es.toList.map (·.val)) (kvs.map (·.2))) : Held P w h a (.dict kvs)
theorem Held.rk {P : Program} {w : World} {h : Heap} {a : Addr} {d : PyData} (x : Held P w h a d) : RKs P w h (.ref a) d := by
  cases x with
  | @lst o us n ds h1 h2 h3 r =>
    obtain ⟨⟨as, r⟩, bs, hb, hk⟩ := r
    have rd : Reads h (.ref a) (.list ds) (a :: as) := .list h1 h2 h3 r
    have hna : a ∉ bs := not_mem_of_deeper rd (by simp only [PyData.depth]; omega) hb
    refine ⟨⟨_, rd⟩, a :: bs, ReadAtMost.cons rd (by simp only [PyData.depth]; omega) hb, ?_⟩
    simp only [PyData.depth, PyData.shown]
    cases us with
    | nil =>
      cases r
      simp only [PyData.shownAll, listText_nil]
      exact ReprK.listEmpty h1 h2 h3
    | cons x l => exact ReprK.list h1 h2 h3 hna (by simpa using hk.length_eq) (fun i y e => hk.item i y (by simpa using e))
  | @tup o us n ds h1 h2 h3 r =>
    obtain ⟨⟨as, r⟩, bs, hb, hk⟩ := r
    have rd : Reads h (.ref a) (.tuple ds) as := .tuple h1 h2 h3 r
    have hna : a ∉ bs := not_mem_of_deeper rd (by simp only [PyData.depth]; omega) hb
    refine ⟨⟨_, rd⟩, a :: bs, ReadAtMost.cons rd (by simp only [PyData.depth]; omega) hb, ?_⟩
    simp only [PyData.depth, PyData.shown]
    exact ReprK.tuple h1 h2 h3 hna hk
  | @dct o es n kvs h1 h2 h3 hs r1 r2 =>
    obtain ⟨⟨as, r1⟩, b1, hb1, k1⟩ := r1
    obtain ⟨⟨as2, r2⟩, b2, hb2, k2⟩ := r2
    have rd : Reads h (.ref a) (.dict kvs) _ := .dict h1 h2 h3 r1 r2
    have hb : ReadAtMost h (PyData.depthKv kvs) (b1 ++ b2) := (hb1.mono (PyData.depthAll_keys_le kvs)).append (hb2.mono (PyData.depthAll_vals_le kvs))
    have hna : a ∉ b1 ++ b2 := not_mem_of_deeper rd (by simp only [PyData.depth]; omega) hb
    refine ⟨⟨_, rd⟩, a :: (b1 ++ b2), ReadAtMost.cons rd (by simp only [PyData.depth]; omega) hb, ?_⟩
    simp only [PyData.depth, PyData.shown, PyData.shownKv_eq]
    exact ReprK.dict h1 h2 h3 hs hna (ReprEntriesK.of_two es.toList _ _
      (k1.more_le (fun b hb => List.mem_append_left _ hb) (PyData.depthAll_keys_le kvs)) (k2.more_le (fun b hb => List.mem_append_right _ hb) (PyData.depthAll_vals_le kvs)))
def fits (d : PyData) : Prop := d.showable = true ∧ d.shown.length ≤ sizeLine
def fitsL (ds : List PyData) : Prop := PyData.showableAll ds = true ∧ ∀ t ∈ PyData.shownAll ds, t.length ≤ sizeLine
theorem fitsL_cons {d : PyData} {ds : List PyData} (h : fitsL (d :: ds)) : fits d ∧ fitsL ds := by
  have h1 : d.showable = true ∧ PyData.showableAll ds = true := by simpa [PyData.showableAll] using h.1
  exact ⟨⟨h1.1, h.2 _ (by simp only [PyData.shownAll]; exact List.mem_cons_self ..)⟩, h1.2, fun t ht => h.2 t (by simp only [PyData.shownAll]; exact List.mem_cons_of_mem _ ht)⟩
theorem fits_list {ds : List PyData} (h : fits (.list ds)) : fitsL ds := ⟨by simpa [PyData.showable] using h.1, fun t ht => Nat.le_trans (listText_mem_le ht) (by have := h.2; simpa only [PyData.shown] using this)⟩
theorem fits_tuple {ds : List PyData} (h : fits (.tuple ds)) : fitsL ds := ⟨by simpa [PyData.showable] using h.1, fun t ht => Nat.le_trans (tupleText_mem_le ht) (by have := h.2; simpa only [PyData.shown] using this)⟩
theorem fits_dict {kvs : List (PyData × PyData)} (h : fits (.dict kvs)) : fitsL (kvs.map (·.1)) ∧ fitsL (kvs.map (·.2)) := by
  have hz : (dictText (PyData.shownKv kvs)).length ≤ sizeLine := by have := h.2; simpa only [PyData.shown] using this
  obtain ⟨h1, h2⟩ := PyData.showableKv_split kvs (by simpa [PyData.showable] using h.1)
  exact ⟨⟨h1, fun t ht => let ⟨p, hp, hl⟩ := PyData.shownKv_key_le kvs t ht; Nat.le_trans hl (Nat.le_trans (dictText_mem_le hp) hz)⟩, ⟨h2, fun t ht => let ⟨p, hp, hl⟩ := PyData.shownKv_val_le kvs t ht; Nat.le_trans hl (Nat.le_trans (dictText_mem_le hp) hz)⟩⟩
theorem fitsL_mem : ∀ {ds : List PyData}, fitsL ds → ∀ d ∈ ds, fits d
  | d :: ds, h, e, he => by
    obtain ⟨a, b⟩ := fitsL_cons h
    rcases List.mem_cons.mp he with rfl | he
    · exact a
    · exact fitsL_mem b e he
theorem repL_unzip {K : PySem.W.Frag} {G : Hp} {vs : List V} {us : List Value} {kvs : List (L2.Key × V)} {kws : List (L2.Key × Value)} (h : KV kvs kws) : Vals (kvs.map (·.2)) (kws.map (·.2)) ∧ kvs.map (·.1) = kws.map (·.1) := by
  induction h with
  | nil => exact ⟨.nil, rfl⟩
  | cons h _ ih => exact ⟨.cons h.2 ih.1, by rw [List.map_cons, List.map_cons, h.1, ih.2]⟩
mutual
theorem held_of (I : Inv X pins σ H s) : ∀ (d : D) (v : V) (a : Addr), Rep X.K H d v → RelV v (.ref a) → plainN d = true → fits (toPyN d) → Held X.prog X.w s.heap a (toPyN d)
  | .tup ds, v, a, hr, rv, p, f => by
    obtain ⟨b, xs, rfl, h1, h2⟩ := rep_tup hr
    cases rv
    obtain ⟨its, rvs, ⟨o, ho, hc, n, hd⟩, _⟩ := I.tuple h1
    rw [toPyN] at f ⊢
    exact .tup ho hc hd (rksL_of I ds xs its h2 rvs (by rwa [plainN] at p) (fits_tuple f))
  | .lst ds, v, a, hr, rv, p, f => by
    obtain ⟨b, xs, rfl, h1, h2⟩ := rep_lst.mp hr
    cases rv
    obtain ⟨its, rvs, ⟨o, n, ho, hc, _, hd⟩, _⟩ := I.list (SqL.of h1)
    rw [toPyN] at f ⊢
    exact .lst ho hc hd (rksL_of I ds xs its h2 rvs (by rwa [plainN] at p) (fits_list f))
  | .scr ds, v, a, hr, rv, p, f => by
    obtain ⟨b, xs, rfl, h1, h2⟩ := rep_scr.mp hr
    cases rv
    obtain ⟨its, rvs, ⟨o, n, ho, hc, _, hd⟩, _⟩ := I.list h1
    rw [toPyN] at f ⊢
    exact .lst ho hc hd (rksL_of I ds xs its h2 rvs (by rwa [plainN] at p) (fits_list f))
  | .dct ks ds, v, a, hr, rv, p, f => by
    obtain ⟨b, ob, xs, rfl, h1, hl, h2⟩ := rep_dct.mp hr
    cases rv
    obtain ⟨_, _, hsys, vs, hv, o, es, ep, e1, e2, e3, _, e4, _⟩ := (show ObjOk X.prog X.w H s.heap a (.frz ob (.dK (ks.zip xs))) from I.hok a _ h1)
    have hx : xs.length = ks.length := by rw [h2.length, hl]
    obtain ⟨rvs, ek⟩ := repL_unzip (K := X.K) (G := H) (vs := []) (us := []) hv
    rw [List.map_snd_zip (by omega)] at rvs
    rw [List.map_fst_zip (by omega)] at ek
    rw [toPyN] at f ⊢
    have lz : (ks.map keyPy).length = (toPyNL ds).length := by rw [List.length_map, toPyNL_len, hl]
    obtain ⟨fk, fv⟩ := fits_dict f
    rw [List.map_fst_zip (by omega)] at fk
    rw [List.map_snd_zip (by omega)] at fv
    obtain ⟨k1, k2⟩ := keys_pairs (h := s.heap) (fun _ _ z => z) e4 fun t ht => by rw [← ek] at ht; exact fitsL_mem fk t ht
    refine .dct e1 e2.1 e3 hsys ?_ ?_
    · rw [List.map_fst_zip (by omega), ek]; exact k1
    · rw [List.map_snd_zip (by omega), k2]
      exact rksL_of I ds xs _ h2 rvs (by rwa [plainN] at p) fv
  | .ref _, _, _, _, _, p, _ => by rw [plainN] at p; cases p
  | .exc _ _ _, _, _, _, _, p, _ => by rw [plainN] at p; cases p
  | .dcT _ _, _, _, _, _, p, _ => by rw [plainN] at p; cases p
  | .dcN _ _, _, _, _, _, p, _ => by rw [plainN] at p; cases p
  | .clo _ _, _, _, _, _, p, _ => by rw [plainN] at p; cases p
  | .non, _, _, hr, rv, _, _ => by rw [Rep] at hr; subst hr; cases rv
  | .bl _, _, _, hr, rv, _, _ => by rw [Rep] at hr; subst hr; cases rv
  | .int _, _, _, hr, rv, _, _ => by rw [Rep] at hr; subst hr; obtain ⟨t, e⟩ := rv; cases e
  | .str _, _, _, hr, rv, _, _ => by rw [Rep] at hr; subst hr; obtain ⟨t, e⟩ := rv; cases e
theorem rks_of (I : Inv X pins σ H s) : ∀ (d : D) (v : V) (u : Value), Rep X.K H d v → RelV v u → plainN d = true → fits (toPyN d) → RKs X.prog X.w s.heap u (toPyN d)
  | .non, v, u, hr, rv, _, _ => by
    rw [Rep] at hr; subst hr; cases rv
    rw [toPyN]
    exact ⟨⟨_, .none⟩, [], (fun _ q => nomatch q), by simp only [PyData.shown]; exact .of_is ReprIs.none _ _ _⟩
  | .bl b, v, u, hr, rv, _, _ => by
    rw [Rep] at hr; subst hr; cases rv
    rw [toPyN]
    exact ⟨⟨_, .bool b⟩, [], (fun _ q => nomatch q), by simp only [PyData.shown]; exact .of_is (ReprIs.bool b) _ _ _⟩
  | .int i, v, u, hr, rv, _, f => by
    rw [Rep] at hr; subst hr; obtain ⟨t, rfl⟩ := rv
    rw [toPyN] at f ⊢
    exact ⟨⟨_, .int i t⟩, [], (fun _ q => nomatch q), by simp only [PyData.shown]; exact .of_is (ReprIs.int t (by have := f.1; simpa [PyData.showable] using this)) _ _ _⟩
  | .str x, v, u, hr, rv, _, f => by
    rw [Rep] at hr; subst hr; obtain ⟨t, rfl⟩ := rv
    rw [toPyN] at f ⊢
    exact ⟨⟨_, .str x t⟩, [], (fun _ q => nomatch q), by simp only [PyData.shown]; exact .of_is (ReprIs.str x t (by have := f.2; simpa only [PyData.shown] using this)) _ _ _⟩
  | .tup ds, v, u, hr, rv, p, f => by
    obtain ⟨b, xs, rfl, h1, h2⟩ := rep_tup hr
    cases rv
    exact (held_of I (.tup ds) _ b hr rfl p f).rk
  | .lst ds, v, u, hr, rv, p, f => by
    obtain ⟨b, xs, rfl, h1, h2⟩ := rep_lst.mp hr
    cases rv
    exact (held_of I (.lst ds) _ b hr rfl p f).rk
  | .scr ds, v, u, hr, rv, p, f => by
    obtain ⟨b, xs, rfl, h1, h2⟩ := rep_scr.mp hr
    cases rv
    exact (held_of I (.scr ds) _ b hr rfl p f).rk
  | .dct ks ds, v, u, hr, rv, p, f => by
    obtain ⟨b, ob, xs, rfl, h1, hl, h2⟩ := rep_dct.mp hr
    cases rv
    exact (held_of I (.dct ks ds) _ b hr rfl p f).rk
  | .ref _, _, _, _, _, p, _ => by rw [plainN] at p; cases p
  | .exc _ _ _, _, _, _, _, p, _ => by rw [plainN] at p; cases p
  | .dcT _ _, _, _, _, _, p, _ => by rw [plainN] at p; cases p
  | .dcN _ _, _, _, _, _, p, _ => by rw [plainN] at p; cases p
  | .clo _ _, _, _, _, _, p, _ => by rw [plainN] at p; cases p
theorem rksL_of (I : Inv X pins σ H s) : ∀ (ds : List D) (vs : List V) (us : List Value), RepL X.K H ds vs → Vals vs us → plainNL ds = true → fitsL (toPyNL ds) → RKsL X.prog X.w s.heap us (toPyNL ds)
  | [], vs, us, hr, rv, _, _ => by
    rw [repL_nil.mp hr] at rv; cases rv
    rw [toPyNL]; exact .nil
  | d :: ds, vs, us, hr, rv, p, f => by
    obtain ⟨x, r, rfl, h1, h2⟩ := repL_cons.mp hr
    cases rv with
    | cons r1 r2 =>
      rw [plainNL, Bool.and_eq_true] at p
      rw [toPyNL] at f ⊢
      obtain ⟨f1, f2⟩ := fitsL_cons f
      exact .cons (rks_of I d _ _ h1 r1 p.1 f1) (rksL_of I ds _ _ h2 r2 p.2 f2)
end
theorem call_top {P : Program} {w : World} {A : Around} {E : Value → Shared → Prop} {s : Shared} {a : Addr} {d : PyData} {Q : Value → Shared → Prop} (x : Held P w s.heap a d) (hz : d.shown.length ≤ sizeLine) (hg : A.guards = some []) (hu : A.units + (d.depth + 1) < cLine)
    (hQ : ∀ h' u tk, (∀ b o, s.heap.get? b = some o → h'.get? b = some o) → Q (.str d.shown u) { s with heap := h', toks := tk }) : wpAny (model P w) A (call (.builtin "repr") [.ref a]) Q E s := by
  cases x with
  | @lst o us n ds h1 h2 h3 r =>
    obtain ⟨⟨as, r⟩, bs, hb, hk⟩ := r
    have rd : Reads s.heap (.ref a) (.list ds) (a :: as) := .list h1 h2 h3 r
    have hna : a ∉ bs := not_mem_of_deeper rd (by simp only [PyData.depth]; omega) hb
    simp only [PyData.depth] at hu
    simp only [PyData.shown] at hQ hz
    refine call_repr_slot (by omega) ⟨o, h1, h2⟩ F.slot_list_repr.toG ?_
    cases us with
    | nil =>
      cases r
      simp only [PyData.shownAll, listText_nil] at hQ
      exact call_list_repr_empty ⟨o, h1, h2⟩ h1 h3 ⟨_, _, rfl, hQ s.heap _ _ fun _ _ e => e⟩
    | cons x l => exact call_list_reprK h1 h2 h3 hna (by simpa using hk.length_eq) (fun i y e => hk.item i y (by simpa using e)) hg (fun b _ => Clear.nil b) (by show A.units + 1 + _ < _; omega) (fun _ _ e => e) (fun h' u tk k => ⟨_, _, rfl, hQ h' u tk k⟩) hz
  | @tup o us n ds h1 h2 h3 r =>
    obtain ⟨⟨as, r⟩, bs, hb, hk⟩ := r
    have rd : Reads s.heap (.ref a) (.tuple ds) as := .tuple h1 h2 h3 r
    have hna : a ∉ bs := not_mem_of_deeper rd (by simp only [PyData.depth]; omega) hb
    simp only [PyData.depth] at hu
    simp only [PyData.shown] at hQ hz
    refine call_repr_slot (by omega) ⟨o, h1, h2⟩ F.slot_tuple_repr ?_
    exact call_tuple_reprK h1 h2 h3 hna hk hg (fun b _ => Clear.nil b) (by show A.units + 1 + _ < _; omega) (fun _ _ e => e) (fun h' u tk k => ⟨_, _, rfl, hQ h' u tk k⟩) hz
  | @dct o es n kvs h1 h2 h3 hs r1 r2 =>
    obtain ⟨⟨as, r1⟩, b1, hb1, k1⟩ := r1
    obtain ⟨⟨as2, r2⟩, b2, hb2, k2⟩ := r2
    have rd : Reads s.heap (.ref a) (.dict kvs) _ := .dict h1 h2 h3 r1 r2
    have hb : ReadAtMost s.heap (PyData.depthKv kvs) (b1 ++ b2) := (hb1.mono (PyData.depthAll_keys_le kvs)).append (hb2.mono (PyData.depthAll_vals_le kvs))
    have hna : a ∉ b1 ++ b2 := not_mem_of_deeper rd (by simp only [PyData.depth]; omega) hb
    simp only [PyData.depth] at hu
    simp only [PyData.shown, PyData.shownKv_eq] at hQ
    refine call_repr_slot (by omega) ⟨o, h1, h2⟩ F.slot_dict_repr ?_
    exact call_dict_reprK h1 h2 h3 hs hna (ReprEntriesK.of_two es.toList _ _
      (k1.more_le (fun b hb => List.mem_append_left _ hb) (PyData.depthAll_keys_le kvs)) (k2.more_le (fun b hb => List.mem_append_right _ hb) (PyData.depthAll_vals_le kvs))) hg (fun b _ => Clear.nil b) (by show A.units + 1 + _ < _; omega) (fun _ _ e => e) (fun h' u tk k => ⟨_, _, rfl, hQ h' u tk k⟩) (by rw [← PyData.shownKv_eq]; simpa only [PyData.shown] using hz)
def rReprN (K : PySem.W.Frag) : List V → Hp → VK → Prop := fun xs H Q => ∃ v d, xs = [v] ∧ Rep K H d v ∧ plainN d = true ∧ fits (toPyN d) ∧ (toPyN d).depth ≤ 90 ∧ Q (.str (toPyN d).shown) H
theorem call_reprN (gd : X.A.guards = some []) (hu : X.A.units + 100 < cLine) : CallR X (.builtin "repr") (rReprN X.K) := by
  intro pins s σ H xs us Q I rv h
  obtain ⟨v, d, rfl, hd, hp, hf, hdep, q⟩ := h
  obtain ⟨u, rfl, ru⟩ := rv.one
  have top : ∀ a, RelV v (.ref a) → wpAny (model X.prog X.w) X.A (call (.builtin "repr") [.ref a]) (EP X pins σ Q) X.xe s := fun a rv' =>
    call_top (held_of I d v a hd rv' hp hf) hf.2 gd (by omega) fun h' u tk hk => ⟨.str _, H, I.kept hk, ⟨_, rfl⟩, q⟩
  cases d with
  | non =>
    rw [Rep] at hd; subst hd; cases ru
    exact PySem.P.repr_of_none ⟨.str _, H, I.tok _, ⟨_, rfl⟩, q⟩
  | bl b =>
    rw [Rep] at hd; subst hd; cases ru
    exact PySem.P.repr_of_bool ⟨.str _, H, I.tok _, ⟨_, rfl⟩, q⟩
  | int i =>
    rw [Rep] at hd; subst hd; obtain ⟨t, rfl⟩ := ru
    rw [toPyN] at hf q
    exact PySem.P.repr_of_int (by have := hf.1; simpa [PyData.showable] using this) ⟨.str _, H, I.tok _, ⟨_, rfl⟩, q⟩
  | str z =>
    rw [Rep] at hd; subst hd; obtain ⟨t, rfl⟩ := ru
    rw [toPyN] at hf q
    exact PySem.P.repr_of_str ⟨.str _, H, I.tok _, ⟨_, rfl⟩, q⟩ (by have := hf.2; simpa [PyData.shown] using this)
  | tup ds =>
    obtain ⟨b, xs, rfl, _⟩ := rep_tup hd
    cases ru
    exact top b rfl
  | lst ds =>
    obtain ⟨b, xs, rfl, _⟩ := rep_lst.mp hd
    cases ru
    exact top b rfl
  | scr ds =>
    obtain ⟨b, xs, rfl, _⟩ := rep_scr.mp hd
    cases ru
    exact top b rfl
  | dct ks ds =>
    obtain ⟨b, ob, xs, rfl, _⟩ := rep_dct.mp hd
    cases ru
    exact top b rfl
  | ref _ => rw [plainN] at hp; cases hp
  | exc _ _ _ => rw [plainN] at hp; cases hp
  | dcT _ _ => rw [plainN] at hp; cases hp
  | dcN _ _ => rw [plainN] at hp; cases hp
  | clo _ _ => rw [plainN] at hp; cases hp
def shDN (d : D) : Str := (toPyN d).shown
def shOkN (d : D) : Bool := plainN d && (toPyN d).showable && decide ((toPyN d).depth ≤ 90) && decide ((toPyN d).shown.length ≤ sizeLine)
def aReprN (r : Ret) (Γ : Sl) (M : Mem) (Q : Ret → Sl → Mem → Prop) : Prop := match dOf r Γ M with
  | some d => shOkN d = true ∧ Q (.dat (.str (shDN d))) Γ M
  | none => False
theorem rd_reprN {K : PySem.W.Frag} : RdU K ρ (rReprN K) aReprN := by
  intro B σ H H1 G Γ M rx x Q R k r1 h q
  unfold aReprN at h
  split at h
  · rename_i d hd
    obtain ⟨c, h⟩ := h
    simp only [shOkN, Bool.and_eq_true, decide_eq_true_eq] at c
    exact ⟨x, d, rfl, dOf_ok k r1 hd, c.1.1.1, ⟨c.1.1.2, c.2⟩, c.1.2, q _ H G Γ M (.dat (.str _)) k .refl (by simp only [RepR, Rep]; rfl) h⟩
  · exact h.elim
theorem q_reprN {K : PySem.W.Frag} {a : Expr} {ta : TE} {aa : AE} {pos p : Pos} (gd : X.A.guards = some []) (hu : X.A.units + 100 < cLine) (hm : X.mg "repr" = none) (ha : QE X ρ a ta aa) (hg : Gl X "repr" := by rfl) (na : starEach [a] X.env = (false, eval a X.env) :: starEach [] X.env := by rfl) (hK : X.K = K := by rfl) :
    QE X ρ (.Call (.Name "repr" p) [a] [] pos) (tCB (rReprN K) (tCons ta tNil)) (aCall1 aReprN aa) := by subst hK; exact q_callB1 (call_reprN gd hu) rd_reprN hm ha hg (na := na)
theorem aReprN_w {x : Ret} {Γ : Sl} {M : Mem} {Q : Ret → Sl → Mem → Prop} : aReprN x Γ M Q = hold (aReprN x Γ M) Q ⟨⟩ := by simp only [hold]
mutual
def depN : D → Nat
  | .tup ds => depNL ds + 1
  | .lst ds => depNL ds + 1
  | .scr ds => depNL ds + 1
  | .dct _ ds => depNL ds + 1
  | .int _ => 0
  | .ref _ => 0
  | .exc _ _ _ => 0
  | .dcT _ _ => 0
  | .dcN _ _ => 0
  | .clo _ _ => 0
  | .non => 0
  | .bl _ => 0
  | .str _ => 0
def depNL : List D → Nat
  | [] => 0
  | d :: ds => max (depN d) (depNL ds)
end
theorem depKv_le : ∀ (ks : List L2.Key) (ds : List PyData), PyData.depthKv ((ks.map keyPy).zip ds) ≤ PyData.depthAll ds
  | [], ds => by simp [PyData.depthKv]
  | k :: ks, [] => by simp [PyData.depthKv]
  | k :: ks, d :: ds => by
    have ih := depKv_le ks ds
    have hk : (keyPy k).depth = 0 := by cases k <;> simp [keyPy, PyData.depth]
    rw [List.map_cons, List.zip_cons_cons, PyData.depthKv, PyData.depthAll, hk]
    omega
mutual
theorem dep_pyN : ∀ d : D, (toPyN d).depth ≤ depN d
  | .tup ds => by rw [toPyN, PyData.depth, depN]; have := depL_pyN ds; omega
  | .lst ds => by rw [toPyN, PyData.depth, depN]; have := depL_pyN ds; omega
  | .scr ds => by rw [toPyN, PyData.depth, depN]; have := depL_pyN ds; omega
  | .dct ks ds => by rw [toPyN, PyData.depth, depN]; have := depL_pyN ds; have := depKv_le ks (toPyNL ds); omega
  | .int _ => by rw [toPyN, PyData.depth, depN]; exact Nat.le_refl _
  | .ref _ => by rw [toPyN, PyData.depth, depN]; exact Nat.le_refl _
  | .exc _ _ _ => by rw [toPyN, PyData.depth, depN]; exact Nat.le_refl _
  | .dcT _ _ => by rw [toPyN, PyData.depth, depN]; exact Nat.le_refl _
  | .dcN _ _ => by rw [toPyN, PyData.depth, depN]; exact Nat.le_refl _
  | .clo _ _ => by rw [toPyN, PyData.depth, depN]; exact Nat.le_refl _
  | .non => by rw [toPyN, PyData.depth, depN]; exact Nat.le_refl _
  | .bl _ => by rw [toPyN, PyData.depth, depN]; exact Nat.le_refl _
  | .str _ => by rw [toPyN, PyData.depth, depN]; exact Nat.le_refl _
theorem depL_pyN : ∀ ds : List D, PyData.depthAll (toPyNL ds) ≤ depNL ds
  | [] => by rw [toPyNL, PyData.depthAll, depNL]; exact Nat.le_refl _
  | d :: ds => by
    rw [toPyNL, PyData.depthAll, depNL]
    have := dep_pyN d
    have := depL_pyN ds
    omega
end
mutual
def widN : D → Nat
  | .non => 4
  | .bl _ => 5
  | .int i => i.natAbs.log2 + 2
  | .str x => (reprText x).length
  | .tup ds => widNL ds + 3
  | .lst ds => widNL ds + 3
  | .scr ds => widNL ds + 3
  | .ref _ => 4
  | .dct ks ds => widKs ks + widNL ds + 3
  | .exc _ _ _ => 4
  | .dcT _ _ => 4
  | .dcN _ _ => 4
  | .clo _ _ => 4
def widNL : List D → Nat
  | [] => 0
  | d :: ds => widN d + 2 + widNL ds
def widKs : List L2.Key → Nat
  | [] => 0
  | k :: ks => (keyPy k).shown.length + 2 + widKs ks
end
theorem int_wid (i : Int) : (PyData.int i).shown.length ≤ i.natAbs.log2 + 2 := by
  have := shown_wid (.int i)
  rwa [toPy, wid] at this
theorem kv_wid : ∀ (ks : List L2.Key) (ds : List PyData), ((PyData.shownKv ((ks.map keyPy).zip ds)).map (·.length)).sum + 2 * (PyData.shownKv ((ks.map keyPy).zip ds)).length ≤ widKs ks + (((PyData.shownAll ds).map (·.length)).sum + 2 * (PyData.shownAll ds).length)
  | [], ds => by simp [PyData.shownKv]
  | k :: ks, [] => by simp [PyData.shownKv]
  | k :: ks, d :: ds => by
    have ih := kv_wid ks ds
    rw [List.map_cons, List.zip_cons_cons, PyData.shownKv, PyData.shownAll, widKs, List.map_cons, List.sum_cons, List.map_cons, List.sum_cons, List.length_cons, List.length_cons, strLen_append, strLen_append]
    have : (Str.ofString ": ").length = 2 := by decide
    omega
mutual
theorem shown_widN : ∀ d : D, (toPyN d).shown.length ≤ widN d
  | .non => by rw [toPyN, PyData.shown, widN]; decide
  | .bl b => by rw [toPyN, PyData.shown, widN]; cases b <;> decide
  | .int i => by rw [toPyN, widN]; exact int_wid i
  | .str x => by rw [toPyN, PyData.shown, widN]; exact Nat.le_refl _
  | .ref _ => by rw [toPyN, PyData.shown, widN]; decide
  | .exc _ _ _ => by rw [toPyN, PyData.shown, widN]; decide
  | .dcT _ _ => by rw [toPyN, PyData.shown, widN]; decide
  | .dcN _ _ => by rw [toPyN, PyData.shown, widN]; decide
  | .clo _ _ => by rw [toPyN, PyData.shown, widN]; decide
  | .tup ds => by
    rw [toPyN, PyData.shown, widN]
    have := tupleText_len_le (PyData.shownAll (toPyNL ds))
    have := shownL_widN ds
    omega
  | .lst ds => by
    rw [toPyN, PyData.shown, widN]
    have := listText_len_le (PyData.shownAll (toPyNL ds))
    have := shownL_widN ds
    omega
  | .scr ds => by
    rw [toPyN, PyData.shown, widN]
    have := listText_len_le (PyData.shownAll (toPyNL ds))
    have := shownL_widN ds
    omega
  | .dct ks ds => by
    rw [toPyN, PyData.shown, widN]
    have := dictText_len_le (PyData.shownKv ((ks.map keyPy).zip (toPyNL ds)))
    have := kv_wid ks (toPyNL ds)
    have := shownL_widN ds
    omega
theorem shownL_widN : ∀ ds : List D, ((PyData.shownAll (toPyNL ds)).map (·.length)).sum + 2 * (PyData.shownAll (toPyNL ds)).length ≤ widNL ds
  | [] => by rw [toPyNL, PyData.shownAll, widNL]; decide
  | d :: ds => by
    rw [toPyNL, PyData.shownAll, widNL, List.map_cons, List.sum_cons, List.length_cons]
    have := shown_widN d
    have := shownL_widN ds
    omega
end
end
def e_aReprN := @aReprN.eq_def
end Gw

namespace Gw
open PySem L2 PyProof.Rows
variable {ρ : Ent}
section
variable {X : Cx} {a : Expr} {ta : TE} {aa : AE} {pos : Pos} {K : PySem.W.Frag}
def aLenSetT (r : Ret) (Γ : Sl) (M : Mem) (Q : Ret → Sl → Mem → Prop) : Prop := match sqOf r Γ M with
  | some (.lst ds) => match rowsD ds with
    | some rs => rs.length < 64 ∧ ∀ os : List (List Int), os.Nodup → (∀ r, r ∈ os ↔ r ∈ rs) → Q (.dat (.int os.length)) Γ M
    | none => False
  | _ => False
end
def e_aLenSetT := @aLenSetT.eq_def
end Gw

namespace Gw
open PySem L2 PyProof.Rows
variable {ρ : Ent}
abbrev TB := L2.St → Hp → (Hp → Prop) → Prop
section
variable {X : Cx} {D : Addr} {elt tg iter tg1 iter1 : Expr} {ifs ifs1 : List Expr} {scope : Scope} {pos pos' : Pos} {te : TE} {pins : List (Addr × Obj)} {vs vs1 : List Nat} {g g1 : TG} {tt tt1 : TT} {wi wi1 : TI}
end
section
variable {X : Cx} {tg iter : Expr} {te : TE} {ae : AE} {pos : Pos} {K : PySem.W.Frag} {B : Ent} {σ σ' σ0 : L2.St} {H G H0 G0 H2 G2 : Hp} {Γ Γ' Γ0 Γ2 : Sl} {M M0 M2 : Mem} {p : Addr} {vs : List Nat} {α : Type} {Pd : List α → Hp → HO → Prop} {acc : List α}
structure GrowP (K : PySem.W.Frag) (ρ : Ent) (B : Ent) (p : Addr) (σ0 : L2.St) (H0 G0 : Hp) (Γ0 : Sl) (M0 : Mem) (vs : List Nat) (Pd : List α → Hp → HO → Prop) (acc : List α) (σ : L2.St) (H G : Hp) (Γ : Sl) (M : Mem) : Prop where
  ok : Ok K ρ B σ H G Γ M
  g : Ex G0 G
  tmp : ∀ a o, H0 a = some o → G0 a = none → a ∉ dom M0 → ¬ owned σ0 Γ0 a → H a = some o ∧ G a = none ∧ a ∉ dom M ∧ ¬ owned σ Γ a
  nn : ∀ a, H a = none → H0 a = none
  wi : ∀ (j : Nat) (s : Slot), Γ[j]? = some s → s ≠ .non → j ∉ vs
  here : ∃ u, H p = some u ∧ Pd acc G u
  gp : G p = none
  mp : p ∉ dom M
  op : ¬ owned σ Γ p
  base : B.H p = none ∧ H0 p = none
theorem GrowP.es (mono : ∀ acc G G' u, Ex G G' → Pd acc G u → Pd acc G' u) (w : GrowP K ρ B p σ0 H0 G0 Γ0 M0 vs Pd acc σ H G Γ M) (k : Ok K ρ B σ H2 G2 Γ2 M2) (e : Es σ H G Γ M H2 G2 Γ2 M2) : GrowP K ρ B p σ0 H0 G0 Γ0 M0 [] Pd acc σ H2 G2 Γ2 M2 := by
  obtain ⟨o, hp, hc⟩ := w.here
  obtain ⟨p1, p2, p3, p4⟩ := e.tmp p _ hp w.gp w.mp w.op
  refine ⟨k, w.g.trans e.g, fun a o h g m n => ?_, fun a z => w.nn a (e.nn a z), fun j s _ _ => by simp, ⟨o, p1, mono _ _ _ _ e.g hc⟩, p2, p3, p4, w.base⟩
  obtain ⟨a1, a2, a3, a4⟩ := w.tmp a o h g m n
  exact e.tmp a o a1 a2 a3 a4
theorem GrowP.to (w : GrowP K ρ B p σ0 H0 G0 Γ0 M0 vs Pd acc σ H G Γ M) (k : Ok K ρ B σ' H G Γ' M) (o : ∀ x, owned σ' Γ' x → owned σ Γ x) {us : List Nat} (hw : ∀ (j : Nat) (s : Slot), Γ'[j]? = some s → s ≠ .non → j ∉ us) : GrowP K ρ B p σ0 H0 G0 Γ0 M0 us Pd acc σ' H G Γ' M := by
  refine ⟨k, w.g, fun a o' h g m n => ?_, w.nn, hw, w.here, w.gp, w.mp, fun z => w.op (o _ z), w.base⟩
  obtain ⟨a1, a2, a3, a4⟩ := w.tmp a o' h g m n
  exact ⟨a1, a2, a3, fun z => a4 (o _ z)⟩
theorem GrowP.put {acc' : List α} {u : HO} (w : GrowP K ρ B p σ0 H0 G0 Γ0 M0 vs Pd acc σ H G Γ M) (hu : Pd acc' G u) : GrowP K ρ B p σ0 H0 G0 Γ0 M0 vs Pd acc' σ (upd H p u) G Γ M := by
  obtain ⟨o, hp, hc⟩ := w.here
  refine ⟨w.ok.updTmp' hp w.base.1 w.gp w.mp w.op, w.g, fun a o h g m n => ?_, fun a z => ?_, w.wi, ⟨u, upd_same, hu⟩, w.gp, w.mp, w.op, w.base⟩
  · obtain ⟨a1, a2, a3, a4⟩ := w.tmp a o h g m n
    exact ⟨by rw [upd_ne (ne_of_none h w.base.2)]; exact a1, a2, a3, a4⟩
  · by_cases e : a = p
    · subst e; exact w.base.2
    · rw [upd_ne e] at z; exact w.nn a z
theorem GrowP.enter (w : GrowP K ρ B p σ0 H0 G0 Γ0 M0 vs Pd acc σ H G Γ M) : GrowP K ρ B p σ0 H0 G0 Γ0 M0 vs Pd acc (wipe σ vs) H G Γ M := by
  obtain ⟨k, o⟩ := w.ok.agree (σ' := wipe σ vs) (Γ' := Γ) (fun j s a b => ⟨a, wipe_out (w.wi j s a b)⟩) (by rw [wipe_length]; exact w.ok.len)
  exact w.to k o w.wi
theorem GrowP.leave (w : GrowP K ρ B p σ0 H0 G0 Γ0 M0 [] Pd acc σ' H G Γ M) (hw : wipe σ' vs = wipe σ vs) : GrowP K ρ B p σ0 H0 G0 Γ0 M0 vs Pd acc σ H G (wipeS Γ vs) M := by
  have ag : ∀ j, j ∉ vs → σ[j]? = σ'[j]? := fun j hj => by rw [← wipe_out (σ := σ') hj, hw, wipe_out hj]
  have hl : σ'.length = σ.length := by rw [← wipe_length σ' vs, hw, wipe_length]
  obtain ⟨k, o⟩ := w.ok.agree (σ' := σ) (Γ' := wipeS Γ vs) (fun j s a b => ⟨(wipeS_some a b).1, ag j (wipeS_some a b).2⟩) (by rw [wipeS_length, w.ok.len, hl])
  exact w.to k o fun j s a b => (wipeS_some a b).2
def aScL (pick : D → Option α) (g : AG) (tt : AT) (ae : AE) (vs : List Nat) (k : List α → Sl → Mem → Prop) : List D → List α → Sl → Mem → Prop
  | [], acc, Γ, M => k acc Γ M
  | d :: ds, acc, Γ, M => g d Γ fun Γ1 => tt Γ1 M fun b Γ2 M2 => if b = true then ae Γ2 M2 fun r Γ3 M3 => match r with
      | .dat y => match pick y with
        | some x => acc.length < 60 ∧ aScL pick g tt ae vs k ds (acc ++ [x]) (wipeS Γ3 vs) M3
        | none => False
      | _ => False
    else aScL pick g tt ae vs k ds acc (wipeS Γ2 vs) M2
def aScO (pick : D → Option α) (ai1 : AI) (g : AG) (tt : AT) (g1 : AG) (tt1 : AT) (ae : AE) (vs vs1 : List Nat) (k : List α → Sl → Mem → Prop) : List D → List α → Sl → Mem → Prop
  | [], acc, Γ, M => k acc Γ M
  | d :: ds, acc, Γ, M => g d Γ fun Γ1 => tt Γ1 M fun b Γ2 M2 => if b = true then ai1 Γ2 M2 fun es Γ3 M3 => aScL pick g1 tt1 ae vs1 (fun acc' Γ4 M4 => aScO pick ai1 g tt g1 tt1 ae vs vs1 k ds acc' (wipeS Γ4 vs) M4) es acc (wipeS Γ3 vs1) M3
      else aScO pick ai1 g tt g1 tt1 ae vs vs1 k ds acc (wipeS Γ2 vs) M2
structure WitS {α : Type} (k : List α → Sl → Mem → Prop) : Type where
def scO (pick : D → Option α) (ai1 : AI) (g : AG) (tt : AT) (g1 : AG) (tt1 : AT) (ae : AE) (vs vs1 : List Nat) (k : List α → Sl → Mem → Prop) (_ : WitS k) (ds : List D) (acc : List α) (Γ : Sl) (M : Mem) : Prop := aScO pick ai1 g tt g1 tt1 ae vs vs1 k ds acc Γ M
def aSortSc (pick : D → Option α) (fin : List α → (List D → Prop) → Prop) (ai : AI) (g : AG) (tt : AT) (ai1 : AI) (g1 : AG) (tt1 : AT) (ae : AE) (vs vs1 : List Nat) (Γ : Sl) (M : Mem) (Q : Ret → Sl → Mem → Prop) : Prop :=
  ai Γ M fun ds Γ1 M1 => scO pick ai1 g tt g1 tt1 ae vs vs1 (fun acc Γ2 M2 => fin acc fun os => Q (.tmp (.lst os)) Γ2 M2) ⟨⟩ ds [] (wipeS Γ1 vs) M1
end
section
variable {X : Cx} {tg tg1 : Expr} {te : TE} {ae : AE} {pos : Pos} {K : PySem.W.Frag}
end
def e_aSortSc := @aSortSc.eq_def
end Gw

namespace Gw
open PySem PySem.Spec L2 PyProof.Rows
variable {ρ : Ent}
section
variable {P : Program} {w : World} {A : Around} {E : Value → Shared → Prop} {s : Shared}
end
section
variable {X : Cx} {a : Expr} {ta : TE} {aa : AE} {pos : Pos} {K : PySem.W.Frag}
def aSortRowsT (r : Ret) (Γ : Sl) (M : Mem) (Q : Ret → Sl → Mem → Prop) : Prop := match r with
  | .dat (.tup ds) => match rowsD ds with
    | some rs => (rs.length < 64 ∧ ∃ n, ∀ r ∈ rs, r.length = n ∧ TS.Bd 64 r) ∧ ∀ os : List (List Int), os.Pairwise (fun r q => HT.lexLt r q = true) → (∀ r, r ∈ os ↔ r ∈ rs) → Q (.tmp (.lst (os.map rowD))) Γ M
    | none => False
  | _ => False
end
def e_aSortRowsT := @aSortRowsT.eq_def
end Gw

namespace Gw
open PySem L2 PyProof.Rows
variable {ρ : Ent}
section
variable {X : Cx} {a : Expr} {ta : TE} {aa : AE} {pos : Pos} {K : PySem.W.Frag}
def aLenSetI (r : Ret) (Γ : Sl) (M : Mem) (Q : Ret → Sl → Mem → Prop) : Prop := match sqOf r Γ M with
  | some (.lst ds) => match intsD ds with
    | some ns => ns.length ≤ 60 ∧ ∀ os : List Int, os.Nodup → (∀ k, k ∈ os ↔ k ∈ ns) → Q (.dat (.int os.length)) Γ M
    | none => False
  | _ => False
end
def e_aLenSetI := @aLenSetI.eq_def
end Gw

namespace Gw
open PySem L2
variable {ρ : Ent}
section
variable {X : Cx} {a b : Expr} {ta tb : TE} {aa ab : AE} {x y : Str} {K : PySem.W.Frag} {B : Ent} {σ : L2.St} {Γ : Sl}
def aParOO (aa ab : AE) (i j : Nat) (A : AEnds) (Γ : Sl) (M : Mem) : Prop := aa Γ M fun r Γ1 M1 => match r with
  | .tmp c => ab Γ1 M1 fun r2 Γ3 M3 => match r2 with
    | .tmp d => A.nx ((Γ3.set i (.own c)).set j (.own d)) M3
    | _ => False
  | _ => False
end
def e_aParOO := @aParOO.eq_def
end Gw

namespace Gw
open PySem L2 PyProof.Rows
variable {ρ : Ent}
structure CalX (P : Program) (w : World) (K : PySem.W.Frag) (mg : Str → Option Value) (base : Heap) (x : Str) (ps : List Str) (k : Nat) (S : ASx) : Prop where
  ex : ∃ f fd, FnG P w K mg base (L2.CX P w) k f fd ps (spX K ps.length S) ∧ mg x = some (.ref f) ∧ PySem.W.keepIn K (.ref f) = true ∧ Binds K fd ps []
  ar : ArX ps.length S
section
variable {X : Cx} {K : PySem.W.Frag} {P : Program} {mg : Str → Option Value} {base : Heap} {w : World} {W : WX} {xw : XW} {x : Str} {ps : List Str} {k : Nat} {S : ASx} {a : Expr} {es : List Expr} {p pos : Pos} {ar : AA}
theorem q_callXC {tr : TA} (c : CalX P w K mg base x ps k S) (hr : Room k X.A) (gd : X.A.guards = some []) (tk : Takes X W) (cn : Conn K ρ W xw) (ha : QA X ρ (a :: es) tr ar) (hg : Gl X x := by rfl) (hdb : (x == ("__debug__" : Str)) = false := by decide)
    (he : starEach (a :: es) X.env = (false, eval a X.env) :: starEach es X.env := by rfl) (hpl : (backTo pos (starEach es X.env)).any (·.1) = false := by rfl) (hK : X.K = K := by rfl) (hP : X.prog = P := by rfl) (hM : X.mg = mg := by rfl) (hB : X.base = base := by rfl) (hW : X.w = w := by rfl) :
    QE X ρ (.Call (.Name x p) (a :: es) [] pos) (tCallS (spX K ps.length S) (WE W) tr) (aCallX xw S ar) := by
  subst hK; subst hP; subst hM; subst hB; subst hW
  obtain ⟨f, fd, F, hm, hk, hb⟩ := c.ex
  exact q_callX F hr gd hm hk hb c.ar tk cn ha hg hdb he hpl
end
def e_aCallX := @aCallX.eq_def
def e_aRaise := @aRaise.eq_def
def e_aTry := @aTry.eq_def
def e_aIsX := @aIsX.eq_def
def e_aXf := @aXf.eq_def
end Gw

namespace Gw
open PySem PySem.Spec L2 PyProof.Rows
variable {ρ : Ent}
section
variable {X : Cx} {K : PySem.W.Frag}
end
section
variable {X : Cx} {tg tg1 : Expr} {te : TE} {ae : AE} {pos : Pos} {K : PySem.W.Frag}
def aSortRowsD (r : Ret) (Γ : Sl) (M : Mem) (Q : Ret → Sl → Mem → Prop) : Prop := match sqOf r Γ M with
  | some (.lst ds) => match rowsD ds with
    | some rs => (rs.length < 64 ∧ ∀ r ∈ rs, r ≠ []) ∧ ∀ os : List (List Int), os.Pairwise (fun r q => HT.lexLt r q = true) → (∀ r, r ∈ os ↔ r ∈ rs) → Q (.tmp (.lst (os.map rowD))) Γ M
    | none => False
  | _ => False
end
def e_aSortRowsD := @aSortRowsD.eq_def
end Gw

namespace Gw
open PySem PySem.Spec L2 PyProof.Rows
variable {ρ : Ent}
theorem meets_enumT (t : Addr) (its : Array Value) (n : Nat) (dct : Option Addr) (sl : Array (Option Value)) :
    Meets (Builtin.«enumerate.__new__» ⟨[.type "enumerate", .ref t], []⟩) (fun _ R s => s.heap.get? t = some ⟨.type "tuple", dct, .seq its n, sl⟩ ∧
      R (.ok (.ret (.ref (s.heap.push { cls := .type "tuple_iterator", data := .fields #[.ref t, .int 0 0] }).objs.size)))
        { s with heap := (s.heap.push { cls := .type "tuple_iterator", data := .fields #[.ref t, .int 0 0] }).push { cls := .type "enumerate", data := .fields #[.none, .bool false, .ref s.heap.objs.size, rawInt 0, .none, .none] } }) :=
  .of_wp fun prog w A R s ⟨ht, h⟩ => by
    obtain ⟨hp, g, d, tk, os⟩ := s
    have hsub := sub_enumerate
    have tup : Heap.IsTuple (Shared.heap ⟨hp, g, d, tk, os⟩) t its := ⟨_, ht, rfl, n, rfl⟩
    wp_walk using AutoSeq1.wpAny_loadPart' ht
    refine wpAny_stack_any fun st => wpAny_pure ?_
    split
    · rename_i c _ _ _ _ _
      cases (c == Value.type "enumerate")
      all_goals
        wp_walk using AutoSeq1.wpAny_loadPart' ht, wpAny_pyIter_tuple tup
        exact ⟨_, rfl, h⟩
    · wp_walk using AutoSeq1.wpAny_loadPart' ht, wpAny_pyIter_tuple tup
      exact ⟨_, rfl, h⟩
theorem call_enumT {prog : Program} {w : World} {A : Around} {E : Value → Shared → Prop} {s : Shared} {t : Addr} {its : Array Value} {Q : Value → Shared → Prop} (hT : s.heap.IsTuple t its)
    (h : ∀ h', IsEnum h' (s.heap.objs.size + 1) s.heap.objs.size 0 .none → h'.IsTupleIter s.heap.objs.size t 0 → (∀ b o, s.heap.get? b = some o → h'.get? b = some o) → Q (.ref (s.heap.objs.size + 1)) { s with heap := h' }) :
    wpAny (model prog w) A (call (.type "enumerate") [.ref t]) Q E s := by
  obtain ⟨⟨_, dct, _, sl⟩, ht, rfl, n, rfl⟩ := hT
  refine callType_new PySem.F.called_enumerate (by decide) (PySem.F.typeCall_enumerate_1 _) (PySem.F.newCall_enumerate_1 _) (fun obj => PySem.F.args_object_init_2 obj _) PySem.F.entry_enumerate_new (meets_enumT t its n dct sl) ⟨ht, ?_⟩
  have z : (s.heap.push { cls := .type "tuple_iterator", data := .fields #[.ref t, .int 0 0] }).objs.size = s.heap.objs.size + 1 := Heap.size_push ..
  have he := Heap.get?_push_size (s.heap.push { cls := .type "tuple_iterator", data := .fields #[.ref t, .int 0 0] }) (o := { cls := .type "enumerate", data := .fields #[.none, .bool false, .ref s.heap.objs.size, rawInt 0, .none, .none] }) rfl
  show _ ∧ _
  rw [z] at he ⊢
  exact ⟨⟨_, he, rfl⟩, h _ he ⟨_, Heap.get?_push_of_some _ (Heap.get?_push_size _ rfl), rfl, rfl⟩ fun b o x => Heap.get?_push_of_some _ (Heap.get?_push_of_some _ x)⟩
def IteT (K : PySem.W.Frag) (a : Addr) : It :=
  ⟨fun i H => ∃ (xs : List V) (x : V), SqT K H a xs ∧ xs[i]? = some x, fun i H v H' => ∃ T x, v = .ref T ∧ H T = none ∧ H' = upd H T (.tup [.int (i : Nat), x]) ∧ ∀ xs, SqT K H a xs → xs[i]? = some x, fun i H => ∃ xs : List V, SqT K H a xs ∧ xs.length = i⟩
theorem turn_enumT {P : Program} {w : World} {K : PySem.W.Frag} {elts : List Expr} {kk : Nat} {tpos : Pos} (a e it : Addr) :
    Turn P w K (.Tuple elts kk tpos) (IteT K a) [e, it] e (fun i h => (∃ old, IsEnum h e it ((i : Nat) : Int) old) ∧ h.IsTupleIter it a i ∧ e ≠ it) where
  mem := List.mem_cons_self
  obj := fun i h ⟨⟨old, he⟩, hit, _⟩ b hb => by
    obtain ⟨o, ho, hc, hd⟩ := hit
    simp only [List.mem_cons, List.not_mem_nil, or_false] at hb
    rcases hb with rfl | rfl
    · exact ⟨_, he, fun v q => nomatch q⟩
    · exact ⟨o, ho, fun v q => by rw [hd] at q; cases q⟩
  keep := fun i h h' ⟨⟨old, he⟩, hit, ne⟩ k => ⟨⟨old, k e List.mem_cons_self _ he⟩, hit.at fun o q => k it (by simp) o q, ne⟩
  item := by
    rintro X rfl rfl rfl hc i pins s σ H E I hf ⟨⟨old, he⟩, hit, ne⟩ ⟨xs, x, hq, hx⟩
    obtain ⟨its, rv, ht, hz⟩ := I.tuple hq
    obtain ⟨u, hu, ru⟩ := rv.get hx
    obtain ⟨ot, hot, hct, _⟩ := id ht
    obtain ⟨oi, hoi, hci, _⟩ := id hit
    have eT : e ≠ a := fun z => by subst z; rw [he] at hot; cases hot; exact absurd hct (by simp)
    have iT : a ≠ it := fun z => by subst z; rw [hoi] at hot; cases hot; rw [hci] at hct; exact absurd hct (by simp)
    have lt : ∀ b ∈ [e, it], b < s.heap.objs.size := fun b hb => by
      simp only [List.mem_cons, List.not_mem_nil, or_false] at hb
      rcases hb with rfl | rfl
      · exact Heap.lt_size he
      · exact Heap.lt_size hoi
    have il : i < its.toArray.size := by
      have := (List.getElem?_eq_some_iff.mp hu).1
      simpa using this
    refine wpAny_pyNext_enum_itemD (Draws.tuple (by simp [I.ok.hd hc]) it a iT its.toArray) he ⟨hit, ht⟩ il ne (by simp only [List.mem_cons, List.not_mem_nil, or_false, not_or]; exact ⟨ne, eT⟩) fun y h' tk hy ho st hN hsz hk => ?_
    have ey : y = u := by
      rw [List.getElem?_toArray] at hy
      rw [hu] at hy
      exact (Option.some.inj hy).symm
    subst ey
    refine ⟨_, rfl, wpAny_letOwnedTupleGo_enum (s := { s with heap := h', toks := tk + 1 }) ho fun h'' he' sb => ?_⟩
    have hel := lt e List.mem_cons_self
    have hT2 : h''.get? s.heap.objs.size = some { cls := .type "tuple", data := .seq #[.int i tk, y] } := (sb.2 _ (Nat.ne_of_gt hel)).trans hN
    have new : ObjOk X.prog X.w (upd H s.heap.objs.size (.tup [.int (i : Nat), x])) h'' s.heap.objs.size (.tup [.int (i : Nat), x]) :=
      ⟨by show 2 ≤ sizeLine; decide, [.int i tk, y], .cons ⟨_, rfl⟩ (.cons ru .nil), ⟨_, hT2, rfl, _, rfl⟩⟩
    have I1 : Inv X pins σ (upd H s.heap.objs.size (.tup [.int (i : Nat), x])) { s with heap := h'', toks := tk + 1 } :=
      I.turnedNew (ch := [e, it]) (fun b ob hb q => (sb.2 b (fun z => hb (by simp [z]))).trans (hk b ob (fun z => hb (by simp [z])) (fun z => hb (by simp [z])) q)) hf (Nat.le_refl _) new
    refine ⟨.ref s.heap.objs.size, _, I1, rfl, ⟨_, x, rfl, I.hok.fresh (Nat.le_refl _), rfl, fun ys hy => by rw [I.tuple_inj hy hq]; exact hx⟩, ⟨⟨y, ?_⟩, st.1.at fun o q => (sb.2 it (Ne.symm ne)).trans q, ne⟩, fun b hb => ?_⟩
    · rw [show ((i + 1 : Nat) : Int) = (i : Int) + 1 by omega]; exact he'
    · rw [upd_ne (Nat.ne_of_lt (lt b hb))]
      exact (hf b hb).1
  done := by
    rintro X rfl rfl rfl hc i pins s σ H E I hf ⟨⟨old, he⟩, hit, ne⟩ ⟨xs, hq, rfl⟩
    obtain ⟨its, rv, ht, hz⟩ := I.tuple hq
    obtain ⟨ot, hot, hct, _⟩ := id ht
    obtain ⟨oi, hoi, hci, _⟩ := id hit
    have iT : a ≠ it := fun z => by subst z; rw [hoi] at hot; cases hot; rw [hci] at hct; exact absurd hct (by simp)
    obtain ⟨f0, f1, f2, f3, f4, f5⟩ := hf it (by simp)
    have sz : its.toArray.size = xs.length := by simp [rv.length]
    exact wpAny_pyNext_enum_endD (Draws.tuple (by simp [I.ok.hd hc]) it a iT its.toArray) he ⟨by rw [sz]; exact hit, ht⟩ fun h' eb => ⟨rfl, I.turned (t' := s.toks) (fun b o hb q => eb b o hb q) f0 f1 f3 f4 f5⟩
  self := fun A i s Q E ⟨⟨_, he⟩, _⟩ h => wpAny_pyIter_enum he h
def iEnumT (K : PySem.W.Frag) (ta : TA) : TI := fun σ H R => ta σ H fun vs H1 => ∃ a xs, vs = [.ref a] ∧ SqT K H1 a xs ∧ R (IteT K a) H1
section
variable {X : Cx} {K : PySem.W.Frag} {a : Expr}
theorem pi_enumT {e : Expr} {ta : TA} {p pos tpos : Pos} {elts : List Expr} {kk : Nat} (hg : Gl X "enumerate") (hm : X.mg "enumerate" = none) (ha : PA X [e] ta) (hs : starEach [e] X.env = [(false, eval e X.env)] := by rfl) :
    PI X (.Tuple elts kk tpos) (.Call (.Name "enumerate" p) [e] [] pos) (iEnumT X.K ta) := ⟨fun pins s σ H R I h => by
  refine Call_ (ld_blt I hg hm boot_enumerate (PyProof.Rows.callWith_type1 (thn (ha.run pos pins s σ H _ I h) fun us s1 ⟨vs, H1, I1, r1, l, xs, ev, hq, q⟩ => ?_) hs rfl))
  subst ev
  rw [Vals.ref1 r1]
  obtain ⟨its, rv, ht, _⟩ := I1.tuple hq
  refine call_enumT (its := its.toArray) ht fun h' he hit keep => wpAny_pyIter_enum he ⟨_, [s1.heap.objs.size + 1, s1.heap.objs.size], _, _, H1, rfl, I1.kept (t' := s1.toks) keep, turn_enumT l _ _, ⟨⟨.none, he⟩, hit, Nat.succ_ne_self _⟩, fun b hb => ?_, q⟩
  have le : s1.heap.objs.size ≤ b := by
    simp only [List.mem_cons, List.not_mem_nil, or_false] at hb
    rcases hb with rfl | rfl
    · exact Nat.le_succ _
    · exact Nat.le_refl _
  exact I1.fpOk le (I1.hok.fresh le)⟩
theorem walk_enumT {b : Addr} {xs : List V} : Walk (IteT K b) xs.length (fun H => SqT K H b xs) (YPair (fun i => some (.int (i : Nat))) (fun i => xs[i]?)) :=
  ⟨fun i _ hi q => ⟨xs, xs[i], q, by simp [hi]⟩, fun _ q => ⟨xs, q, rfl⟩, fun i H v H' _ q ⟨T, x, h1, h2, h3, h4⟩ => ⟨T, .int (i : Nat), x, h1, h2, h3, rfl, h4 xs q⟩⟩
def aIenumT (ar : AA) (Γ : Sl) (M : Mem) (Q : List D → Sl → Mem → Prop) : Prop := ar Γ M fun ds Γ1 M1 => match ds with
  | [.tup xs] => Q (enumD 0 xs) Γ1 M1
  | _ => False
theorem qi_enumT {tpos p pos : Pos} {elts : List Expr} {kk : Nat} {tr : TA} {ar : AA} (hm : X.mg "enumerate" = none) (ha : QA X ρ [a] tr ar) (hg : Gl X "enumerate" := by rfl) (hs : starEach [a] X.env = [(false, eval a X.env)] := by rfl) (hK : X.K = K := by rfl) :
    QI X ρ (.Tuple elts kk tpos) (.Call (.Name "enumerate" p) [a] [] pos) (iEnumT K tr) (aIenumT ar) := by
  subst hK
  refine ⟨pi_enumT hg hm ha.pe hs, fun B σ H G Γ M Q R k hh q => ha.rd B σ H G Γ M _ _ k hh fun vs H1 G1 Γ1 M1 ds k1 e1 rl h1 => ?_⟩
  split at h1
  · rename_i xs
    obtain ⟨v, r, rfl, rv, rn⟩ := repL_cons.mp rl
    have := repL_nil.mp rn; subst this
    obtain ⟨p1, us, rfl, s1, l1⟩ := rep_tup rv
    refine ⟨p1, us, rfl, ex_t k1.ex s1, q _ H1 G1 Γ1 M1 _ k1 e1 ⟨fun H => SqT X.K H p1 us, YPair (fun i => some (.int (i : Nat))) (fun i => us[i]?), ?_, fun H e => ex_t e s1, fun i H x H' d hd _ y => ?_⟩ h1⟩
    · rw [enumD_len, ← l1.length]; exact walk_enumT
    · obtain ⟨z, e3, rfl⟩ := enumD_get hd
      obtain ⟨T, u, w, ev, hT, eH, f1, f2⟩ := y
      obtain ⟨u', g1, q1⟩ := l1.get e3
      have f1 : some (V.int (i : Nat)) = some u := f1
      have f2 : us[i]? = some w := f2
      have ew : u' = w := by rw [g1] at f2; exact Option.some.inj f2
      subst ew
      cases f1
      exact .inr ⟨rfl, T, [.int (i : Nat), u'], [.int (0 + i : Nat), z], ev, hT, eH, rfl, repL_cons.mpr ⟨_, _, rfl, by rw [Rep, Nat.zero_add], RepL.one q1⟩⟩
  · exact h1.elim
end
def e_aIenumT := @aIenumT.eq_def
end Gw

namespace Gw
open PySem L2 PyProof.Rows
variable {ρ : Ent}
section
variable {M : Model} {A : Around} {E : Value → Shared → Prop} {s : Shared} {Z : Obj → Prop} {B : Heap} {env ce : Env} {outer l : List Env} {L a : Addr}
end
section
variable {X : Cx} {W : WX} {pins : List (Addr × Obj)} {σ : L2.St} {H : Hp} {s : Shared} {scope : Scope} {ce : Env} {fp : List Addr}
end
section
variable {X : Cx} {W : WX} {elt tg iter : Expr} {ifs : List Expr} {scope : Scope} {pos : Pos} {te : TE} {ae : AE} {g : TG} {ag : AG} {is : List Nat} {tt : TT} {at' : AT} {wi : TI} {ai : AI} {own : List (Str × Nat)}
end
end Gw

namespace Gw
open PySem L2 PyProof.Rows
variable {ρ : Ent}
structure PCalX (P : Program) (w : World) (K : PySem.W.Frag) (mg : Str → Option Value) (base : Heap) (x : Str) (ps : List Str) (m : Nat) (ks : List Str) (π : List Nat) (k : Nat) (S : ASx) : Prop where
  ex : ∃ f fd, FnG P w K mg base (L2.CX P w) k f fd ps (spX K ps.length S) ∧ mg x = some (.ref f) ∧ PySem.W.keepIn K (.ref f) = true ∧
    (∀ (s : Shared) (us ws : List Value), K.In s.heap → us.length = m → ws.length = ks.length → BindsTo s fd ⟨us, ks.zip ws⟩ (ps.zip (permL π (us ++ ws)))) ∧ ArX ps.length S
def aCallPX (w : XW) (S : ASx) (m n : Nat) (π : List Nat) (aa ak : AA) (Γ : Sl) (M : Mem) (Q : Ret → Sl → Mem → Prop) : Prop := aa Γ M fun ds Γ1 M1 => ak Γ1 M1 fun es Γ2 M2 => ds.length = m ∧ es.length = n ∧ apX S (permL π (ds ++ es)) M2 (fun r M3 => Q r Γ2 M3) (fun x M3 => w x Γ2 M3) ⟨⟩
section
variable {K : PySem.W.Frag} {X : Cx}
variable {P : Program} {w : World} {mg : Str → Option Value} {base : Heap} {k m : Nat} {ps ks : List Str} {π : List Nat} {S : ASx} {x : Str} {p pos : Pos} {a : Expr} {es : List Expr} {tr tk : TA} {ar ak : AA} {kws : List Keyword} {W : WX} {xw : XW}
end
def e_aCallPX := @aCallPX.eq_def
def e_aRaiseP := @aRaiseP.eq_def
end Gw

namespace Gw
open PySem L2 PyProof.Rows
variable {ρ : Ent}
section
variable {prog : Program} {w : World} {A : Around} {E : Value → Shared → Prop} {s : Shared}
end
section
variable {X : Cx} {a : Expr} {ta : TE} {aa : AE} {pos : Pos} {K : PySem.W.Frag}
def aSortIT (r : Ret) (Γ : Sl) (M : Mem) (Q : Ret → Sl → Mem → Prop) : Prop := match r with
  | .dat (.tup ds) => match intsOf ds with
    | some ns => Q (.tmp (.lst ((isort ns).map .int))) Γ M
    | none => False
  | _ => False
end
def e_aSortIT := @aSortIT.eq_def
end Gw

namespace Gw
open PySem PySem.W L2 PyProof.Rows
variable {ρ : Ent}
section
variable {M : Model} {A : Around} {E : Value → Shared → Prop} {h : Heap} {g : Array GenState} {d : Drawn} {t : Nat} {os : OsState} {kw : List (Str × Value)} {rest : List Value} {R : Result → Shared → Prop} {prog : Program} {w : World}
variable {nm q : Str} {C N : Addr} {bs bm bmB : List Value} {hdct : Bool} {sn : List Str} {sub : List Value} {ab : Bool} {col : Option Bool} {dd : Option Addr} {k0 k1 k2 k3 k5 : Option Value} {B newId initId : String}
end
section
variable {X : Cx} {ks names : List Str} {π : List Nat} {cn : Str} {k : Nat} {p pos : Pos} {pins : List (Addr × Obj)} {σ : L2.St} {H1 : Hp} {zs : List V} {ws : List Value} {kws : List Keyword} {tk : TA} {ak : AA} {K : Frag} {mg : Str → Option Value}
structure XclK (P : Program) (w : World) (K : Frag) (mg : Str → Option Value) (base : Heap) (cn : Str) (names ks : List Str) (π : List Nat) (k : Nat) : Prop where
  ns : nsIn K mainGlobals cn = some (some (.ref (clsAd K cn)))
  ox : OxG K (clsAd K cn)
  no : ∀ f ∈ names, findIn K (.ref (clsAd K cn)) f = some none
  ex : ∃ (fI : Addr) (fd : FuncData) (ps : List Str), findIn K (.ref (clsAd K cn)) "__init__" = some (some (.ref fI)) ∧ typeIn K (.ref fI) = some (.type "function") ∧ FnOk P w K mg base CX0 k fI fd ps (spInit K names) ∧
    ∀ (s : Shared) (v : Value) (ws : List Value), K.In s.heap → ws.length = ks.length → BindsTo s fd ⟨[v], ks.zip ws⟩ (ps.zip (v :: permL π ws))
  ln : names.length ≤ 1000
def aMkK (cn : Str) (names : List Str) (n : Nat) (π : List Nat) (ak : AA) (Γ : Sl) (M : Mem) (Q : Ret → Sl → Mem → Prop) : Prop := ak Γ M fun ds Γ1 M1 => ds.length = n ∧ (permL π ds).length = names.length ∧ Q (.dat (.exc cn names.reverse (permL π ds).reverse)) Γ1 M1
end
section
variable {X : Cx} {K : Frag} {mg : Str → Option Value} {x : Str} {e : Expr} {ta : TE} {aa : AE} {p pos : Pos}
def aMkP (cn : Str) (aa : AE) (Γ : Sl) (M : Mem) (Q : Ret → Sl → Mem → Prop) : Prop := aa Γ M fun _ Γ1 M1 => Q (.dat (.exc cn [] [])) Γ1 M1
end
def e_aMk := @aMk.eq_def
def e_aMkK := @aMkK.eq_def
def e_aMkP := @aMkP.eq_def
end Gw

namespace Gw
open PySem PySem.Spec L2 PyProof.Rows RZ
variable {ρ : Ent}
def sgD (x : Str) : List D := x.cps.toList.map fun c => .str ⟨#[c]⟩
theorem sgD_len (x : Str) : (sgD x).length = x.cps.size := by simp [sgD]
def SqB (K : PySem.W.Frag) : Bool → Hp → Addr → List V → Prop
  | true, H, b, ys => SqT K H b ys
  | false, H, b, ys => SqL K H b ys
def IsIt : Bool → Heap → Addr → Addr → Nat → Prop
  | true, h, i, b, k => h.IsTupleIter i b k
  | false, h, i, b, k => h.IsListIter i b k
def IsSq : Bool → Heap → Addr → Array Value → Prop
  | true, h, b, its => h.IsTuple b its
  | false, h, b, its => h.IsList b its
def itO : Bool → Addr → Obj
  | true, b => { cls := .type "tuple_iterator", data := .fields #[.ref b, .int 0 0] }
  | false, b => { cls := .type "list_iterator", data := .fields #[.ref b, .int 0 0] }
theorem beginsB (tp : Bool) (b : Addr) (its : Array Value) : Begins (.ref b) (itO tp b) fun h => IsSq tp h b its := by
  cases tp
  · exact begins_list b its
  · exact begins_tuple b its
theorem drawsB {prog : Program} {w : World} {A : Around} (tp : Bool) (hh : A.handled = none) (it b : Addr) (ne : b ≠ it) (its : Array Value) :
    Draws prog w A it [it, b] its.size (fun i v => its[i]? = some v) (fun i h => IsIt tp h it b i ∧ IsSq tp h b its) := by
  cases tp
  · exact Draws.list hh it b ne its
  · exact Draws.tuple hh it b ne its
theorem seqB {X : Cx} {pins : List (Addr × Obj)} {σ : L2.St} {H : Hp} {s : Shared} (I : Inv X pins σ H s) : ∀ {tp : Bool} {b : Addr} {ys : List V}, SqB X.K tp H b ys → ∃ its, Vals ys its ∧ IsSq tp s.heap b its.toArray ∧ b < s.heap.objs.size
  | true, _, _, h => let ⟨its, rv, p, _⟩ := I.tuple h; let ⟨_, ho, _⟩ := id p; ⟨its, rv, p, Heap.lt_size ho⟩
  | false, _, _, h => let ⟨its, rv, p, _⟩ := I.list h; ⟨its, rv, p.isList, p.lt⟩
theorem injB {X : Cx} {pins : List (Addr × Obj)} {σ : L2.St} {H : Hp} {s : Shared} (I : Inv X pins σ H s) : ∀ {tp : Bool} {b : Addr} {ys zs : List V}, SqB X.K tp H b ys → SqB X.K tp H b zs → ys = zs
  | true, _, _, _, h, h' => I.tuple_inj h h'
  | false, _, _, _, h, h' => I.list_inj h h'
theorem isIt_obj : ∀ {tp : Bool} {h : Heap} {i b : Addr} {k : Nat}, IsIt tp h i b k → ∃ o vs, h.get? i = some o ∧ o.data = .fields vs
  | true, _, _, _, _, ⟨o, e, _, d⟩ => ⟨o, _, e, d⟩
  | false, _, _, _, _, ⟨o, e, _, d⟩ => ⟨o, _, e, d⟩
theorem isIt_at : ∀ {tp : Bool} {h h' : Heap} {i b : Addr} {k : Nat}, IsIt tp h i b k → (∀ o, h.get? i = some o → h'.get? i = some o) → IsIt tp h' i b k
  | true, _, _, _, _, _, x, k => Heap.IsTupleIter.at x k
  | false, _, _, _, _, _, x, k => let ⟨o, e, r⟩ := x; ⟨o, k o e, r⟩
section
variable {X : Cx} {K : PySem.W.Frag} {a b : Expr}
def aIzipS (ar : AA) (Γ : Sl) (M : Mem) (Q : List D → Sl → Mem → Prop) : Prop := ar Γ M fun ds Γ1 M1 => match ds with
  | [.str x, .tup ys] => Q (zipD (sgD x) ys) Γ1 M1
  | [.str x, .lst ys] => Q (zipD (sgD x) ys) Γ1 M1
  | _ => False
def aIStr (aa : AE) (Γ : Sl) (M : Mem) (Q : List D → Sl → Mem → Prop) : Prop := aa Γ M fun r Γ1 M1 => match r with
  | .dat (.str x) => Q (sgD x) Γ1 M1
  | _ => False
end
def e_aIzipS := @aIzipS.eq_def
def e_aIStr := @aIStr.eq_def
end Gw

namespace Gw
open PySem PySem.Spec L2 PyProof.Rows RZ
variable {ρ : Ent}
def EntD (w : World) (e : DictEntry) (q : Str × Str) : Prop := e.hash = PySem.hashStr w q.1 ∧ (∃ t, e.key = .str q.1 t) ∧ ∃ u, e.val = .str q.2 u
structure GloD (K : PySem.W.Frag) (w : World) (mg : Str → Option Value) (x : Str) (kvs : List (Str × Str)) : Prop where
  ex : ∃ p o es ep, mg x = some (.ref p) ∧ K.lookup p = some o ∧ o.ExactDict ∧ o.data = .dict es ep ∧ (p == sysModules) = false ∧ Paired (EntD w) es.toList kvs
  nd : (kvs.map (·.1)).Nodup
def lookD (kvs : List (Str × Str)) (k : Str) : Option Str := (kvs.find? fun q => q.1 = k).map (·.2)
theorem entD_keys {P : Program} {w : World} : ∀ {es : List DictEntry} {kvs : List (Str × Str)}, Paired (EntD w) es kvs → ∀ e ∈ es, ∃ k, (mixKind P w).is k e.key = true ∧ e.hash = (mixKind P w).hash k
  | _, _, .cons h t, e, he => by
    rcases List.mem_cons.mp he with rfl | he
    · obtain ⟨h1, ⟨t1, h2⟩, h3⟩ := h
      exact ⟨.inr _, by rw [h2]; exact mixKind_str P w _ _, h1⟩
    · exact entD_keys t e he
def entV (w : World) : List DictEntry → List (Str × Str) → List (Key × Value)
  | e :: es, q :: qs => (.inr q.1, e.val) :: entV w es qs
  | _, _ => []
theorem entV_pairs {P : Program} {w : World} : ∀ {es : List DictEntry} {kvs : List (Str × Str)}, Paired (EntD w) es kvs → Pairs (mixKind P w) es (entV w es kvs)
  | _, _, .nil => .nil
  | _, _, .cons h t => .cons (by obtain ⟨_, ⟨t1, h2⟩, _⟩ := h; rw [h2]; exact mixKind_str P w _ _) rfl (entV_pairs t)
theorem entV_keys {w : World} : ∀ {es : List DictEntry} {kvs : List (Str × Str)}, Paired (EntD w) es kvs → (entV w es kvs).map (·.1) = kvs.map fun q => .inr q.1
  | _, _, .nil => rfl
  | _, _, .cons h t => by simp only [entV, List.map_cons, entV_keys t]
theorem entV_kv {w : World} : ∀ {es : List DictEntry} {kvs : List (Str × Str)}, Paired (EntD w) es kvs → KV (kvs.map fun q => ((.inr q.1 : Key), V.str q.2)) (entV w es kvs)
  | _, _, .nil => .nil
  | _, _, .cons h t => .cons ⟨rfl, by obtain ⟨_, _, u, h3⟩ := h; exact ⟨u, h3⟩⟩ (entV_kv t)
theorem GloD.at {P : Program} {w : World} {K : PySem.W.Frag} {mg : Str → Option Value} {x : Str} {kvs : List (Str × Str)} (g : GloD K w mg x kvs) : ∃ p vs, mg x = some (.ref p) ∧ (p == sysModules) = false ∧ KV (kvs.map fun q => ((.inr q.1 : Key), V.str q.2)) vs ∧ ∀ h : Heap, K.In h → h.DictOf (mixKind P w) p vs := by
  obtain ⟨⟨p, o, es, ep, h1, h2, h3, h4, h5, h6⟩, nd⟩ := g
  refine ⟨p, entV w es.toList kvs, h1, h5, entV_kv h6, fun h hK => ⟨o, es, ep, hK _ _ h2, h3, h4, fun e he => entD_keys h6 e (Array.mem_def.mp he), entV_pairs h6, ?_⟩⟩
  rw [entV_keys h6, show (fun q : Str × Str => (.inr q.1 : Key)) = (Sum.inr ∘ fun q => q.1) from rfl, ← List.map_map]
  exact nd.map (f := Sum.inr) (R := (· ≠ ·)) fun a b h q => h (Sum.inr.inj q)
section
variable {X : Cx} {K : PySem.W.Frag} {a b : Expr} {x : Str} {kvs : List (Str × Str)} {pos p : Pos} {ty ta tb : TE} {aa ab : AE} {mg : Str → Option Value} {w : World}
def aGGet (kvs : List (Str × Str)) (ay : AE) (Γ : Sl) (M : Mem) (Q : Ret → Sl → Mem → Prop) : Prop := ay Γ M fun r Γ1 M1 => match r with
  | .dat (.str k) => match lookD kvs k with
    | some s => Q (.dat (.str s)) Γ1 M1
    | none => False
  | _ => False
def aGIn (f : Bool → Bool) (kvs : List (Str × Str)) (ay : AE) (Γ : Sl) (M : Mem) (Q : Ret → Sl → Mem → Prop) : Prop := ay Γ M fun r Γ1 M1 => match r with
  | .dat (.str k) => Q (.dat (.bl (f (lookD kvs k).isSome))) Γ1 M1
  | _ => False
theorem rep_strV {G : Hp} {y : Str} {v : V} (h : Rep K G (.str y) v) : v = .str y := by rw [Rep] at h; exact h
end
section
variable {X : Cx} {K : PySem.W.Frag} {o e : Expr} {td ty : TE} {ad ay : AE}
def aDUpd (ad ay : AE) (Γ : Sl) (M : Mem) (Q : Ret → Sl → Mem → Prop) : Prop := ad Γ M fun r Γ1 M1 => (dctOf r Γ1 M1).isSome = true ∧ ay Γ1 M1 fun ry Γ2 M2 => match ry with
  | .tmp (.dct js es) => match cget r Γ2 M2 with
    | some (.dct ks ds) => ks.length + js.length ≤ sizeLine ∧ cput r (.dct (mergeA (ks, ds) (js.zip es)).1 (mergeA (ks, ds) (js.zip es)).2) Γ2 M2 fun Γ3 M3 => Q (.dat .non) Γ3 M3
    | _ => False
  | _ => False
def e_aDUpd := @aDUpd.eq_def
def e_aGGet := @aGGet.eq_def
def e_aGIn := @aGIn.eq_def
end
end Gw

namespace Gw
open PySem L2
variable {ρ : Ent}
theorem takes_no {X : Cx} : Takes X (fun _ _ _ _ => False) := fun _ _ ⟨_, _, _, _, _, _, _, _, _, _, _, _, _, _, _, _, w⟩ => w.elim
theorem cn_no {K : PySem.W.Frag} : Conn K ρ (fun _ _ _ _ => False) (fun _ _ _ => False) := fun _ _ _ _ _ _ _ _ _ _ _ w => w.elim
end Gw

namespace Gw
open PySem L2
variable {ρ : Ent}
def aIenumA (ar : AA) (Γ : Sl) (M : Mem) (Q : List D → Sl → Mem → Prop) : Prop := aIenum ar Γ M Q ∨ aIenumT ar Γ M Q
def e_aIenumA := @aIenumA.eq_def
end Gw

namespace Gw
open PySem PySem.Spec L2 PyProof.Rows
variable {ρ : Ent}
def once {κ : Type} [DecidableEq κ] : List κ → List κ → List κ
  | acc, [] => acc
  | acc, x :: xs => once (if x ∈ acc then acc else acc ++ [x]) xs
section
variable {κ : Type} [DecidableEq κ]
end
section
variable {P : Program} {w : World} {A : Around} {R : Result → Shared → Prop} {I : Addr} {fp wr : List Addr} {G : Array GenState → Array GenState → Prop} {n : Nat} {Pv : Nat → Value → Prop} {St : Nat → Shared → Prop} {κ : Type} [DecidableEq κ]
end
section
variable {P : Program} {w : World} {A : Around} {E : Value → Shared → Prop} {s : Shared}
end
section
variable {X : Cx} {a : Expr} {ta : TE} {aa : AE} {pos : Pos} {K : PySem.W.Frag}
def strsD : List D → Option (List Str)
  | [] => some []
  | .str x :: ds => (strsD ds).map (x :: ·)
  | _ :: _ => none
theorem strsD_ok : ∀ {ds : List D} {xs : List Str}, strsD ds = some xs → ds = xs.map .str
  | [], xs, h => by cases h; rfl
  | .str x :: ds, xs, h => by
    obtain ⟨ys, e, rfl⟩ := Option.map_eq_some_iff.mp (show (strsD ds).map (x :: ·) = some xs from h)
    rw [strsD_ok e]; rfl
theorem strsD_map (xs : List Str) : strsD (xs.map .str) = some xs := by
  induction xs with
  | nil => rfl
  | cons x xs ih => show (strsD (xs.map .str)).map (x :: ·) = _; rw [ih]; rfl
def aLenSetS (r : Ret) (Γ : Sl) (M : Mem) (Q : Ret → Sl → Mem → Prop) : Prop := match sqOf r Γ M with
  | some (.lst ds) => match strsD ds with
    | some xs => xs.length ≤ 4000 ∧ Q (.dat (.int (once [] xs).length)) Γ M
    | none => False
  | some (.tup ds) => match strsD ds with
    | some xs => xs.length ≤ 4000 ∧ Q (.dat (.int (once [] xs).length)) Γ M
    | none => False
  | _ => False
end
def e_aLenSetS := @aLenSetS.eq_def
end Gw

namespace Gw
open PySem PySem.Spec L2 PyProof.Rows
variable {ρ : Ent}
section
variable {X : Cx} {a b o : Expr} {ta tb to : TE} {aa ab ao : AE} {pos : Pos} {K : PySem.W.Frag}
def leS (x y : Str) : Bool := !decide (y.cps.toList < x.cps.toList)
def aLeS (x : Ret) (y : Ret) (Γ : Sl) (M : Mem) (Q : Ret → Sl → Mem → Prop) : Prop := match x, y with
  | .dat (.str i), .dat (.str j) => Q (.dat (.bl (leS i j))) Γ M
  | _, _ => False
def aInSg (f : Bool → Bool) (x : Ret) (y : Ret) (Γ : Sl) (M : Mem) (Q : Ret → Sl → Mem → Prop) : Prop := match x, y with
  | .dat (.str x), .dat (.str z) => ∃ c : Nat, x = ⟨#[c]⟩ ∧ Q (.dat (.bl (f (decide (c ∈ z.cps.toList))))) Γ M
  | _, _ => False
theorem c_inSg : CmpR X ρ .In (fun x y H Q => ∃ (c : Nat) (z : Str), x = .str ⟨#[c]⟩ ∧ y = .str z ∧ Q (.bl (decide (c ∈ z.cps.toList))) H) (aInSg id) := ⟨op_in_sign, fun B σ H H1 H2 G Γ M rx ry x y Q R k r1 r2 h q => by
  unfold aInSg at h
  split at h
  · rename_i i j
    obtain ⟨c, rfl, h⟩ := h
    exact ⟨c, j, (by have := r1; simp only [RepR, Rep] at this; exact this), (by have := r2; simp only [RepR, Rep] at this; exact this), q _ H G Γ M (.dat (.bl _)) k .refl (by simp only [RepR, Rep]; rfl) h⟩
  · exact h.elim⟩
def aSumI (r : Ret) (Γ : Sl) (M : Mem) (Q : Ret → Sl → Mem → Prop) : Prop := match sqOf r Γ M with
  | some (.lst ds) => match intsD ds with
    | some ns => Q (.dat (.int ns.sum)) Γ M
    | none => False
  | _ => False
theorem q_sum {p : Pos} (hm : X.mg "sum" = none) (ha : QE X ρ a ta aa) (hc : X.calm = true := by rfl) (hg : Gl X "sum" := by rfl) (na : starEach [a] X.env = (false, eval a X.env) :: starEach [] X.env := by rfl) (hK : X.K = K := by rfl) :
    QE X ρ (.Call (.Name "sum" p) [a] [] pos) (tCB (rSum K) (tCons ta tNil)) (aCall1 aSumI aa) := by
  subst hK
  exact q_callB1 (cr_sum hc) (by
    intro B σ H H1 G Γ M rx x Q R k r1 h q
    unfold aSumI at h
    split at h
    · rename_i ds hs
      split at h
      · rename_i ns hn
        obtain ⟨l, xs, ev, hl, rl⟩ := sqOf_ok k r1 hs
        rw [intsD_ok hn] at rl
        rw [repL_map_int.mp rl] at hl
        exact ⟨l, ns, by rw [ev], SqL.of hl, q _ H G Γ M (.dat (.int _)) k .refl (by simp only [RepR, Rep]) h⟩
      · exact h.elim
    · exact h.elim) hm ha hg (by decide +kernel) (by decide) (by decide) na
def aSplit (ao ae : AE) (Γ : Sl) (M : Mem) (Q : Ret → Sl → Mem → Prop) : Prop := ao Γ M fun r Γ1 M1 => match r with
  | .dat (.str x) => ae Γ1 M1 fun r2 Γ2 M2 => match r2 with
    | .dat (.str y) => (y.length == 0) = false ∧ x.length + 2 ≤ 16777216 ∧ Q (.tmp (.lst ((Txt.split x y).map .str))) Γ2 M2
    | _ => False
  | _ => False
def aUpper (r : Ret) (Γ : Sl) (M : Mem) (Q : Ret → Sl → Mem → Prop) : Prop := match r with
  | .dat (.str x) => x.length ≤ 5592405 ∧ Q (.dat (.str (Txt.upper x))) Γ M
  | _ => False
end
structure CalD (P : Program) (w : World) (K : PySem.W.Frag) (mg : Str → Option Value) (base : Heap) (x : Str) (ps : List Str) (k : Nat) (S : ASp) (dds : List D) (dvs : List V) : Prop where
  ex : ∃ f fd ds, FnG P w K mg base CX0 k f fd ps (spA K ps.length S) ∧ mg x = some (.ref f) ∧ PySem.W.keepIn K (.ref f) = true ∧ Binds K fd ps ds ∧ Vals dvs ds ∧ (∀ G, RepL K G dds dvs) ∧ Ar ps.length S
def aCallD (S : ASp) (dds : List D) (ar : AA) : AE := aCall S fun Γ M Q => ar Γ M fun ds Γ1 M1 => Q (ds ++ dds) Γ1 M1
section
variable {X : Cx} {P : Program} {w : World} {K : PySem.W.Frag} {mg : Str → Option Value} {base : Heap} {k n : Nat} {ps : List Str} {S : ASp} {x : Str} {p pos : Pos} {a e : Expr} {es : List Expr} {tr : TA} {ar : AA} {dds : List D}
end
def e_aLeS := @aLeS.eq_def
def e_aInSg := @aInSg.eq_def
def e_aSumI := @aSumI.eq_def
def e_aSplit := @aSplit.eq_def
def e_aUpper := @aUpper.eq_def
def e_aCallD := @aCallD.eq_def
end Gw

namespace Gw
open PySem PySem.Spec L2 PyProof.Rows RT
variable {ρ : Ent}
section
variable {X : Cx} {a b : Expr} {ta tb : TE} {aa ab : AE} {pos : Pos} {K : PySem.W.Frag}
def aRepN (x : Ret) (y : Ret) (Γ : Sl) (M : Mem) (Q : Ret → Sl → Mem → Prop) : Prop := match x, y with
  | .dat (.tup ds), .dat (.int k) => (ds ≠ [] ∧ 0 ≤ k ∧ k ≤ 10000 ∧ ds.length ≤ 100) ∧ Q (.dat (.tup (List.replicate k.toNat ds).flatten)) Γ M
  | _, _ => False
def aListRg2 (aa ab : AE) (Γ : Sl) (M : Mem) (Q : Ret → Sl → Mem → Prop) : Prop := aa Γ M fun r Γ1 M1 => ab Γ1 M1 fun r2 Γ2 M2 => match r, r2 with
  | .dat (.int i), .dat (.int j) => (-(2 ^ 61) ≤ i ∧ i ≤ 2 ^ 61 ∧ -(2 ^ 61) ≤ j ∧ j ≤ 2 ^ 61 ∧ j - i ≤ 16777216) ∧ Q (.tmp (.lst (rngD i (j - i).toNat))) Γ2 M2
  | _, _ => False
def repS (x : Str) (n : Nat) : Str := ⟨(List.replicate n x.cps).foldl (· ++ ·) #[]⟩
def aMulS (x : Ret) (y : Ret) (Γ : Sl) (M : Mem) (Q : Ret → Sl → Mem → Prop) : Prop := match x, y with
  | .dat (.str s), .dat (.int k) => (2 ≤ k ∧ k ≤ 100 ∧ 1 ≤ s.length ∧ s.length ≤ 100) ∧ Q (.dat (.str (repS s k.toNat))) Γ M
  | _, _ => False
end
def e_aRepN := @aRepN.eq_def
def e_aListRg2 := @aListRg2.eq_def
def e_aMulS := @aMulS.eq_def
end Gw

namespace Gw
open PySem PySem.Spec L2 PyProof.Rows
variable {ρ : Ent}
section
variable {X : Cx} {a : Expr} {ta : TE} {aa : AE} {pos : Pos} {K : PySem.W.Frag}
def aIsi3 (A B C : Knd) (r : Ret) (Γ : Sl) (M : Mem) (Q : Ret → Sl → Mem → Prop) : Prop := match kdOf r Γ M with
  | some d => Q (.dat (.bl (isD A d || isD B d || isD C d))) Γ M
  | none => False
end
def e_aIsi3 := @aIsi3.eq_def
end Gw

namespace Gw
open PySem PySem.Spec L2 PyProof.Rows
variable {ρ : Ent}
section
variable {X : Cx} {a : Expr} {ta : TE} {aa : AE} {pos : Pos} {K : PySem.W.Frag}
def aLenTx (r : Ret) (Γ : Sl) (M : Mem) (Q : Ret → Sl → Mem → Prop) : Prop := match r with
  | .dat (.str x) => x.length ≤ 16777216 ∧ Q (.dat (.int x.length)) Γ M
  | _ => False
end
def e_aLenTx := @aLenTx.eq_def
end Gw

namespace Gw
open PySem L2 PyProof.Rows
variable {ρ : Ent}
structure ClsP (K : PySem.W.Frag) (cn : Str) (F : List Str) : Prop where
  ex : ∃ C, PySem.W.nsIn K mainGlobals cn = some (some (.ref C)) ∧ Cls K C ∧ ∀ f ∈ F, NoAttr K C f
def fldD (f : Str) (ns : List Str) (ds : List D) : Option D := (ns.zip ds).lookup f
def putN (f : Str) : List Str → List Str
  | [] => [f]
  | n :: ns => if n = f then n :: ns else n :: putN f ns
def putO (f : Str) (d : D) : List Str → List D → List D
  | [], _ => [d]
  | _ :: _, [] => []
  | n :: ns, e :: ds => if n = f then d :: ds else e :: putO f d ns ds
theorem put_rep {K : PySem.W.Frag} {G : Hp} {f : Str} {d : D} {y : V} (hd : Rep K G d y) : ∀ {ws : List (Str × V)} {ns : List Str} {ds : List D}, ws.map (·.1) = ns → RepL K G ds (ws.map (·.2)) →
    (putF f y ws).map (·.1) = putN f ns ∧ RepL K G (putO f d ns ds) ((putF f y ws).map (·.2))
  | [], _, ds, rfl, h => ⟨rfl, RepL.one hd⟩
  | (n, v) :: ws, _, [], rfl, h => by have := h.length; simp at this
  | (n, v) :: ws, _, e :: ds, rfl, h => by
    obtain ⟨x, r, ex, h1, h2⟩ := repL_cons.mp h
    simp only [List.map_cons, List.cons.injEq] at ex
    obtain ⟨rfl, rfl⟩ := ex
    obtain ⟨i1, i2⟩ := put_rep hd (ws := ws) rfl h2
    simp only [List.map_cons, putF, putN, putO]
    by_cases q : n = f
    · rw [if_pos q, if_pos q, if_pos q]
      exact ⟨rfl, repL_cons.mpr ⟨_, _, rfl, hd, h2⟩⟩
    · rw [if_neg q, if_neg q, if_neg q]
      exact ⟨by rw [List.map_cons, i1], repL_cons.mpr ⟨_, _, rfl, h1, i2⟩⟩
section
variable {X : Cx} {a o : Expr} {ta to : TE} {aa ao : AE} {pos : Pos} {K : PySem.W.Frag} {cn : Str} {F : List Str}
def aFld (cn f : Str) (r : Ret) (Γ : Sl) (M : Mem) (Q : Ret → Sl → Mem → Prop) : Prop := match r with
  | .dat (.ref a) => match M.lookup a with
    | some (.ins cn' ns ds) => cn' = cn ∧ match fldD f ns ds with
      | some d => Q (.dat d) Γ M
      | none => False
    | _ => False
  | _ => False
theorem q_fld {f : Str} (T : ClsP K cn F) (ha : QE X ρ a ta aa) (hf : f ∈ F := by decide) (hb : attributeBase a f X.env (eval a X.env) = eval a X.env := by rfl) (hK : X.K = K := by rfl) :
    QE X ρ (.Attribute a f pos) (tFld K ta f) (aUn (aFld cn f) aa) := by
  subst hK
  refine ⟨pe_fld ha.pe hb, fun B σ H G Γ M Q R' k h q => ha.rd B σ H G Γ M _ _ k h fun v H1 G1 Γ1 M1 r k1 e1 rr h1 => ?_⟩
  unfold aFld at h1
  split at h1
  · rename_i p
    split at h1
    · rename_i cn' ns ds hl
      obtain ⟨rfl, h1⟩ := h1
      split at h1
      · rename_i d hd
        have ev : v = .ref p := by have := (show Rep X.K G1 (.ref p) v from rr); rwa [Rep] at this
        subst ev
        obtain ⟨g0, u, hu, C, dx, ws, hn, rfl, hns, hr⟩ := k1.ms p _ (lookup_mem hl)
        obtain ⟨C', hn', cl, na⟩ := T.ex
        rw [hn] at hn'
        cases hn'
        obtain ⟨w, hw, rw'⟩ := lookup_rep hns hr hd
        exact ⟨p, C, dx, ws, w, rfl, hu, cl, na f hf, hw, q w H1 G1 Γ1 M1 (.dat d) k1 e1 rw' h1⟩
      · exact h1.elim
    · exact h1.elim
  · exact h1.elim
def aSetF (cn f : Str) (ae ao : AE) (A : AEnds) (Γ : Sl) (M : Mem) : Prop := ae Γ M fun r Γ0 M0 => frz r Γ0 fun d Γ1 => ao Γ1 M0 fun ro Γ2 M2 => match ro with
  | .dat (.ref a) => match M2.lookup a with
    | some (.ins cn' ns ds) => cn' = cn ∧ ns.length < 1000 ∧ A.nx Γ2 (mput M2 a (.ins cn' (putN f ns) (putO f d ns ds)))
    | _ => False
  | _ => False
theorem qs_fld {f : Str} {pos' : Pos} (T : ClsP K cn F) (h : QE X ρ a ta aa) (ho : QE X ρ o to ao) (hf : f ∈ F := by decide) (hs : swapsWith a (some (.Attribute o f pos')) pos.line X.env = pure false := by rfl) (hK : X.K = K := by rfl) :
    QS X ρ (.Assign [.Attribute o f pos'] a pos) (sFld K to ta f) (aSetF cn f aa ao) := by
  subst hK
  refine ⟨ps_fld ho.pe h.pe hs, fun B σ H G Γ M A E k hh s => h.rd B σ H G Γ M _ _ k hh fun v H1 G1 Γ1 M1 r k1 e1 rr h1 => ?_⟩
  obtain ⟨G2, Γ2, d, k2, e2, rp, h2⟩ := frz_ok (H0 := H) k1 e1 rr h1
  refine ho.rd B σ H1 G2 Γ2 M1 _ _ k2 h2 fun ov H3 G3 Γ3 M3 ro k3 e3 rro h3 => ?_
  split at h3
  · rename_i p
    split at h3
    · rename_i cn' ns ds hl
      obtain ⟨rfl, hz, h3⟩ := h3
      have ev : ov = .ref p := by have := (show Rep X.K G3 (.ref p) ov from rro); rwa [Rep] at this
      subst ev
      obtain ⟨g0, u, hu, C, dx, ws, hn, rfl, hns, hr⟩ := k3.ms p _ (lookup_mem hl)
      obtain ⟨C', hn', cl, na⟩ := T.ex
      have ec := hn'
      rw [hn] at ec
      cases ec
      have pr := put_rep (f := f) (rp.mono e3.g) hns hr
      have hg : cget (.dat (.ref p)) Γ3 M3 = some (.ins cn' ns ds) := hl
      obtain ⟨Γ5, M5, k5, e6, hq⟩ := cput_ok (c' := .ins cn' (putN f ns) (putO f d ns ds)) (o' := .ins C dx (putF f v ws)) (kk := A.nx) k3 rro hg ⟨C, dx, _, hn, rfl, pr.1, pr.2⟩ h3
      exact ⟨p, C, dx, ws, rfl, hu, cl, na f hf, by rw [← List.length_map (f := (·.1)), hns]; exact hz, s.nx σ _ G3 Γ5 M5 k5 hq⟩
    · exact h3.elim
  · exact h3.elim
section
variable {CX : CXT} {k : Nat} {C f : Addr} {fd : FuncData} {ps : List Str} {sp : Sp} {E : XK} {m : Str} {apos : Pos} {e : Expr} {es : List Expr} {t : TA}
theorem pe_methG {pl : Sem Bool} (he : PE X o ta) (c : Cls X.K C) (hm : Meth X.K C m f) (F : FnG X.prog X.w X.K X.mg X.base CX k f fd ps sp) (room : Room k X.A) (gd : X.A.guards = some []) (hb : Binds X.K fd ps []) (hx : Passes CX X E) (ha : PA X (e :: es) t)
    (hst : starEach (e :: es) X.env = (false, eval e X.env) :: starEach es X.env) (hpl : (backTo pos (starEach es X.env)).any (·.1) = false)
    (ht : eval (.Call (.Attribute o m apos) (e :: es) [] pos) X.env = (do
      let ov ← eval o X.env
      standAt apos.atName
      let (f, first) ← holding [ov] (getMethod ov m pl)
      callWith pos f first (backTo pos (starEach (e :: es) X.env)) (backToKw pos (keywordEach [] X.env)))) :
    PE X (.Call (.Attribute o m apos) (e :: es) [] pos) (tMeth C m sp [] E ta t) := by
  refine ⟨fun pins s σ H Q I h => ?_⟩
  refine PySem.W.methodCall_KW (pl := pl) (thn (he.run pins s σ H _ I h) fun u s1 ⟨x, H1, I1, rx, a, dx, fs, ex, ea, l, q⟩ => ?_) ht
  subst ex
  obtain rfl : u = Value.ref a := rx
  refine getmeth_ok I1 ea c hm l ?_
  refine PySem.W.callWith_K (first := [.ref a]) (h₀ := X.base) I.ok.mod.kin hm.kp (thn (ha.run pos pins s1 σ H1 _ I1 q) fun us s2 ⟨vs, H2, I2, r, q2⟩ => ⟨I2.kIn, ?_⟩) hst hpl
  have q2 : sp (.ref a :: (vs ++ [])) H2 Q E := q2
  rw [List.append_nil] at q2
  have r2 : Vals (.ref a :: vs) (.ref a :: us) := .cons rfl r
  have hl : (Value.ref a :: us).length = ps.length := by rw [← r2.length]; exact F.arity _ _ _ _ q2
  have b := hb s2 (.ref a :: us) I2.kIn (by rw [List.append_nil]; exact hl)
  rw [List.append_nil] at b
  exact callG (us := .ref a :: us) (ks := []) (ws := []) F room gd hx I2 b r2 q2
theorem pe_methG0 {pl : Sem Bool} (he : PE X o ta) (c : Cls X.K C) (hm : Meth X.K C m f) (F : FnG X.prog X.w X.K X.mg X.base CX k f fd ps sp) (room : Room k X.A) (gd : X.A.guards = some []) (hb : Binds X.K fd ps []) (hx : Passes CX X E)
    (ht : eval (.Call (.Attribute o m apos) [] [] pos) X.env = (do
      let ov ← eval o X.env
      standAt apos.atName
      let (f, first) ← holding [ov] (getMethod ov m pl)
      callWith pos f first (backTo pos (starEach [] X.env)) (backToKw pos (keywordEach [] X.env)))) :
    PE X (.Call (.Attribute o m apos) [] [] pos) (tMeth C m sp [] E ta tNil) := by
  refine ⟨fun pins s σ H Q I h => ?_⟩
  refine PySem.W.methodCall_KW (pl := pl) (thn (he.run pins s σ H _ I h) fun u s1 ⟨x, H1, I1, rx, a, dx, fs, ex, ea, l, q⟩ => ?_) ht
  subst ex
  obtain rfl : u = Value.ref a := rx
  refine getmeth_ok I1 ea c hm l ?_
  have q2 : sp [.ref a] H1 Q E := q
  have r2 : Vals [.ref a] [.ref a] := .cons rfl .nil
  have hl : [Value.ref a].length = ps.length := by rw [← r2.length]; exact F.arity _ _ _ _ q2
  have b := hb s1 [.ref a] I1.kIn (by rw [List.append_nil]; exact hl)
  rw [List.append_nil] at b
  exact PySem.W.callWith_K0 (first := [.ref a]) I1.kIn hm.kp (callG (us := [.ref a]) (ks := []) (ws := []) F room gd hx I1 b r2 q2)
end
structure CalM (P : Program) (w : World) (K : PySem.W.Frag) (mg : Str → Option Value) (base : Heap) (cn m : Str) (ps : List Str) (k : Nat) (S : ASp) : Prop where
  cl : PySem.W.nsIn K mainGlobals cn = some (some (.ref (clsAd K cn)))
  ok : Cls K (clsAd K cn)
  ex : ∃ f fd, Meth K (clsAd K cn) m f ∧ FnG P w K mg base CX0 k f fd ps (spA K ps.length S) ∧ Binds K fd ps [] ∧ Ar ps.length S
def aMethO (cn m : Str) (S : ASp) (ao : AE) (aa : AA) (Γ : Sl) (M : Mem) (Q : Ret → Sl → Mem → Prop) : Prop := ao Γ M fun r Γ1 M1 => match r with
  | .dat (.ref a) => match M1.lookup a with
    | some (.ins cn' ns _) => cn' = cn ∧ m ∉ ns ∧ aa Γ1 M1 fun es Γ2 M2 => ap S (.ref a :: es) M2 (fun r M3 => Q r Γ2 M3) ⟨⟩
    | _ => False
  | _ => False
theorem no_fld {m : Str} : ∀ {ws : List (Str × V)}, m ∉ ws.map (·.1) → ws.lookup m = none
  | [], _ => rfl
  | (n, v) :: ws, h => by
    rw [List.map_cons, List.mem_cons, not_or] at h
    rw [List.lookup_cons, show (m == n) = false from by simpa using h.1]
    exact no_fld h.2
theorem rd_methO {n : Nat} {m : Str} {S : ASp} {E : XK} {C : Addr} {tr : TA} {ar : AA} (hC : PySem.W.nsIn K mainGlobals cn = some (some (.ref C))) (hn : Ar n S) (ho : RdE K ρ to ao) (ha : RdA K ρ tr ar) : RdE K ρ (tMeth C m (spA K n S) [] E to tr) (aMethO cn m S ao ar) := by
  intro B σ H G Γ M Q R k h q
  refine ho B σ H G Γ M _ _ k h fun v H0 G0 Γ0 M0 r k0 e0 rr h0 => ?_
  split at h0
  · rename_i p
    split at h0
    · rename_i cn' ns ds hl
      obtain ⟨rfl, hm, h0⟩ := h0
      have ev : v = .ref p := by have := (show Rep K G0 (.ref p) v from rr); rwa [Rep] at this
      subst ev
      obtain ⟨g0, u, hu, C', dx, ws, hn', rfl, hns, hr⟩ := k0.ms p _ (lookup_mem hl)
      rw [hC] at hn'
      cases hn'
      refine ⟨p, dx, ws, rfl, hu, no_fld (by rw [hns]; exact hm), ha B σ H0 G0 Γ0 M0 _ _ k0 h0 fun vs H1 G1 Γ1 M1 es k1 e1 rl h1 => ?_⟩
      have rl2 : RepL K G1 (.ref p :: es) (.ref p :: vs) := repL_cons.mpr ⟨_, _, rfl, by rw [Rep], rl⟩
      refine ⟨G1, M1, .ref p :: es, by rw [List.append_nil, rl2.length]; exact hn _ _ _ h1, k1.ex, k1.nd, k1.ms, by rw [List.append_nil]; exact rl2, _, h1, fun r M' v H' G' hq pp rr => ?_⟩
      obtain ⟨k2, e2, r2⟩ := k1.call pp rr
      exact q _ H' G' Γ1 M' r k2 ((e0.trans e1).trans e2) (r2.old fun a z => e0.nn a (e1.nn a z)) hq
    · exact h0.elim
  · exact h0.elim
section
variable {P : Program} {w : World} {mg : Str → Option Value} {base : Heap} {k : Nat} {ps : List Str} {S : ASp} {m : Str} {apos : Pos} {e : Expr} {es : List Expr} {tr : TA} {ar : AA}
theorem q_methC {pl : Sem Bool} (T : CalM P w K mg base cn m ps k S) (room : Room k X.A) (gd : X.A.guards = some []) (ho : QE X ρ o to ao) (ha : QA X ρ (e :: es) tr ar) (hX : At X P w K mg base := by exact ⟨rfl, rfl, rfl, rfl, rfl⟩)
    (hst : starEach (e :: es) X.env = (false, eval e X.env) :: starEach es X.env := by rfl) (hpl : (backTo pos (starEach es X.env)).any (·.1) = false := by rfl)
    (ht : eval (.Call (.Attribute o m apos) (e :: es) [] pos) X.env = (do
      let ov ← eval o X.env
      standAt apos.atName
      let (f, first) ← holding [ov] (getMethod ov m pl)
      callWith pos f first (backTo pos (starEach (e :: es) X.env)) (backToKw pos (keywordEach [] X.env))) := by rfl) :
    QE X ρ (.Call (.Attribute o m apos) (e :: es) [] pos) (tMeth (clsAd K cn) m (spA K ps.length S) [] E0 to tr) (aMethO cn m S ao ar) := by
  obtain ⟨f, fd, hm, F, hb, hn⟩ := T.ex
  have hC := T.cl
  have cl := T.ok
  obtain ⟨h1, h2, h3, h4, h5⟩ := hX
  subst h1 h2 h3 h4 h5
  exact ⟨pe_methG ho.pe cl hm F room gd hb pass0 ha.pe hst hpl ht, rd_methO hC hn ho.rd ha.rd⟩
theorem q_methC0 {pl : Sem Bool} (T : CalM P w K mg base cn m ps k S) (room : Room k X.A) (gd : X.A.guards = some []) (ho : QE X ρ o to ao) (hX : At X P w K mg base := by exact ⟨rfl, rfl, rfl, rfl, rfl⟩)
    (ht : eval (.Call (.Attribute o m apos) [] [] pos) X.env = (do
      let ov ← eval o X.env
      standAt apos.atName
      let (f, first) ← holding [ov] (getMethod ov m pl)
      callWith pos f first (backTo pos (starEach [] X.env)) (backToKw pos (keywordEach [] X.env))) := by rfl) :
    QE X ρ (.Call (.Attribute o m apos) [] [] pos) (tMeth (clsAd K cn) m (spA K ps.length S) [] E0 to tNil) (aMethO cn m S ao aNil) := by
  obtain ⟨f, fd, hm, F, hb, hn⟩ := T.ex
  have hC := T.cl
  have cl := T.ok
  obtain ⟨h1, h2, h3, h4, h5⟩ := hX
  subst h1 h2 h3 h4 h5
  exact ⟨pe_methG0 ho.pe cl hm F room gd hb pass0 ht, rd_methO hC hn ho.rd rd_nil⟩
end
structure CalI (P : Program) (w : World) (K : PySem.W.Frag) (mg : Str → Option Value) (base : Heap) (cn : Str) (ps : List Str) (k : Nat) (S : ASp) : Prop where
  cl : PySem.W.nsIn K mainGlobals cn = some (some (.ref (clsAd K cn)))
  gm : mg cn = some (.ref (clsAd K cn))
  ex : ∃ f fd, Mk K (clsAd K cn) f ∧ FnG P w K mg base CX0 k f fd ps (spA K ps.length S) ∧ Binds K fd ps [] ∧ Ar ps.length S
def aMake (cn : Str) (S : ASp) (aa : AA) (Γ : Sl) (M : Mem) (Q : Ret → Sl → Mem → Prop) : Prop := aa Γ M fun es Γ1 M1 => ∀ p, p ∉ dom M1 → ap S (.ref p :: es) ((p, .ins cn [] []) :: M1) (fun r M2 => match r with
  | .dat .non => Q (.dat (.ref p)) Γ1 M2
  | _ => False) ⟨⟩
theorem rd_make {n : Nat} {S : ASp} {E : XK} {tr : TA} {ar : AA} (hC : PySem.W.nsIn K mainGlobals cn = some (some (.ref (clsAd K cn)))) (hn : Ar n S) (ha : RdA K ρ tr ar) : RdE K ρ (tMake (clsAd K cn) (spA K n S) [] E tr) (aMake cn S ar) := by
  intro B σ H G Γ M Q R k h q
  refine ha B σ H G Γ M _ _ k h fun vs H1 G1 Γ1 M1 es k1 e1 rl h1 => fun x dx nx ndx ne => ?_
  obtain ⟨k2, e2, m2, n2, b2, g2⟩ := k1.tmp (o := .own x) ndx
  have nx2 : upd H1 dx (.own x) x = none := by rw [upd_ne ne.symm]; exact nx
  obtain ⟨k3, e3, m3, n3, b3, g3⟩ := k2.tmp (o := .ins (clsAd K cn) dx []) nx2
  have cl : Cel K (upd (upd H1 dx (.own x)) x (.ins (clsAd K cn) dx [])) G1 x (.ins cn [] []) := ⟨g3, _, upd_same, _, dx, [], hC, rfl, rfl, repL_nil.mpr rfl⟩
  have k4 := k3.share b3 cl m3 n3
  have e := (e1.trans e2).trans e3
  have e4 : Es σ H G Γ M (upd (upd H1 dx (.own x)) x (.ins (clsAd K cn) dx [])) G1 Γ1 ((x, .ins cn [] []) :: M1) := ⟨e.g, fun y o hy g m n => by
    obtain ⟨c1, c2, c3, c4⟩ := e.tmp y o hy g m n
    refine ⟨c1, c2, fun z => ?_, c4⟩
    rcases List.mem_cons.mp z with z | z
    · have : H x = none := e1.nn x nx
      rw [show y = x from z, this] at hy
      cases hy
    · exact c3 z, e.nn⟩
  have rl2 : RepL K G1 (.ref x :: es) (.ref x :: vs) := repL_cons.mpr ⟨_, _, rfl, by rw [Rep], rl⟩
  have hs := h1 x m3
  refine ⟨G1, (x, .ins cn [] []) :: M1, .ref x :: es, by rw [List.append_nil, rl2.length]; exact hn _ _ _ hs, k4.ex, k4.nd, k4.ms, by rw [List.append_nil]; exact rl2, _, hs, fun r M' v H' G' hq pp rr => ?_⟩
  obtain ⟨k5, e5, r5⟩ := k4.call pp rr
  split at hq
  · have ev : v = .non := by have := (show Rep K G' .non v from rr); rwa [Rep] at this
    exact ⟨ev, q _ H' G' Γ1 M' (.dat (.ref x)) k5 (e4.trans e5) (by simp only [RepR, Rep]) hq⟩
  · exact hq.elim
section
variable {CX : CXT} {k : Nat} {C f : Addr} {fd : FuncData} {ps : List Str} {sp : Sp} {E : XK} {x : Str} {p : Pos} {e : Expr} {es : List Expr} {t : TA}
theorem make_guards {A : Around} {C : Addr} {us : List Value} (gd : A.guards = some []) : (A.under (.builtin "type.__call__" ⟨.ref C :: us, []⟩)).guards = some [] := by
  have ng : (Code.builtin "type.__call__" ⟨.ref C :: us, []⟩).isGuard = false := by show guardIds.contains "type.__call__" = false; decide
  simp only [Around.under, Code.guards, ng, gd, Bool.false_eq_true, if_false, pushGuards]
theorem run_makeG {pins : List (Addr × Obj)} {σ : L2.St} {H : Hp} {s : Shared} {Q : VK} {us : List Value} {vs : List V} (M : Mk X.K C f) (F : FnG X.prog X.w X.K X.mg X.base CX k f fd ps sp) (hr : Room (k + 1) X.A) (gd : X.A.guards = some []) (hb : Binds X.K fd ps [])
    (hx : Passes CX X E) (I : Inv X pins σ H s) (r : Vals vs us)
    (h : ∀ x dx, H x = none → H dx = none → dx ≠ x → sp (.ref x :: (vs ++ [])) (upd (upd H dx (.own x)) x (.ins C dx [])) (fun v H2 => v = .non ∧ Q (.ref x) H2) E) :
    wpAny (model X.prog X.w) X.A (call (.ref C) us) (EP X pins σ Q) X.xe s := by
  have hq := h (s.heap.objs.size + 1) s.heap.objs.size (I.hok.fresh (Nat.le_succ _)) (I.hok.fresh (Nat.le_refl _)) (Nat.ne_of_lt (Nat.lt_succ_self _))
  rw [List.append_nil] at hq
  have I2 := Inv.made (C := C) I
  have r2 : Vals (V.ref (s.heap.objs.size + 1) :: vs) (Value.ref (s.heap.objs.size + 1) :: us) := .cons rfl r
  have hl : (Value.ref (s.heap.objs.size + 1) :: us).length = ps.length := by rw [← r2.length]; exact F.arity _ _ _ _ hq
  have b := hb _ (Value.ref (s.heap.objs.size + 1) :: us) I2.kIn (by rw [List.append_nil]; exact hl)
  rw [List.append_nil] at b
  refine wpAny_call (make_map (f := f) I.kIn M.makes M.init (beq_iff_eq.mp M.fn) (codeAny_mono (F.go _ X.stack _ _ ⟨Value.ref (s.heap.objs.size + 1) :: us, []⟩ (Value.ref (s.heap.objs.size + 1) :: us) _ _ E (hr.make C us []) (make_guards gd)
    (I2.env0.make C us []) b r2 hq) fun r s' hq' => ?_))
  cases r with
  | error e => exact hx pins σ _ _ e s' I2 hq'
  | ok fl =>
    cases fl with
    | ret u =>
      obtain ⟨v, H', I3, rv, ev, q3⟩ := I2.after hq'
      subst ev
      exact ⟨rv, ⟨V.ref (s.heap.objs.size + 1), H', I3, rfl, q3⟩⟩
    | next => exact False.elim hq'
    | brk => exact False.elim hq'
    | cont => exact False.elim hq'
end
section
variable {P : Program} {w : World} {mg : Str → Option Value} {base : Heap} {k : Nat} {ps : List Str} {S : ASp} {x : Str} {p : Pos} {e : Expr} {es : List Expr} {tr : TA} {ar : AA}
theorem q_makeC (T : CalI P w K mg base cn ps k S) (hr : Room (k + 1) X.A) (gd : X.A.guards = some []) (ha : QA X ρ (e :: es) tr ar) (hX : At X P w K mg base := by exact ⟨rfl, rfl, rfl, rfl, rfl⟩) (hg : Gl X cn := by rfl) (hdb : (cn == ("__debug__" : Str)) = false := by decide)
    (he : starEach (e :: es) X.env = (false, eval e X.env) :: starEach es X.env := by rfl) (hpl : (backTo pos (starEach es X.env)).any (·.1) = false := by rfl) :
    QE X ρ (.Call (.Name cn p) (e :: es) [] pos) (tMake (clsAd K cn) (spA K ps.length S) [] E0 tr) (aMake cn S ar) := by
  obtain ⟨f, fd, M, F, hb, hn⟩ := T.ex
  have hC := T.cl
  have hm := T.gm
  obtain ⟨h1, h2, h3, h4, h5⟩ := hX
  subst h1 h2 h3 h4 h5
  refine ⟨⟨fun pins s σ H Q I h => ?_⟩, rd_make hC hn ha.rd⟩
  refine wpAny_Call_Name_kw (ld_glob I hg hm ?_ hdb)
  refine PySem.W.callWith_K (h₀ := X.base) I.ok.mod.kin M.kp (thn (ha.pe.run pos pins s σ H _ I h) fun us s1 ⟨vs, H1, I1, r, q⟩ => ⟨I1.kIn, ?_⟩) he hpl
  exact run_makeG M F hr gd hb pass0 I1 r q
end
end
def e_aFld := @aFld.eq_def
def e_aSetF := @aSetF.eq_def
def e_aMethO := @aMethO.eq_def
def e_aMake := @aMake.eq_def
end Gw

namespace Gw
open PySem L2 PyProof.Rows
variable {ρ : Ent}
section
variable {X : Cx} {tg a b c : Expr} {ta tb tc : TE} {aa ab ac : AE} {pos : Pos} {K : PySem.W.Frag} {B : Ent} {σ : L2.St} {H G H1 G1 H2 G2 : Hp} {Γ Γ1 Γ2 : Sl} {M M1 M2 : Mem}
def aFz (aa : AE) (Γ : Sl) (M : Mem) (Q : Ret → Sl → Mem → Prop) : Prop := aa Γ M fun r Γ1 M1 => frz r Γ1 fun d Γ2 => Q (.dat d) Γ2 M1
def aIKeys (aa : AE) (Γ : Sl) (M : Mem) (Q : List D → Sl → Mem → Prop) : Prop := aa Γ M fun r Γ1 M1 => match r with
  | .dat (.dct ks ds) => Q (ks.map kD) Γ1 M1
  | _ => False
def aSDef (ad ay ax : AE) (Γ : Sl) (M : Mem) (Q : Ret → Sl → Mem → Prop) : Prop := ad Γ M fun r Γ1 M1 => (dctOf r Γ1 M1).isSome = true ∧ ay Γ1 M1 fun ry Γ2 M2 => ax Γ2 M2 fun rz Γ3 M3 => match ry with
  | .dat y => match rz with
    | .tmp c => match r with
      | .dat (.ref a) => match keyD y with
        | some k => match M3.lookup a with
          | some (.dct ks ds) => ks.length < sizeLine ∧ match getA ks ds k with
            | some d => Q (.dat d) Γ3 M3
            | none => ∀ p, p ∉ dom M3 → Q (.dat (.ref p)) Γ3 ((p, c) :: mput M3 a (.dct (putA (ks, ds) k (.ref p)).1 (putA (ks, ds) k (.ref p)).2))
          | _ => False
        | none => False
      | _ => False
    | _ => False
  | _ => False
end
section
variable {X : Cx} {kx vx tg iter : Expr} {ifs : List Expr} {pos : Pos} {tk tv : TE} {ak av : AE} {K : PySem.W.Frag} {vs : List Nat}
def aKcL (g : AG) (tt : AT) (ak av : AE) (vs : List Nat) (k : List L2.Key × List D → Sl → Mem → Prop) : List D → List L2.Key × List D → Sl → Mem → Prop
  | [], t, Γ, M => k t Γ M
  | d :: ds, t, Γ, M => g d Γ fun Γ1 => tt Γ1 M fun b Γ2 M2 => if b = true then ak Γ2 M2 fun rk Γ3 M3 => match rk with
      | .dat y => match keyD y with
        | some key => av Γ3 M3 fun rv Γ4 M4 => frz rv Γ4 fun e Γ5 => t.1.length < sizeLine ∧ aKcL g tt ak av vs k ds (putA t key e) (wipeS Γ5 vs) M4
        | none => False
      | _ => False
    else aKcL g tt ak av vs k ds t (wipeS Γ2 vs) M2
structure WitK (k : List L2.Key × List D → Sl → Mem → Prop) : Type where
def kcW (g : AG) (tt : AT) (ak av : AE) (vs : List Nat) (k : List L2.Key × List D → Sl → Mem → Prop) (_ : WitK k) (ds : List D) (t : List L2.Key × List D) (Γ : Sl) (M : Mem) : Prop := aKcL g tt ak av vs k ds t Γ M
def aDcK (ai : AI) (g : AG) (tt : AT) (ak av : AE) (vs : List Nat) (Γ : Sl) (M : Mem) (Q : Ret → Sl → Mem → Prop) : Prop := ai Γ M fun ds Γ1 M1 => kcW g tt ak av vs (fun t Γ2 M2 => Q (.tmp (.dct t.1 t.2)) Γ2 M2) ⟨⟩ ds ([], []) (wipeS Γ1 vs) M1
end
def e_aFz := @aFz.eq_def
def e_aIKeys := @aIKeys.eq_def
def e_aSDef := @aSDef.eq_def
def e_aDcK := @aDcK.eq_def
end Gw

namespace Gw
open PySem L2 PyProof.Rows
variable {ρ : Ent}
def wkX (Z : Xc → Mem → Prop) (x : Xc) (M : Mem) : Prop := ∃ M', List.Sublist M' M ∧ Z x M'
theorem wkX_same {Z : Xc → Mem → Prop} {x : Xc} {M : Mem} (h : Z x M) : wkX Z x M := ⟨M, .refl _, h⟩
theorem wk_of {Q : Ret → Mem → Prop} {r : Ret} {M : Mem} (N : Mem) (h : Q r M) : wk Q r (N ++ M) := ⟨M, List.sublist_append_right _ _, h⟩
section
variable {P : Program} {w : World} {K : PySem.W.Frag} {mg : Str → Option Value} {base : Heap}
theorem fn_okXW {k : Nat} {x qual : Str} {st : Stmt} {f : Addr} {fd : FuncData} {N ps : List Str} {S : ASx} (F : Fun K x qual st f fd) (sc : FnScope N ps (defScope st)) (hn : ArX ps.length S) {as : XW → AS}
    (hb : ∀ (ρ : Ent) (cd : Value) (A : Around) (outer : List Env) (s : Shared) (H : Hp) (E : XK) (xw : XW), Room k (A.deeper (envOfC qual (defScope st) s.heap.objs.size f cd)) → A.guards = some [] → Conn K ρ (fun cls d _ H => E cls d H) xw →
      ∃ ts, QSs (cxOf (L2.CX P w) P w K mg base N qual (defScope st) f cd A outer s H E) ρ (defBody st) ts (as xw))
    (hr : ∀ ds M Q Z, S ds M Q Z → as (fun x _ M => wkX Z x M) (endsOf (wk Q)) (slots N.length ds) M) : FnG P w K mg base (L2.CX P w) (k + 1) f fd ps (spX K ps.length S) := by
  have F0 := fn_okX (S := fun ds M Q' Z' => ∃ Q Z, S ds M Q Z ∧ Q' = wk Q ∧ Z' = wkX Z) F sc (fun ds M Q' Z' ⟨Q, Z, h, _⟩ => hn ds M Q Z h) hb (fun ds M Q' Z' ⟨Q, Z, h, e1, e2⟩ => by rw [e1, e2]; exact hr ds M Q Z h)
  refine F0.weaken ?_
  rintro vs H Q E ⟨G, M, ds, hl, ex, nd, ms, rl, Qa, Xa, hS, fin, finX⟩
  refine ⟨G, M, ds, hl, ex, nd, ms, rl, wk Qa, wkX Xa, ⟨Qa, Xa, hS, rfl, rfl⟩, ?_, ?_⟩
  · rintro r M' v H' G' ⟨M2, hs, hq⟩ po ro
    exact fin r M2 v H' G' hq (po.sub hs) (ro.sub hs)
  · rintro x M' cls d H' G' ⟨M2, hs, hq⟩ po rx
    exact finX x M2 cls d H' G' hq (po.sub hs) rx
end
def aPar3O (aa ab ac : AE) (i j l : Nat) (A : AEnds) (Γ : Sl) (M : Mem) : Prop := aa Γ M fun r Γ1 M1 => frz r Γ1 fun d Γ2 => ab Γ2 M1 fun r2 Γ3 M3 => match r2 with
  | .tmp c => ac Γ3 M3 fun r3 Γ4 M4 => frz r3 Γ4 fun e Γ5 => A.nx (((Γ5.set i (.dat d)).set j (.own c)).set l (.dat e)) M4
  | _ => False
def e_aPar3O := @aPar3O.eq_def
end Gw

namespace Gw
open PySem PySem.Spec PyProof.Rows L2
section
variable {X : Cx}
end
section
variable {X : Cx} {ρ : Ent} {a b : Expr} {ta tb : TE} {aa ab : AE} {ta' tb' : TA} {aa' ab' : AA} {pos kpos : Pos} {K : PySem.W.Frag}
def aMaxDf (x : AE) (y : AE) (Γ : Sl) (M : Mem) (Q : Ret → Sl → Mem → Prop) : Prop := aCons x aNil Γ M fun xs Γ1 M1 => aCons y aNil Γ1 M1 fun zs Γ2 M2 => match xs, zs with
  | [.lst ds], [.int d] => match intsOf ds with
    | some ns => (ns = [] → Q (.dat (.int d)) Γ2 M2) ∧ ∀ m, m ∈ ns → (∀ y, y ∈ ns → y ≤ m) → Q (.dat (.int m)) Γ2 M2
    | none => False
  | _, _ => False
def e_aMaxDf := @aMaxDf.eq_def
end
end Gw

namespace Gw
open PySem PySem.Spec PyProof.Rows L2
open PySem.W (EachIs AllAlike Sortable dataLe)
variable {ρ : Ent}
section
variable {X : Cx} {L : List RE}
end
section
variable {X : Cx} {a : Expr} {ta : TE} {aa : AE} {pos : Pos} {K : PySem.W.Frag}
def aSortTB (r : Ret) (Γ : Sl) (M : Mem) (Q : Ret → Sl → Mem → Prop) : Prop := match dcTOf r Γ M with
  | some t => (∀ r ∈ t.1, r ≠ []) ∧ ∀ os : List (List Int), os.Pairwise (fun r q => HT.lexLt r q = true) → os.Perm t.1 → Q (.tmp (.lst (os.map rowD))) Γ M
  | none => False
def e_aSortTB := @aSortTB.eq_def
end
end Gw

namespace Gw
open PySem PySem.Spec L2 PyProof.Rows
variable {ρ : Ent}
def idxD (ds : List D) (e : D) : Option Nat := ds.findIdx? fun z => eqD z e
def aIdx (tup : Bool) (aa ab : AE) (Γ : Sl) (M : Mem) (Q : Ret → Sl → Mem → Prop) : Prop := aa Γ M fun r Γ1 M1 => frz r Γ1 fun d Γ2 => (match d, tup with
  | .tup _, true => True
  | .lst _, false => True
  | _, _ => False) ∧ ab Γ2 M1 fun r2 Γ3 M3 => frz r2 Γ3 fun e Γ4 => match d with
    | .tup ds => cmpOk (.lst ds) = true ∧ cmpOk e = true ∧ ∃ j, idxD ds e = some j ∧ Q (.dat (.int (j : Nat))) Γ4 M3
    | .lst ds => cmpOk (.lst ds) = true ∧ cmpOk e = true ∧ ∃ j, idxD ds e = some j ∧ Q (.dat (.int (j : Nat))) Γ4 M3
    | _ => False
end Gw
namespace Gw
open PySem PySem.Spec L2 PyProof.Rows
variable {ρ : Ent}
section
variable {X : Cx} {o e : Expr} {to te : TE} {ao ae : AE} {apos cpos : Pos} {K : PySem.W.Frag}
end
end Gw
namespace Gw
def e_aIdx := @aIdx.eq_def
end Gw

namespace Gw
open PySem PySem.Spec L2 PyProof.Rows
variable {ρ : Ent}
def cntD (ds : List D) (e : D) : Nat := ds.countP fun z => eqD z e
def aCount (aa ab : AE) (Γ : Sl) (M : Mem) (Q : Ret → Sl → Mem → Prop) : Prop := aa Γ M fun r Γ1 M1 => frz r Γ1 fun d Γ2 => (match d with
  | .lst _ => True
  | _ => False) ∧ ab Γ2 M1 fun r2 Γ3 M3 => frz r2 Γ3 fun e Γ4 => match d with
    | .lst ds => cmpOk (.lst ds) = true ∧ cmpOk e = true ∧ Q (.dat (.int (cntD ds e : Nat))) Γ4 M3
    | _ => False
section
variable {X : Cx} {o e : Expr} {to te : TE} {ao ae : AE} {apos cpos : Pos} {K : PySem.W.Frag}
end
def e_aCount := @aCount.eq_def
end Gw

namespace Gw
open PySem PySem.Spec L2 PyProof.Rows
variable {ρ : Ent}
def aIntS (r : Ret) (Γ : Sl) (M : Mem) (Q : Ret → Sl → Mem → Prop) : Prop := match r with
  | .dat (.str x) => ∃ n, PySem.intText? x = some n ∧ x.length ≤ 640 ∧ Q (.dat (.int n)) Γ M
  | _ => False
section
variable {X : Cx} {K : PySem.W.Frag} {a : Expr} {ta : TE} {aa : AE} {pos : Pos}
end
def e_aIntS := @aIntS.eq_def
end Gw

namespace Gw
open PySem L2 PyProof.Rows
variable {ρ : Ent}
def aPar5O (aa : AE) (ar : AA) (i j1 j2 j3 j4 : Nat) (A : AEnds) (Γ : Sl) (M : Mem) : Prop := aa Γ M fun r Γ1 M1 => match r with
  | .tmp c => ar Γ1 M1 fun ds Γ2 M2 => match ds with
    | [d1, d2, d3, d4] => A.nx (((((Γ2.set i (.own c)).set j1 (.dat d1)).set j2 (.dat d2)).set j3 (.dat d3)).set j4 (.dat d4)) M2
    | _ => False
  | _ => False
def e_aPar5O := @aPar5O.eq_def
end Gw

namespace Gw
open PySem PySem.Spec PyProof.Rows L2
variable {ρ : Ent}
def aMaxT (r : Ret) (Γ : Sl) (M : Mem) (Q : Ret → Sl → Mem → Prop) : Prop := match r with
  | .dat (.tup ds) => match intsOf ds with
    | some ns => 0 < ns.length ∧ ∀ m, m ∈ ns → (∀ y, y ∈ ns → y ≤ m) → Q (.dat (.int m)) Γ M
    | none => False
  | _ => False
section
variable {X : Cx} {K : PySem.W.Frag} {a : Expr} {ta : TE} {aa : AE} {pos : Pos}
end
def e_aMaxT := @aMaxT.eq_def
end Gw

namespace Gw
open PySem L2 PyProof.Rows
variable {ρ : Ent}
def aPar3OO (aa ab ac : AE) (i j l : Nat) (A : AEnds) (Γ : Sl) (M : Mem) : Prop := aa Γ M fun r Γ1 M1 => frz r Γ1 fun d Γ2 => ab Γ2 M1 fun r2 Γ3 M3 => match r2 with
  | .tmp c => ac Γ3 M3 fun r3 Γ4 M4 => match r3 with
    | .tmp c' => A.nx (((Γ4.set i (.dat d)).set j (.own c)).set l (.own c')) M4
    | _ => False
  | _ => False
def e_aPar3OO := @aPar3OO.eq_def
end Gw

namespace Gw
open PySem L2
variable {ρ : Ent}
def aOrD (aa ab : AE) (Γ : Sl) (M : Mem) (Q : Ret → Sl → Mem → Prop) : Prop := aa Γ M fun r Γ1 M1 => match r with
  | .dat .non => ab Γ1 M1 Q
  | r => match sqOf r Γ1 M1 with
    | some s => if s.ds.isEmpty = true then ab Γ1 M1 Q else Q r Γ1 M1
    | none => False
section
variable {X : Cx} {K : PySem.W.Frag} {ta tb : TE} {aa ab : AE}
end
def e_aOrD := @aOrD.eq_def
end Gw

namespace Gw
open PySem L2 PyProof.Rows
variable {ρ : Ent}
section
variable {X : Cx} {e : Expr} {rg : L2.St → Hp → (Int → Int → Hp → Prop) → Prop}
end
def aTupRg (aa : AE) (Γ : Sl) (M : Mem) (Q : Ret → Sl → Mem → Prop) : Prop := aa Γ M fun r Γ1 M1 => match r with
  | .dat (.int n) => (-(2 ^ 62) ≤ n ∧ n ≤ 16777216) ∧ Q (.dat (.tup (rngD 0 n.toNat))) Γ1 M1
  | _ => False
def e_aTupRg := @aTupRg.eq_def
end Gw

namespace Gw
open PySem L2 PyProof.Rows
variable {ρ : Ent}
def aPar4O (a1 a2 a3 al : AE) (i1 i2 i3 j : Nat) (A : AEnds) (Γ : Sl) (M : Mem) : Prop := a1 Γ M fun r Γ1 M1 => frz r Γ1 fun d1 Γ1 => a2 Γ1 M1 fun r Γ2 M2 => frz r Γ2 fun d2 Γ2 => a3 Γ2 M2 fun r Γ3 M3 => frz r Γ3 fun d3 Γ3 => al Γ3 M3 fun r Γ4 M4 => match r with
  | .tmp c => A.nx ((((Γ4.set i1 (.dat d1)).set i2 (.dat d2)).set i3 (.dat d3)).set j (.own c)) M4
  | _ => False
def e_aPar4O := @aPar4O.eq_def
end Gw

namespace Gw
open PySem L2 PyProof.Rows
variable {ρ : Ent}
section
variable {X : Cx} {a : Expr} {ta : TE} {aa : AE} {pos : Pos} {K : PySem.W.Frag}
def aLenSetIT (r : Ret) (Γ : Sl) (M : Mem) (Q : Ret → Sl → Mem → Prop) : Prop := match sqOf r Γ M with
  | some (.tup ds) => match intsD ds with
    | some ns => ns.length ≤ 60 ∧ ∀ os : List Int, os.Nodup → (∀ k, k ∈ os ↔ k ∈ ns) → Q (.dat (.int os.length)) Γ M
    | none => False
  | _ => False
end
def e_aLenSetIT := @aLenSetIT.eq_def
end Gw

namespace Gw
open PySem PySem.Spec PyProof.Rows L2
variable {ρ : Ent}
structure WalkM (K : PySem.W.Frag) (J : It) (p : Addr) (es ds : List D) : Prop where
  w : ∃ o : Nat → Nat, Walk J ds.length (fun H => ∃ xs, SqL K H p xs ∧ xs.length = es.length) (fun i H x H' => H' = H ∧ ∀ xs, SqL K H p xs → xs[o i]? = some x) ∧ ∀ i, i < ds.length → es[o i]? = ds[i]?
abbrev AJ := Sl → Mem → (Addr → List D → List D → Sl → Mem → Prop) → Prop
def RdJ (K : PySem.W.Frag) (ρ : Ent) (wi : TI) (ai : AJ) : Prop := ∀ B σ H G Γ M (Q : Addr → List D → List D → Sl → Mem → Prop) (R : It → Hp → Prop), Ok K ρ B σ H G Γ M → ai Γ M Q →
  (∀ J H' G' Γ' M' p es ds, Ok K ρ B σ H' G' Γ' M' → Es σ H G Γ M H' G' Γ' M' → WalkM K J p es ds → M'.lookup p = some (.lst es) → Q p es ds Γ' M' → R J H') → wi σ H R
structure QJ (X : Cx) (ρ : Ent) (tg iter : Expr) (wi : TI) (ai : AJ) : Prop where
  pe : PI X tg iter wi
  rd : RdJ X.K ρ wi ai
def aJSeq (aa : AE) (Γ : Sl) (M : Mem) (Q : Addr → List D → List D → Sl → Mem → Prop) : Prop := aa Γ M fun r Γ1 M1 => match r with
  | .dat (.ref p) => match M1.lookup p with
    | some (.lst es) => Q p es es Γ1 M1
    | _ => False
  | _ => False
def aJRev (aa : AE) (Γ : Sl) (M : Mem) (Q : Addr → List D → List D → Sl → Mem → Prop) : Prop := aa Γ M fun r Γ1 M1 => match r with
  | .dat (.ref p) => match M1.lookup p with
    | some (.lst es) => Q p es es.reverse Γ1 M1
    | _ => False
  | _ => False
section
variable {X : Cx} {tg a b c : Expr} {ta tb tc te : TE} {aa ab ac ae : AE} {pos : Pos} {K : PySem.W.Frag} {B : Ent} {σ : L2.St} {H G H' H1 G1 H2 G2 : Hp} {Γ Γ1 Γ2 : Sl} {M M1 M2 : Mem}
theorem walkM_seq {p : Addr} {es : List D} : WalkM K (Itl K p) p es es := by
  refine ⟨id, ⟨fun i H hi q => ?_, fun H q => ?_, fun i H x H' hi q y => ⟨y.1, y.2⟩⟩, fun i _ => rfl⟩
  · obtain ⟨xs, h, hl⟩ := q
    exact ⟨xs, xs[i]'(by omega), h, by simp [show i < xs.length by omega]⟩
  · obtain ⟨xs, h, hl⟩ := q
    exact ⟨xs, h, by omega⟩
theorem cell_lst {p : Addr} {es : List D} (k : Ok K ρ B σ H G Γ M) (h : M.lookup p = some (.lst es)) : ∃ xs, SqL K H p xs ∧ RepL K G es xs := by
  obtain ⟨_, o, ho, vs, rfl, hr⟩ := k.ms p _ (lookup_mem h)
  exact ⟨vs, SqL.of ho, hr⟩
theorem qj_seq (h : QE X ρ a ta aa) (hK : X.K = K := by rfl) : QJ X ρ tg a (iList K ta) (aJSeq aa) := by subst hK; exact ⟨pi_list h.pe, fun B σ H G Γ M Q R k hh q => h.rd B σ H G Γ M _ _ k hh fun v H1 G1 Γ1 M1 r k1 e1 rr h1 => by
  split at h1
  · rename_i p
    split at h1
    · rename_i es hl
      have ev : v = .ref p := by have := (show Rep X.K G1 (.ref p) v from rr); rwa [Rep] at this
      obtain ⟨xs, hx, _⟩ := cell_lst k1 hl
      exact ⟨p, ev, ⟨xs, hx⟩, q _ H1 G1 Γ1 M1 p es es k1 e1 walkM_seq hl h1⟩
    · exact h1.elim
  · exact h1.elim⟩
def aForML (p : Addr) (es : List D) (g : AG) (body : AS) : List D → AS
  | [] => fun A Γ M => M.lookup p = some (.lst es) ∧ A.nx Γ M
  | d :: ds => fun A Γ M => M.lookup p = some (.lst es) ∧ g d Γ fun Γ1 => body { A with nx := aForML p es g body ds A, ct := aForML p es g body ds A, bk := A.nx } Γ1 M
def forMW (p : Addr) (es : List D) (g : AG) (body : AS) (ds : List D) (A : AEnds) (_ : WitA A) (Γ : Sl) (M : Mem) : Prop := aForML p es g body ds A Γ M
def aForM (ai : AJ) (g : AG) (body : AS) (A : AEnds) (Γ : Sl) (M : Mem) : Prop := ai Γ M fun p es ds Γ1 M1 => forMW p es g body ds A ⟨⟩ Γ1 M1
theorem aForML_at {p : Addr} {es ds : List D} {g : AG} {body : AS} {A : AEnds} (h : aForML p es g body ds A Γ M) : M.lookup p = some (.lst es) := by
  cases ds with
  | nil => exact h.1
  | cons d ds => exact h.1
theorem rd_forM {wi : TI} {ai : AJ} {g : TG} {ag : AG} {is : List Nat} {tb : TS} {ab : AS} {bt : Bool} (hi : RdJ K ρ wi ai) (hg : RdG K ρ bt g ag is) (hb : RdS K ρ tb ab) : RdS K ρ (tFor wi g tb) (aForM ai ag ab) := fun B σ H G Γ M A E k h s => by
  refine hi B σ H G Γ M _ _ k h fun J H1 G1 Γ1 M1 p es ds k1 e1 w hl h1 => ?_
  obtain ⟨o, wk, ho⟩ := w.w
  have e0 : Ex B.G G1 := k1.st.g
  have gn := k1.st.gn
  have sim : ∀ i, Sim K ρ ⟨B.H, G1, B.A⟩ { A with nx := aForML p es ag ab (ds.drop (i + 1)) A, ct := aForML p es ag ab (ds.drop (i + 1)) A, bk := A.nx }
      { E with nx := fun σ H => ∃ G2 Γ2 M2, Ok K ρ B σ H G2 Γ2 M2 ∧ Ex G1 G2 ∧ aForML p es ag ab (ds.drop (i + 1)) A Γ2 M2, ct := fun σ H => ∃ G2 Γ2 M2, Ok K ρ B σ H G2 Γ2 M2 ∧ Ex G1 G2 ∧ aForML p es ag ab (ds.drop (i + 1)) A Γ2 M2, bk := E.nx } := fun i =>
    ⟨fun σ H G Γ M k q => let ⟨k', e'⟩ := k.back k1.pb e0 gn; ⟨G, Γ, M, k', e', q⟩, fun σ H0 H G Γ M r v k rr q => s.rt σ H0 H G Γ M r v (k.back k1.pb e0 gn).1 rr q, fun σ H G Γ M k q => s.nx σ H G Γ M (k.back k1.pb e0 gn).1 q, fun σ H G Γ M k q => let ⟨k', e'⟩ := k.back k1.pb e0 gn; ⟨G, Γ, M, k', e', q⟩⟩
  refine for_it wk (fun i σ H => ∃ G2 Γ2 M2, Ok K ρ B σ H G2 Γ2 M2 ∧ Ex G1 G2 ∧ aForML p es ag ab (ds.drop i) A Γ2 M2) ⟨G1, Γ1, M1, k1, Ex.refl _, h1⟩ (fun i σ H _ ⟨G2, Γ2, M2, k2, e2, h2⟩ => ?_) ?_ ?_
  · obtain ⟨xs, hx, hr⟩ := cell_lst k2 (aForML_at h2)
    exact ⟨xs, hx, hr.length⟩
  · rintro i x σ H H' hin ⟨G2, Γ2, M2, k2, e2, h2⟩ y
    obtain ⟨xs, hx, hr⟩ := cell_lst k2 (aForML_at h2)
    rw [List.drop_eq_getElem_cons hin] at h2
    obtain ⟨rfl, yx⟩ := y
    have yx := yx xs hx
    have hd := ho i hin
    rw [List.getElem?_eq_getElem hin] at hd
    obtain ⟨v, hv, rv⟩ := hr.get hd
    rw [hv] at yx
    cases yx
    refine hg B σ H' G2 Γ2 M2 _ _ _ _ k2 (.inl rv) h2.2 fun σ' Γ' k4 _ _ h4 => ?_
    exact hb ⟨B.H, G1, B.A⟩ σ' H' G2 Γ' M2 _ _ (k4.to e2 e0 gn) h4 (sim i)
  · rintro σ H ⟨G2, Γ2, M2, k2, e2, h2⟩
    rw [List.drop_length] at h2
    exact s.nx σ H G2 Γ2 M2 k2 h2.2
theorem qs_forM {iter : Expr} {body : List Stmt} {wi : TI} {ai : AJ} {g : TG} {ag : AG} {is : List Nat} {tb : TS} {ab : AS} (hi : QJ X ρ tg iter wi ai) (hg : QG X ρ tg g ag is) (hb : QSs X ρ body tb ab) (hc : X.calm = true := by rfl)
    (hp : PassesOwn (model X.prog X.w) X.A X.env X.xe := by exact PassesOwn.never) (hs : ∀ x, foldedSetIterable iter X.env x = pure x := by intro _; rfl) : QS X ρ (.For tg iter body [] pos) (tFor wi g tb) (aForM ai ag ab) := ⟨ps_for hp hc hi.pe hg.pe hb.pe hs, rd_forM hi.rd hg.rd hb.rd⟩
theorem forMW_eq {p : Addr} {es ds : List D} {g : AG} {body : AS} {A : AEnds} {w : WitA A} : forMW p es g body ds A w Γ M = aForML p es g body ds A Γ M := rfl
end
def dropA : List L2.Key → List D → L2.Key → List L2.Key × List D
  | k :: ks, d :: ds, x => if k = x then dropA ks ds x else (k :: (dropA ks ds x).1, d :: (dropA ks ds x).2)
  | _, _, _ => ([], [])
def intK : List L2.Key → Option (List Int)
  | [] => some []
  | .inl i :: ks => (intK ks).map (i :: ·)
  | _ => none
def aLenD (r : Ret) (Γ : Sl) (M : Mem) (Q : Ret → Sl → Mem → Prop) : Prop := match dctOf r Γ M with
  | some t => Q (.dat (.int t.1.length)) Γ M
  | none => False
def aMinD (r : Ret) (Γ : Sl) (M : Mem) (Q : Ret → Sl → Mem → Prop) : Prop := match cget r Γ M with
  | some (.dct ks _) => match intK ks with
    | some is => is ≠ [] ∧ ∀ m, m ∈ is → (∀ j ∈ is, m ≤ j) → Q (.dat (.int m)) Γ M
    | none => False
  | _ => False
def aDPop (ad ay : AE) (Γ : Sl) (M : Mem) (Q : Ret → Sl → Mem → Prop) : Prop := ad Γ M fun r Γ1 M1 => (dctOf r Γ1 M1).isSome = true ∧ ay Γ1 M1 fun ry Γ2 M2 => match ry with
  | .dat y => match keyD y with
    | some k => match cget r Γ2 M2 with
      | some (.dct ks ds) => match getA ks ds k with
        | some d => cput r (.dct (dropA ks ds k).1 (dropA ks ds k).2) Γ2 M2 fun Γ3 M3 => Q (.dat d) Γ3 M3
        | none => False
      | _ => False
    | none => False
  | _ => False
section
variable {X : Cx} {a b c : Expr} {ta tb tc : TE} {aa ab ac : AE} {pos : Pos} {K : PySem.W.Frag} {B : Ent} {σ : L2.St} {H G H1 G1 H2 G2 : Hp} {Γ Γ1 Γ2 : Sl} {M M1 M2 : Mem}
end
def e_aLenD := @aLenD.eq_def
def e_aMinD := @aMinD.eq_def
def e_aDPop := @aDPop.eq_def
def e_aJSeq := @aJSeq.eq_def
def e_aJRev := @aJRev.eq_def
def e_aForM := @aForM.eq_def
end Gw

namespace Gw
open PySem PySem.Spec PyProof.Rows L2 RT
variable {ρ : Ent}
section
variable {prog : Program} {w : World} {A : Around} {E : Value → Shared → Prop} {s : Shared}
end
end Gw

namespace Gw
open PySem PySem.Spec PySem.W PyProof.Rows L2 RT
variable {ρ : Ent}
def aListRev (aa : AE) (Γ : Sl) (M : Mem) (Q : Ret → Sl → Mem → Prop) : Prop := aa Γ M fun r Γ1 M1 => match sqOf r Γ1 M1 with
  | some (.lst ds) => Q (.tmp (.lst ds.reverse)) Γ1 M1
  | _ => False
section
variable {X : Cx} {a b c : Expr} {ta tb tc : TE} {aa ab ac : AE} {pos : Pos} {K : PySem.W.Frag} {B : Ent} {σ : L2.St} {H G H1 G1 H2 G2 : Hp} {Γ Γ1 Γ2 : Sl} {M M1 M2 : Mem}
def aMinL (r : Ret) (Γ : Sl) (M : Mem) (Q : Ret → Sl → Mem → Prop) : Prop := match sqOf r Γ M with
  | some (.lst (d0 :: ds)) => (∀ d ∈ d0 :: ds, plain d = true ∧ dep d ≤ 64) ∧ PySem.W.AlikeAll ((d0 :: ds).map toPy) ∧ ∀ d ∈ d0 :: ds, toPy d = PySem.W.minD (toPy d0) (ds.map toPy) → Q (.dat d) Γ M
  | _ => False
end
def e_aListRev := @aListRev.eq_def
def e_aMinL := @aMinL.eq_def
end Gw

namespace Gw
open PySem PySem.Spec PySem.W PyProof.Rows L2
variable {ρ : Ent}
def aMinV (aa : AE) (Γ : Sl) (M : Mem) (Q : Ret → Sl → Mem → Prop) : Prop := aa Γ M fun r Γ1 M1 => match dcTOf r Γ1 M1 with
  | some t => match intsOf t.2 with
    | some is => is ≠ [] ∧ ∀ m, m ∈ is → (∀ j ∈ is, m ≤ j) → Q (.dat (.int m)) Γ1 M1
    | none => False
  | none => False
section
variable {X : Cx} {a b c o i p j : Expr} {ta tb tc to ti tp tj : TE} {aa ab ac ao ai ap aj : AE} {pos : Pos} {K : PySem.W.Frag} {B : Ent} {σ : L2.St} {H G H1 G1 H2 G2 : Hp} {Γ Γ1 Γ2 : Sl} {M M1 M2 : Mem}
end
def e_aMinV := @aMinV.eq_def
end Gw

namespace Gw
open PySem PySem.Spec PySem.W PyProof.Rows L2
variable {ρ : Ent}
def aPutR (d : D) (ao ai : AE) (k : Sl → Mem → Prop) (Γ : Sl) (M : Mem) : Prop := ao Γ M fun ro Γ2 M2 => ai Γ2 M2 fun ri Γ3 M3 => match ri with
  | .dat y => match keyT y with
    | some kk => match cget ro Γ3 M3 with
      | some (.dcT ks ds) => ks.length < sizeLine ∧ cput ro (.dcT (putT ks ds kk d).1 (putT ks ds kk d).2) Γ3 M3 k
      | _ => False
    | none => False
  | _ => False
def aSetR2 (aa : AA) (ao ai ap aj : AE) (A : AEnds) (Γ : Sl) (M : Mem) : Prop := aa Γ M fun ds Γ1 M1 => match ds with
  | [d, e] => aPutR d ao ai (aPutR e ap aj A.nx) Γ1 M1
  | _ => False
section
variable {X : Cx} {a b c o i p j : Expr} {ta tb tc to ti tp tj : TE} {aa ab ac ao ai ap aj : AE} {pos : Pos} {K : PySem.W.Frag} {B : Ent} {σ : L2.St} {H G H1 G1 H2 G2 : Hp} {Γ Γ1 Γ2 : Sl} {M M1 M2 : Mem}
def aUnpF (cn f : Str) (i : Nat) (aa ao : AE) (A : AEnds) (Γ : Sl) (M : Mem) : Prop := aa Γ M fun r Γ0 M0 => frz r Γ0 fun d Γ1 => match d with
  | .tup [x, y] => ao (Γ1.set i (.dat x)) M0 fun ro Γ2 M2 => match ro with
    | .dat (.ref a) => match M2.lookup a with
      | some (.ins cn' ns ds) => cn' = cn ∧ ns.length < 1000 ∧ A.nx Γ2 (mput M2 a (.ins cn' (putN f ns) (putO f y ns ds)))
      | _ => False
    | _ => False
  | _ => False
end
def e_aPutR := @aPutR.eq_def
def e_aSetR2 := @aSetR2.eq_def
def e_aUnpF := @aUnpF.eq_def
end Gw

namespace Gw
open PySem PySem.Spec PyProof.Rows L2
variable {ρ : Ent}
section
variable {X : Cx} {kx vx tg iter : Expr} {ifs : List Expr} {scope : Scope} {own : List (Str × Nat)} {pos : Pos} {wi : TI} {g : TG} {tt : TT} {tk tv : TE} {pins : List (Addr × Obj)} {σ : L2.St} {H : Hp} {s : Shared}
end
end Gw

namespace Gw
open PySem PySem.Spec L2
variable {ρ : Ent}
section
variable {X : Cx} {a b c e : Expr} {ta tb tc te : TE} {aa ab ac ae : AE} {pos : Pos} {K : PySem.W.Frag} {B : Ent} {σ : St} {H G H1 G1 H2 G2 H0 : Hp} {Γ Γ1 Γ2 : Sl} {M M1 M2 : Mem}
def aUnpSL (n i : Nat) (aa : AE) (u : AGs) (A : AEnds) (Γ : Sl) (M : Mem) : Prop := aa Γ M fun r Γ1 M1 => frz r Γ1 fun d Γ2 => match d with
  | .lst ds => n ≤ ds.length + 1 ∧ ds.length ≤ 16384 ∧ u (ds.take i ++ [.lst ((ds.drop i).take (ds.length + 1 - n))] ++ (ds.drop i).drop (ds.length + 1 - n)) Γ2 fun Γ3 => A.nx Γ3 M1
  | _ => False
end
def e_aUnpSL := @aUnpSL.eq_def
end Gw

namespace Gw
open PySem PySem.Spec PyProof.Rows L2
variable {ρ : Ent}
section
variable {X : Cx} {tg a : Expr} {ta : TE} {aa : AE} {K : PySem.W.Frag} {B : Ent} {σ : L2.St} {H G H1 G1 : Hp} {Γ Γ1 : Sl} {M M1 : Mem}
def aITKeys (aa : AE) (Γ : Sl) (M : Mem) (Q : List D → Sl → Mem → Prop) : Prop := aa Γ M fun r Γ1 M1 => match r with
  | .dat (.dcT ks ds) => Q (ks.map rowD) Γ1 M1
  | _ => False
def aListTK (r : Ret) (Γ : Sl) (M : Mem) (Q : Ret → Sl → Mem → Prop) : Prop := match dcTOf r Γ M with
  | some t => Q (.tmp (.lst (t.1.map rowD))) Γ M
  | none => False
def aListIt (aa : AE) (Γ : Sl) (M : Mem) (Q : Ret → Sl → Mem → Prop) : Prop := aa Γ M fun r Γ1 M1 => match dcTOf r Γ1 M1 with
  | some t => Q (.tmp (.lst (itemsT t.1 t.2))) Γ1 M1
  | none => False
def aParO1 (aa ab : AE) (i j : Nat) (A : AEnds) (Γ : Sl) (M : Mem) : Prop := aa Γ M fun r Γ1 M1 => match r with
  | .tmp c => ab Γ1 M1 fun r2 Γ2 M2 => frz r2 Γ2 fun d Γ3 => A.nx ((Γ3.set i (.own c)).set j (.dat d)) M2
  | _ => False
theorem qs_parO1 {b : Expr} {tb : TE} {ab : AE} {x y : Str} {px py pt spos : Pos} {kt k2 pt2} (i j : Nat) (hN : X.N.Nodup) (ha : QE X ρ a ta aa) (hb : QE X ρ b tb ab) (na : starEach [a, b] X.env = (false, eval a X.env) :: starEach [b] X.env := by rfl) (nb : starEach [b] X.env = (false, eval b X.env) :: starEach [] X.env := by rfl) (hi : X.N[i]? = some x := by rfl) (hj : X.N[j]? = some y := by rfl) (hij : i ≠ j := by decide)
    (hx : X.env.scope.names.lookup x = some .local := by rfl) (hy : X.env.scope.names.lookup y = some .local := by rfl) (hw : swappedStores [.Tuple [.Name x px, .Name y py] kt pt] (.Tuple [a, b] k2 pt2) X.env = pure (some [x, y]) := by rfl)
    (hs : swapsWithSole [.Tuple [.Name x px, .Name y py] kt pt] (.Tuple [a, b] k2 pt2) spos.line X.env = pure false := by rfl) (hc : X.calm = true := by rfl) : QS X ρ (.Assign [.Tuple [.Name x px, .Name y py] kt pt] (.Tuple [a, b] k2 pt2) spos) (tPar i j (tCons ta (tCons tb tNil))) (aParO1 aa ab i j) :=
  ⟨ps_par hc hN hi hj hij hx hy (pa_cons ha.pe (pa_cons hb.pe pa_nil nb) na) hw hs, fun B σ H G Γ M A E k h s => ha.rd B σ H G Γ M _ _ k h fun v H1 G1 Γ1 M1 r k1 e1 rr h1 => by
    split at h1
    · rename_i c
      refine hb.rd B σ H1 G1 Γ1 M1 _ _ k1 h1 fun u H3 G3 Γ3 M3 r3 k3 e3 rr3 h3 => ?_
      obtain ⟨G4, Γ4, d, k4, e4, rp, h4⟩ := frz_ok (H0 := H1) k3 e3 rr3 h3
      obtain ⟨q, rfl, _, b1', c1', m1', n1'⟩ := rr.es e4
      exact ⟨_, u, rfl, s.nx _ H3 G4 _ M3 ((k4.setO (i := i) b1' c1' m1' n1').setD (i := j) rp) h4⟩
    · exact h1.elim⟩
end
def e_aParO1 := @aParO1.eq_def
def e_aListIt := @aListIt.eq_def
def e_aITKeys := @aITKeys.eq_def
def e_aListTK := @aListTK.eq_def
end Gw

namespace Gw
open PySem L2 PyProof.Rows
variable {ρ : Ent}
structure CalXD (P : Program) (w : World) (K : PySem.W.Frag) (mg : Str → Option Value) (base : Heap) (x : Str) (ps : List Str) (k : Nat) (S : ASx) (dds : List D) (dvs : List V) : Prop where
  ex : ∃ f fd ds, FnG P w K mg base (L2.CX P w) k f fd ps (spX K ps.length S) ∧ mg x = some (.ref f) ∧ PySem.W.keepIn K (.ref f) = true ∧ Binds K fd ps ds ∧ Vals dvs ds ∧ (∀ G, RepL K G dds dvs)
  ar : ArX ps.length S
def aCallXD (w : XW) (S : ASx) (dds : List D) (ar : AA) : AE := aCallX w S fun Γ M Q => ar Γ M fun ds Γ1 M1 => Q (ds ++ dds) Γ1 M1
section
variable {X : Cx} {P : Program} {w : World} {K : PySem.W.Frag} {mg : Str → Option Value} {base : Heap} {k n : Nat} {ps : List Str} {S : ASx} {x : Str} {p pos : Pos} {a e : Expr} {es : List Expr} {tr : TA} {ar : AA} {dds : List D} {W : WX} {xw : XW}
end
def e_aCallXD := @aCallXD.eq_def
end Gw

namespace Gw
open PySem L2 PyProof.Rows
variable {ρ : Ent}
abbrev NK (P : Program) (w : World) : HeapKind P w NestedKey := nestedKind P w
def NkK (K : PySem.W.Frag) (H : Hp) (k : NestedKey) (b : Addr) : Prop := freeN k = true ∧ k.depth ≤ 8 ∧ NkR K H k (.ref b)
theorem NkK.mono {K : PySem.W.Frag} {G G' : Hp} {k : NestedKey} {b : Addr} (e : Ex G G') (h : NkK K G k b) : NkK K G' k b := ⟨h.1, h.2.1, NkR.mono e _ _ h.2.2⟩
section
variable {X : Cx} {pins : List (Addr × Obj)} {σ : L2.St} {H : Hp} {s : Shared}
mutual
theorem NkR.is (I : Inv X pins σ H s) : ∀ (k : NestedKey) (v : V) (u : Value), NkR X.K H k v → RelV v u → NestedIs s.heap k u
  | .none, v, u, h, r => by rw [NkR] at h; subst h; cases r; exact .none
  | .num i, v, u, h, r => by rw [NkR] at h; subst h; obtain ⟨t, rfl⟩ := r; exact .int i t
  | .text x, v, u, h, r => by rw [NkR] at h; subst h; obtain ⟨t, rfl⟩ := r; exact .text x t
  | .tup ks, v, u, h, r => by
    rw [NkR] at h
    obtain ⟨a, xs, rfl, h1, h2⟩ := h
    cases r
    obtain ⟨its, rv, ⟨o, ho, hc, n, hd⟩, _⟩ := I.tuple h1.1
    exact .tup ho hc hd (by simpa using NkRL.is I ks xs its h2 rv)
theorem NkRL.is (I : Inv X pins σ H s) : ∀ (ks : List NestedKey) (vs : List V) (us : List Value), NkRL X.K H ks vs → Vals vs us → NestedAll s.heap ks us
  | [], vs, us, h, r => by rw [NkRL] at h; subst h; cases r; exact .nil
  | k :: ks, vs, us, h, r => by
    rw [NkRL] at h
    obtain ⟨x, xs, rfl, h1, h2⟩ := h
    cases r with
    | cons r1 r2 => exact .cons (NkR.is I k x _ h1 r1) (NkRL.is I ks xs _ h2 r2)
end
theorem NkK.is {k : NestedKey} {b : Addr} (h : NkK X.K H k b) (I : Inv X pins σ H s) : (NK X.prog X.w).is s.heap k b := ⟨NkR.is I k _ _ h.2.2 rfl, h.2.1⟩
end
theorem DcM.at {h h' : Heap} {a : Addr} {L : List NE} (t : DcM h a L) (k : ∀ o, h.get? a = some o → h'.get? a = some o) : DcM h' a L := by
  obtain ⟨xs, pr, o, es, ep, ho, r⟩ := t.ex
  exact ⟨⟨xs, pr, o, es, ep, k o ho, r⟩, t.few, t.sys⟩
section
variable {X : Cx} {o i e f value : Expr} {pos pos' apos cpos : Pos} {td ty tv tx : TE} {pins : List (Addr × Obj)} {σ : L2.St} {H : Hp} {s : Shared} {a : Addr} {L : List NE} {K : PySem.W.Frag}
end
section
variable {X : Cx} {kx vx tg iter : Expr} {ifs : List Expr} {scope : Scope} {own : List (Str × Nat)} {pos : Pos} {wi : TI} {g : TG} {tt : TT} {tk tv : TE} {pins : List (Addr × Obj)} {σ : L2.St} {H : Hp} {s : Shared}
end
end Gw

namespace Gw
open PySem L2 PyProof.Rows
variable {ρ : Ent}
mutual
def nkO : D → Option NestedKey
  | .non => some .none
  | .int i => some (.num i)
  | .tup ds => match nkOs ds with
    | some ks => some (.tup ks)
    | none => none
  | _ => none
def nkOs : List D → Option (List NestedKey)
  | [] => some []
  | d :: ds => match nkO d, nkOs ds with
    | some k, some ks => some (k :: ks)
    | _, _ => none
end
def keyQ (d : D) : Option NestedKey := match d with
  | .tup ds => match nkOs ds with
    | some ks => if (NestedKey.tup ks).depth ≤ 8 then some (.tup ks) else none
    | none => none
  | _ => none
def getQ : List NestedKey → List D → NestedKey → Option D
  | k :: ks, d :: ds, x => if k = x then some d else getQ ks ds x
  | _, _, _ => none
def putQ : List NestedKey → List D → NestedKey → D → List NestedKey × List D
  | k :: ks, e :: ds, x, d => if k = x then (k :: ks, d :: ds) else (k :: (putQ ks ds x d).1, e :: (putQ ks ds x d).2)
  | _, _, x, d => ([x], [d])
section
variable {X : Cx} {a b c e : Expr} {ta tb tc te : TE} {aa ab ac ae : AE} {pos : Pos} {K : PySem.W.Frag} {B : Ent} {σ : L2.St} {H G H1 G1 H2 G2 H0 : Hp} {Γ Γ1 Γ2 : Sl} {M M1 M2 : Mem}
def dcNOf (r : Ret) (Γ : Sl) (M : Mem) : Option (List NestedKey × List D) := match r with
  | .dat (.dcN ks ds) => some (ks, ds)
  | .dat (.ref a) => match M.lookup a with
    | some (.dcN ks ds) => some (ks, ds)
    | _ => none
  | .tmp (.dcN ks ds) => some (ks, ds)
  | .var i => match Γ[i]? with
    | some (.own (.dcN ks ds)) => some (ks, ds)
    | some (.dat (.dcN ks ds)) => some (ks, ds)
    | _ => none
  | _ => none
structure SeeN (K : PySem.W.Frag) (H G : Hp) (l : Addr) (L : List NE) (t : List NestedKey × List D) : Prop where
  rd : Rd H l (DcN l L)
  ks : L.map (·.1) = t.1
  key : KeyN K G L
  val : RepL K G t.2 (L.map (·.2.2))
def aNNew (Γ : Sl) (M : Mem) (Q : Ret → Sl → Mem → Prop) : Prop := Q (.tmp (.dcN [] [])) Γ M
def aNGet (ad ay : AE) (Γ : Sl) (M : Mem) (Q : Ret → Sl → Mem → Prop) : Prop := ad Γ M fun r Γ1 M1 => ay Γ1 M1 fun ry Γ2 M2 => match ry with
  | .dat y => match keyQ y with
    | some k => match dcNOf r Γ2 M2 with
      | some t => match getQ t.1 t.2 k with
        | some d => Q (.dat d) Γ2 M2
        | none => False
      | none => False
    | none => False
  | _ => False
def aNPut (ae ao ai : AE) (A : AEnds) (Γ : Sl) (M : Mem) : Prop := ae Γ M fun r Γ0 M0 => frz r Γ0 fun d Γ1 => ao Γ1 M0 fun ro Γ2 M2 => ai Γ2 M2 fun ri Γ3 M3 => match ri with
  | .dat y => match keyQ y with
    | some k => match cget ro Γ3 M3 with
      | some (.dcN ks ds) => ks.length < sizeLine ∧ cput ro (.dcN (putQ ks ds k d).1 (putQ ks ds k d).2) Γ3 M3 fun Γ4 M4 => A.nx Γ4 M4
      | _ => False
    | none => False
  | _ => False
end
section
variable {X : Cx} {kx vx tg iter : Expr} {ifs : List Expr} {pos : Pos} {tk tv : TE} {ak av : AE} {K : PySem.W.Frag} {B : Ent} {σ σ' σ0 : L2.St} {H G H0 G0 H2 G2 : Hp} {Γ Γ' Γ0 Γ2 : Sl} {M M0 M2 : Mem} {p : Addr} {vs : List Nat} {c : Cell}
def aDnL (g : AG) (tt : AT) (ak av : AE) (vs : List Nat) (k : List NestedKey × List D → Sl → Mem → Prop) : List D → List NestedKey × List D → Sl → Mem → Prop
  | [], t, Γ, M => k t Γ M
  | d :: ds, t, Γ, M => g d Γ fun Γ1 => tt Γ1 M fun b Γ2 M2 => if b = true then ak Γ2 M2 fun rk Γ3 M3 => match rk with
      | .dat y => match keyQ y with
        | some key => av Γ3 M3 fun rv Γ4 M4 => frz rv Γ4 fun e Γ5 => t.1.length < sizeLine ∧ aDnL g tt ak av vs k ds (putQ t.1 t.2 key e) (wipeS Γ5 vs) M4
        | none => False
      | _ => False
    else aDnL g tt ak av vs k ds t (wipeS Γ2 vs) M2
structure WitN (k : List NestedKey × List D → Sl → Mem → Prop) : Type where
def dnW (g : AG) (tt : AT) (ak av : AE) (vs : List Nat) (k : List NestedKey × List D → Sl → Mem → Prop) (_ : WitN k) (ds : List D) (t : List NestedKey × List D) (Γ : Sl) (M : Mem) : Prop := aDnL g tt ak av vs k ds t Γ M
def aDcN (ai : AI) (g : AG) (tt : AT) (ak av : AE) (vs : List Nat) (Γ : Sl) (M : Mem) (Q : Ret → Sl → Mem → Prop) : Prop := ai Γ M fun ds Γ1 M1 => dnW g tt ak av vs (fun t Γ2 M2 => Q (.tmp (.dcN t.1 t.2)) Γ2 M2) ⟨⟩ ds ([], []) (wipeS Γ1 vs) M1
end
def e_aNNew := @aNNew.eq_def
def e_aNGet := @aNGet.eq_def
def e_aNPut := @aNPut.eq_def
def e_dcNOf := @dcNOf.eq_def
def e_aDcN := @aDcN.eq_def
end Gw

namespace Gw
open PySem PySem.Spec L2 PyProof.Rows RZ
variable {ρ : Ent}
theorem sq_it {tp : Bool} {h : Heap} {b i2 : Addr} {its : Array Value} {i : Nat} (h2 : IsIt tp h i2 b i) (p2 : IsSq tp h b its) : b ≠ i2 := fun e => by
  subst e
  obtain ⟨o, vs, e1, d1⟩ := isIt_obj h2
  cases tp
  all_goals (obtain ⟨o', e2, _, n, d2⟩ := p2; rw [e1] at e2; cases e2; rw [d1] at d2; cases d2)
section
variable {X : Cx} {K : PySem.W.Frag} {a b : Expr}
def aIzipM (ar : AA) (Γ : Sl) (M : Mem) (Q : List D → Sl → Mem → Prop) : Prop := ar Γ M fun ds Γ1 M1 => match ds with
  | [.tup xs, .lst ys] => Q (zipD xs ys) Γ1 M1
  | [.lst xs, .tup ys] => Q (zipD xs ys) Γ1 M1
  | _ => False
end
def e_aIzipM := @aIzipM.eq_def
end Gw

namespace Gw
open PySem PySem.Spec L2 PyProof.Rows
variable {ρ : Ent}
section
variable {X : Cx} {o e : Expr} {to te : TE} {ao ae : AE} {pos : Pos} {K : PySem.W.Frag} {G : Hp}
theorem repL_strs_inv : ∀ {ys : List Str} {vs : List V}, RepL K G (ys.map .str) vs → vs = ys.map V.str
  | [], vs, r => repL_nil.mp r
  | x :: ys, vs, r => by
    obtain ⟨v, vs', rfl, r1, r2⟩ := repL_cons.mp r
    rw [Rep] at r1
    rw [repL_strs_inv r2, r1]
    rfl
def aJoin (ao ae : AE) (Γ : Sl) (M : Mem) (Q : Ret → Sl → Mem → Prop) : Prop := ao Γ M fun r Γ1 M1 => match r with
  | .dat (.str x) => ae Γ1 M1 fun r2 Γ2 M2 => match sqOf r2 Γ2 M2 with
    | some (.lst ds) => match strsD ds with
      | some ys => (ys.map (·.length)).sum + ys.length * x.length ≤ 16777216 ∧ Q (.dat (.str (Txt.join x ys))) Γ2 M2
      | none => False
    | some (.tup ds) => match strsD ds with
      | some ys => (ys.map (·.length)).sum + ys.length * x.length ≤ 16777216 ∧ Q (.dat (.str (Txt.join x ys))) Γ2 M2
      | none => False
    | _ => False
  | _ => False
theorem q_join {apos : Pos} (ho : QE X ρ o to ao) (he : QE X ρ e te ae) (hs : starEach [e] X.env = [(false, eval e X.env)] := by rfl) (hbase : attributeBase o "join" X.env (eval o X.env) = eval o X.env := by rfl) (hline : (apos.endLine == pos.line) = true := by rfl) (hK : X.K = K := by rfl) :
    QE X ρ (.Call (.Attribute o "join" apos) [e] [] pos) (tM1 (fun x xs H Q => ∃ a p, ∃ ys : List Str, x = .str a ∧ xs = [.ref p] ∧ (SqL K H p (ys.map V.str) ∨ SqT K H p (ys.map V.str)) ∧
      (ys.map (·.length)).sum + ys.length * a.length ≤ 16777216 ∧ Q (.str (Txt.join a ys)) H) to te) (aJoin ao ae) := by
  subst hK
  refine ⟨pe_join ho.pe he.pe hs hbase hline, ?_⟩
  intro B σ H G Γ M Q R k h q
  refine ho.rd B σ H G Γ M _ _ k h fun v H1 G1 Γ1 M1 r k1 e1 rr h1 => ?_
  split at h1
  · rename_i x
    have ev := rep_strV (show Rep X.K G1 (.str x) v from rr)
    subst ev
    refine ⟨⟨x, rfl⟩, he.rd B σ H1 G1 Γ1 M1 _ _ k1 h1 fun u H2 G2 Γ2 M2 r2 k2 e2 rr2 h2 => ?_⟩
    split at h2
    · rename_i ds hs2
      split at h2
      · rename_i ys hy
        obtain ⟨l, xs, ev, hl, rl⟩ := sqOf_ok k2 rr2 hs2
        rw [strsD_ok hy] at rl
        rw [repL_strs_inv rl] at hl
        exact ⟨x, l, ys, rfl, by rw [ev], .inl (SqL.of hl), h2.1, q _ H2 G2 Γ2 M2 (.dat (.str _)) k2 (e1.trans e2) (by simp only [RepR, Rep]) h2.2⟩
      · exact h2.elim
    · rename_i ds hs2
      split at h2
      · rename_i ys hy
        obtain ⟨l, xs, ev, hl, rl⟩ := sqOf_ok k2 rr2 hs2
        rw [strsD_ok hy] at rl
        rw [repL_strs_inv rl] at hl
        exact ⟨x, l, ys, rfl, by rw [ev], .inr hl, h2.1, q _ H2 G2 Γ2 M2 (.dat (.str _)) k2 (e1.trans e2) (by simp only [RepR, Rep]) h2.2⟩
      · exact h2.elim
    · exact h2.elim
  · exact h1.elim
end
def e_aJoin := @aJoin.eq_def
end Gw

namespace Gw
open PySem L2 PyProof.Rows
variable {ρ : Ent}
section
variable {X : Cx} {tg iter : Expr} {te : TE} {ae : AE} {pos : Pos} {K : PySem.W.Frag} {B : Ent} {σ : L2.St} {H G : Hp} {Γ : Sl} {M : Mem}
def aLcML (p : Addr) (es : List D) (g : AG) (tt : AT) (ae : AE) (vs : List Nat) (k : List D → Sl → Mem → Prop) : List D → List D → Sl → Mem → Prop
  | [], acc, Γ, M => M.lookup p = some (.lst es) ∧ k acc Γ M
  | d :: ds, acc, Γ, M => M.lookup p = some (.lst es) ∧ g d Γ fun Γ1 => tt Γ1 M fun b Γ2 M2 => if b = true then ae Γ2 M2 fun r Γ3 M3 => frz r Γ3 fun y Γ4 => acc.length < sizeLine ∧ aLcML p es g tt ae vs k ds (acc ++ [y]) (wipeS Γ4 vs) M3
    else aLcML p es g tt ae vs k ds acc (wipeS Γ2 vs) M2
def lcMW (p : Addr) (es : List D) (g : AG) (tt : AT) (ae : AE) (vs : List Nat) (k : List D → Sl → Mem → Prop) (_ : WitL k) (ds acc : List D) (Γ : Sl) (M : Mem) : Prop := aLcML p es g tt ae vs k ds acc Γ M
def aLcM (ai : AJ) (g : AG) (tt : AT) (ae : AE) (vs : List Nat) (Γ : Sl) (M : Mem) (Q : Ret → Sl → Mem → Prop) : Prop := ai Γ M fun p es ds Γ1 M1 => lcMW p es g tt ae vs (fun acc Γ2 M2 => Q (.tmp (.lst acc)) Γ2 M2) ⟨⟩ ds [] (wipeS Γ1 vs) M1
theorem aLcML_at {p : Addr} {es ds acc : List D} {g : AG} {tt : AT} {vs : List Nat} {k : List D → Sl → Mem → Prop} (h : aLcML p es g tt ae vs k ds acc Γ M) : M.lookup p = some (.lst es) := by
  cases ds with
  | nil => exact h.1
  | cons d ds => exact h.1
theorem rd_lcM {wi : TI} {ai : AJ} {g : TG} {ag : AG} {is vs : List Nat} {tt : TT} {at' : AT} {bt : Bool} (hi : RdJ K ρ wi ai) (hg : RdG K ρ bt g ag is) (hsub : ∀ j ∈ is, j ∈ vs) (ht : RdT K ρ tt at') (he : RdE K ρ te ae) : RdE K ρ (tLc wi g tt te vs) (aLcM ai ag at' ae vs) := by
  intro B σ H G Γ M Q R k h q
  refine hi B σ H G Γ M _ _ k h fun J H1 G1 Γ1 M1 pl es ds k1 e1 w hl1 h1 p hp => ?_
  obtain ⟨o, wk, ho⟩ := w.w
  obtain ⟨k1t, e1t, hm1, hn1, hb1, hg1⟩ := k1.tmp (o := .lst []) hp
  have start : Grows K ρ B p σ H1 G1 Γ1 M1 [] (.lst []) σ (upd H1 p (.lst [])) G1 Γ1 M1 := ⟨k1t, e1t.g, e1t.tmp, e1t.nn, fun j s _ _ => by simp, ⟨hg1, _, upd_same, [], rfl, repL_nil.mpr rfl⟩, hm1, hn1, hb1, hp⟩
  refine lc_it wk (fun i H2 => ∃ G2 Γ2 M2 acc, Grows K ρ B p σ H1 G1 Γ1 M1 vs (.lst acc) σ H2 G2 Γ2 M2 ∧ aLcML pl es ag at' ae vs (fun acc Γ2 M2 => Q (.tmp (.lst acc)) Γ2 M2) (ds.drop i) acc Γ2 M2) ?_ ?_ ?_ ?_
  · exact ⟨G1, wipeS Γ1 vs, M1, [], start.leave rfl, h1⟩
  · rintro i H2 _ ⟨G2, Γ2, M2, acc, gr, h2⟩
    obtain ⟨xs, hx, hr⟩ := cell_lst gr.ok (aLcML_at h2)
    exact ⟨xs, hx, hr.length⟩
  · rintro i x H2 H2' hin ⟨G2, Γ2, M2, acc, gr, h2⟩ y
    obtain ⟨xs, hx, hr⟩ := cell_lst gr.ok (aLcML_at h2)
    rw [List.drop_eq_getElem_cons hin] at h2
    obtain ⟨rfl, yx⟩ := y
    have yx := yx xs hx
    have hd := ho i hin
    rw [List.getElem?_eq_getElem hin] at hd
    obtain ⟨v, hv, rv⟩ := hr.get hd
    rw [hv] at yx
    cases yx
    have gr3 := gr.enter
    refine hg B (wipe σ vs) H2' G2 Γ2 M2 _ _ _ _ gr3.ok (.inl rv) h2.2 fun σ2 Γ3 k4 w4 o4 h4 => ⟨by rw [w4 vs hsub, wipe_wipe], ?_⟩
    have hw2 : wipe σ2 vs = wipe σ vs := by rw [w4 vs hsub, wipe_wipe]
    have gr4 : Grows K ρ B p σ H1 G1 Γ1 M1 [] (.lst acc) σ2 H2' G2 Γ3 M2 := gr3.to k4 o4 fun j s _ _ => by simp
    refine ht B σ2 H2' G2 Γ3 M2 _ _ k4 h4 fun b H5 G5 Γ5 M5 k5 e5 h5 => ?_
    have gr5 := gr4.es k5 e5
    cases b with
    | false =>
      exact ⟨G5, wipeS Γ5 vs, M5, acc, gr5.leave hw2, by simpa using h5⟩
    | true =>
      refine he B σ2 H5 G5 Γ5 M5 _ _ k5 (by simpa using h5) fun u H6 G6 Γ6 M6 r k6 e6 rr h6 => ?_
      obtain ⟨G7, Γ7, y, k7, e7, rp7, hlen, h7⟩ := frz_ok (H0 := H5) k6 e6 rr h6
      have gr7 := (gr5.es k7 e7).leave hw2
      obtain ⟨gp, o2, ho2, xs2, rfl, hrep⟩ := gr7.here
      exact ⟨xs2, ho2, by rw [hrep.length]; exact hlen, G7, wipeS Γ7 vs, M6, acc ++ [y], gr7.put ⟨_, rfl, hrep.append (RepL.one rp7)⟩, h7⟩
  · rintro H2 ⟨G2, Γ2, M2, acc, gr, h2⟩
    rw [List.drop_length] at h2
    exact q _ H2 G2 Γ2 M2 (.tmp (.lst acc)) gr.ok (e1.trans ⟨gr.g, gr.tmp, gr.nn⟩) ⟨p, rfl, e1.nn p hp, hb1, gr.here, gr.mp, gr.op⟩ h2.2
theorem q_lcM {elt : Expr} {ifs : List Expr} {scope : Scope} {own : List (Str × Nat)} {wi : TI} {ai : AJ} {g : TG} {ag : AG} {is : List Nat} {tt : TT} {at' : AT} (own' : List (Str × Nat)) (hown : own = own') (hN : X.N.Nodup) (hi : QJ X ρ tg iter wi ai) (ok : BlkOk X.N X.env.scope scope own)
    (hg : ∀ (s : Shared) (H : Hp) (C : Addr) (cl : List (Str × Addr)) (fp : List Addr), QG (X.blk s H scope (compEnvC scope cl C X.env) fp) ρ tg g ag is) (ht : ∀ (s : Shared) (H : Hp) (C : Addr) (cl : List (Str × Addr)) (fp : List Addr), QTs (X.blk s H scope (compEnvC scope cl C X.env) fp) ρ ifs tt at')
    (he : ∀ (s : Shared) (H : Hp) (C : Addr) (cl : List (Str × Addr)) (fp : List Addr), QE (X.blk s H scope (compEnvC scope cl C X.env) fp) ρ elt te ae) (hsub : ∀ j ∈ is, j ∈ own.map (·.2)) (s0 : Shared) (hc : X.calm = true := by rfl) (hs : ∀ x, foldedSetIterable iter X.env x = pure x := by intro _; rfl) :
    QE X ρ (.ListComp elt [⟨tg, iter, ifs, 0⟩] scope pos) (tLc wi g tt te (own.map (·.2))) (aLcM ai ag at' ae (own.map (·.2))) :=
  ⟨pe_lc hc hN hi.pe ok (fun s H C cl fp => (hg s H C cl fp).pe) (fun s H C cl fp => (ht s H C cl fp).pe) (fun s H C cl fp => (he s H C cl fp).pe) hs,
   rd_lcM hi.rd (hg s0 X.H_0 0 [] []).rd hsub (ht s0 X.H_0 0 [] []).rd (he s0 X.H_0 0 [] []).rd⟩
theorem q_compM {elt : Expr} {ifs : List Expr} {scope : Scope} {own : List (Str × Nat)} {wi : TI} {ai : AJ} {g : TG} {ag : AG} {is : List Nat} {tt : TT} {at' : AT} (hN : X.N.Nodup) (hi : QJ X ρ tg iter wi ai) (ok : BlkOk X.N X.env.scope scope own)
    (hg : ∀ (s : Shared) (H : Hp) (C : Addr) (cl : List (Str × Addr)) (fp : List Addr), QG (X.blk s H scope (compEnvC scope cl C X.env) fp) ρ tg g ag is) (ht : ∀ (s : Shared) (H : Hp) (C : Addr) (cl : List (Str × Addr)) (fp : List Addr), QTs (X.blk s H scope (compEnvC scope cl C X.env) fp) ρ ifs tt at')
    (he : ∀ (s : Shared) (H : Hp) (C : Addr) (cl : List (Str × Addr)) (fp : List Addr), QE (X.blk s H scope (compEnvC scope cl C X.env) fp) ρ elt te ae) (s0 : Shared) (hsub : ∀ j ∈ is, j ∈ own.map (·.2) := by decide) (hc : X.calm = true := by rfl) (hs : ∀ x, foldedSetIterable iter X.env x = pure x := by intro _; rfl) :
    QE X ρ (.ListComp elt [⟨tg, iter, ifs, 0⟩] scope pos) (tLc wi g tt te (own.map (·.2))) (aLcM ai ag at' ae (own.map (·.2))) := q_lcM own rfl hN hi ok hg ht he hsub s0 hc hs
end
def e_aLcM := @aLcM.eq_def
end Gw

namespace Gw
open PySem L2 PyProof.Rows
variable {ρ : Ent}
section
variable {X : Cx} {o a : Expr} {to ta : TE} {ao aa : AE} {pos : Pos} {K : PySem.W.Frag} {cn : Str} {F : List Str}
def aAugF (cn f : Str) (ao ae : AE) (A : AEnds) (Γ : Sl) (M : Mem) : Prop := ao Γ M fun ro Γ1 M1 => match ro with
  | .dat (.ref p) => match M1.lookup p with
    | some (.ins cn' ns ds) => cn' = cn ∧ match fldD f ns ds with
      | some (.int i) => ae Γ1 M1 fun r Γ2 M2 => match r with
        | .dat (.int j) => match M2.lookup p with
          | some (.ins cn'' ns' ds') => cn'' = cn ∧ ns'.length < 1000 ∧ A.nx Γ2 (mput M2 p (.ins cn'' (putN f ns') (putO f (.int (i + j)) ns' ds')))
          | _ => False
        | _ => False
      | _ => False
    | _ => False
  | _ => False
end
def e_aAugF := @aAugF.eq_def
end Gw

namespace Gw
open PySem PySem.Spec L2 PyProof.Rows
variable {ρ : Ent}
structure QET (X : Cx) (ρ : Ent) (e : Expr) (te : TE) (ae : AE) : Prop where
  pe : PET X e te
  rd : RdE X.K ρ te ae
structure QST (X : Cx) (ρ : Ent) (st : Stmt) (ts : TS) (as : AS) : Prop where
  pe : PST X st ts
  rd : RdS X.K ρ ts as
structure QSsT (X : Cx) (ρ : Ent) (st : List Stmt) (ts : TS) (as : AS) : Prop where
  pe : PSsT X st ts
  rd : RdS X.K ρ ts as
section
variable {X : Cx} {st : Stmt} {rest : List Stmt} {t u : TS} {a b : AS} {o e : Expr} {to te : TE} {ao ae : AE} {pos pos' : Pos} {x : Str}
def aReplC (ao : AE) (y z : Str) (Γ : Sl) (M : Mem) (Q : Ret → Sl → Mem → Prop) : Prop := ao Γ M fun r Γ1 M1 => match r with
  | .dat (.str x) => x.length + (x.length + 1) * z.length ≤ 16777216 ∧ Q (.dat (.str (Txt.replace x y z))) Γ1 M1
  | _ => False
end
section
variable {P : Program} {w : World} {K : PySem.W.Frag} {mg : Str → Option Value} {base : Heap}
end
def e_aReplC := @aReplC.eq_def
end Gw

namespace Gw
open PySem PySem.Spec L2 PyProof.Rows
variable {ρ : Ent}
section
variable {X : Cx}
end
end Gw

namespace Gw
open PySem PySem.Spec L2 PyProof.Rows
variable {ρ : Ent}
section
variable {X : Cx} {K : PySem.W.Frag} {a : Expr} {ta : TE} {aa : AE} {pos : Pos}
def strW : D → Str
  | .int i => strN (.int i)
  | .bl b => strN (.bl b)
  | .str x => x
  | _ => ""
def aStrW (r : Ret) (Γ : Sl) (M : Mem) (Q : Ret → Sl → Mem → Prop) : Prop := match r with
  | .dat (.int i) => i.natAbs.log2 < 1920 ∧ Q (.dat (.str (strW (.int i)))) Γ M
  | .dat (.bl c) => Q (.dat (.str (strW (.bl c)))) Γ M
  | .dat (.str x) => Q (.dat (.str x)) Γ M
  | _ => False
end
def e_aStrW := @aStrW.eq_def
end Gw

namespace Gw
open PySem L2 PyProof.Rows
variable {ρ : Ent}
def tk (M0 : Mem) (Q : Ret → Mem → Prop) (r : Ret) (M : Mem) : Prop := ∃ p c M', r = .dat (.ref p) ∧ List.Sublist ((p, c) :: M') M ∧ p ∉ dom M0 ∧ Q (.tmp c) M'
section
variable {P : Program} {w : World} {K : PySem.W.Frag} {mg : Str → Option Value} {base : Heap}
end
end Gw

namespace Gw
open PySem PySem.Spec PySem.W PyProof.Rows L2
variable {ρ : Ent}
abbrev ATg := D → (Sl → Mem → Prop) → Sl → Mem → Prop
def RdTg (K : PySem.W.Frag) (ρ : Ent) (g : TG) (at' : ATg) : Prop := ∀ (B : Ent) (σ : L2.St) (H G : Hp) (Γ : Sl) (M : Mem) (d : D) (v : V) (k : Sl → Mem → Prop) (Q : L2.St → Hp → Prop), Ok K ρ B σ H G Γ M → Rep K G d v → at' d k Γ M →
  (∀ σ' H' G' Γ' M', Ok K ρ B σ' H' G' Γ' M' → Ex G G' → k Γ' M' → Q σ' H') → g v σ H Q
structure QTg (X : Cx) (ρ : Ent) (e : Expr) (g : TG) (at' : ATg) : Prop where
  pe : PG X e g
  rd : RdTg X.K ρ g at'
def aPuts : List ATg → List D → (Sl → Mem → Prop) → Sl → Mem → Prop
  | [], [], k => k
  | t :: ts, d :: ds, k => t d (aPuts ts ds k)
  | _, _, _ => fun _ _ => False
structure QTgs (X : Cx) (ρ : Ent) (es : List Expr) (g : TGs) (ts : List ATg) : Prop where
  pe : PGs X es g
  rd : ∀ (B : Ent) (σ : L2.St) (H G : Hp) (Γ : Sl) (M : Mem) (ds : List D) (vs : List V) (k : Sl → Mem → Prop) (Q : L2.St → Hp → Prop), Ok X.K ρ B σ H G Γ M → RepL X.K G ds vs → aPuts ts ds k Γ M →
    (∀ σ' H' G' Γ' M', Ok X.K ρ B σ' H' G' Γ' M' → Ex G G' → k Γ' M' → Q σ' H') → g vs σ H Q
section
variable {X : Cx} {e o i : Expr} {es : List Expr} {to ti : TE} {ao ai : AE} {pos : Pos} {K : PySem.W.Frag} {g : TG} {gs : TGs} {t : ATg} {ts : List ATg}
def atN (j : Nat) : ATg := fun d k Γ M => k (Γ.set j (.dat d)) M
def atL (ao ai : AE) : ATg := fun d k Γ M => aPutI d ao ai k Γ M
def atD (ao ai : AE) : ATg := fun d k Γ M => ao Γ M fun ro Γ2 M2 => ai Γ2 M2 fun ri Γ3 M3 => match ri with
  | .dat y => match keyD y with
    | some kk => match cget ro Γ3 M3 with
      | some (.dct ks ds) => ks.length < sizeLine ∧ cput ro (.dct (putA (ks, ds) kk d).1 (putA (ks, ds) kk d).2) Γ3 M3 k
      | _ => False
    | none => False
  | _ => False
def atF (cn f : Str) (ao : AE) : ATg := fun d k Γ M => ao Γ M fun ro Γ2 M2 => match ro with
  | .dat (.ref a) => match M2.lookup a with
    | some (.ins cn' ns ds) => cn' = cn ∧ ns.length < 1000 ∧ k Γ2 (mput M2 a (.ins cn' (putN f ns) (putO f d ns ds)))
    | _ => False
  | _ => False
def aParG (ar : AA) (ts : List ATg) (A : AEnds) (Γ : Sl) (M : Mem) : Prop := ar Γ M fun ds Γ1 M1 => ds.length = ts.length ∧ aPuts ts ds A.nx Γ1 M1
end
def e_aParG := @aParG.eq_def
def e_atN := @atN.eq_def
def e_atL := @atL.eq_def
def e_atD := @atD.eq_def
def e_atF := @atF.eq_def
end Gw

namespace Gw
open PySem PySem.Spec L2 PyProof.Rows
variable {ρ : Ent}
end Gw

namespace Gw
open PySem PySem.Spec L2 PyProof.Rows
variable {ρ : Ent}
def aListS (r : Ret) (Γ : Sl) (M : Mem) (Q : Ret → Sl → Mem → Prop) : Prop := match r with
  | .dat (.str x) => x.length ≤ 16777216 ∧ Q (.tmp (.lst (sgD x))) Γ M
  | _ => False
def e_aListS := @aListS.eq_def
end Gw

namespace Gw
open PySem PySem.Spec L2 PyProof.Rows
abbrev lamQ (X : Cx) : Str := X.env.qual ++ "<lambda>"
abbrev lamO (X : Cx) (ps : Arguments) (b : Expr) (sc : Scope) (pm : Value) (c' : Addr) (ct : Value) : Obj := PySem.W.kla_obj "<lambda>" (lamQ X) ps b sc (cloFrom X.env.cells sc.names []) pm c' ct
section
variable {X : Cx} {pins : List (Addr × Obj)} {σ : L2.St} {H : Hp} {s : Shared} {CXg : CXT} {Eg : XK} {Ng : List Str} {qg : Str} {sg : Scope} {g f c' : Addr} {cdg pm ct : Value} {ps : Arguments} {b : Expr} {sc : Scope} {k i : Nat} {a : Str}
  {pn : List (Addr × Obj)} {xe : Value → Shared → Prop} {W : WX} {tb : XK → TE} {p1 p2 : Pos}
end
end Gw

namespace Gw
open PySem PySem.Spec L2 PyProof.Rows
def Grown (H : Hp) (P : Addr) (q : Str) (ps : Array Value) (H1 : Hp) (c' : Addr) : Prop :=
  (H1 = H ∧ ∃ pos, codeAmong pos ps.toList = some (.ref c')) ∨
  (H c' = none ∧ ∃ ps2 : Array Value, H1 = upd (upd H P (.tbl ps2)) c' (LamX.CodeO c' q) ∧ TriplesOk ps2.toList ∧ ∀ pos cv, codeAmong pos ps2.toList = some cv → codeAmong pos ps.toList = some cv ∨ cv = .ref c')
section
variable {X : Cx} {pins : List (Addr × Obj)} {σ : L2.St} {H : Hp} {s : Shared}
theorem mk_lam {P c : Addr} {params : Arguments} {body : Expr} {scope : Scope} {pos : Pos} {ps : Array Value} {E : Value → Shared → Prop} {Q : Value → Shared → Prop} (I : Inv X pins σ H s) (TB : LamX.TabB X.base X.mg c P) (code : X.env.code = .ref c)
    (isT : H P = some (.tbl ps)) (tri : TriplesOk ps.toList) (known : ∀ (pos : Pos) (cv : Value), codeAmong pos ps.toList = some cv → ∃ c, cv = .ref c ∧ H c = some (LamX.CodeO c (lamQ X)))
    (nodef : defaultsOf params X.env = ([], [])) (free : ∀ y ∈ scope.names, y.2 = .free → ∃ c, X.env.cells.lookup y.1 = some c)
    (go : ∀ (f c' : Addr) (pm ct : Value) (H1 : Hp) (s' : Shared), Grown H P (lamQ X) ps H1 c' → Inv X pins σ H1 s' → s'.heap.get? f = some (lamO X params body scope pm c' ct) → H1 f = none → f ∉ frs X.stack → s.heap.objs.size ≤ f → Q (.ref f) s') :
    wpAny (model X.prog X.w) X.A (eval (.Lambda params body scope pos) X.env) Q E s := by
  have atP : s.heap.get? P = some { cls := .none, data := .fields ps } := I.hok P _ isT
  have built := TB.bm.keeps I.bk
  have far : ∀ f : Addr, s.heap.objs.size ≤ f → f ∉ frs X.stack := by
    intro f big z
    cases List.mem_cons.mp (I.stkSub _ z) with
    | inl e => subst e; exact absurd (Nat.lt_of_lt_of_le I.lt big) (Nat.lt_irrefl _)
    | inr e => exact I.nofs big e
  apply PySem.W.kla_eval nodef
  rcases found : codeAmong pos ps.toList with _ | cv
  · apply PySem.W.kla_makeFunction (mg := X.mg) (c := c) (P := P) (ps := ps) (closure_ok free) I.ok.glob (I.mod.glob.keeps I.bk) code (TB.code.keeps I.bk) atP tri found TB.gP built
    rintro c' ct h1 tk grow big less ⟨c2, oc, fs, t, e2, o1, o2, o3⟩ tab
    cases e2
    have size : s.heap.objs.size ≤ h1.objs.size := Nat.le_trans big (Nat.le_of_lt less)
    have newC : H c' = none := I.hok.fresh big
    have push : ∀ {b o}, h1.get? b = some o → (h1.push (lamO X params body scope ((X.mg "__name__").getD .none) c' ct)).get? b = some o := fun e => Heap.get?_push_of_some _ e
    have J := LamX.inv_table (q := lamQ X) (t' := tk) (more := #[rawInt pos.line, rawInt pos.col, .ref c']) I isT (fun b o ne e => push (grow b o ne e)) (push tab) big ⟨oc, fs, t, push o1, o2, o3⟩
    have list : (ps ++ #[rawInt pos.line, rawInt pos.col, .ref c']).toList = ps.toList ++ [rawInt pos.line, rawInt pos.col, .ref c'] := by simp
    refine go h1.objs.size c' _ ct _ _ (.inr ⟨newC, _, rfl, ?_, ?_⟩) J (Heap.get?_push_size _ rfl) ?_ (far _ size) size
    · rw [list]
      exact PySem.TriplesOk_snoc _ _ _ _ tri
    · intro p' cv hcv
      rw [list] at hcv
      exact LamX.among_app _ tri hcv
    · have a1 : h1.objs.size ≠ c' := Nat.ne_of_gt less
      have a2 : h1.objs.size ≠ P := Nat.ne_of_gt (Nat.lt_of_lt_of_le (Heap.lt_size atP) size)
      rw [upd_ne a1, upd_ne a2]
      exact I.hok.fresh size
  · obtain ⟨c', rfl, hc⟩ := known pos cv found
    apply PySem.W.kla_makeFunctionHit (mg := X.mg) (c := c) (P := P) (ps := ps) (closure_ok free) I.ok.glob (I.mod.glob.keeps I.bk) code (TB.code.keeps I.bk) atP tri found built
    intro ct h1 tk grow size
    exact go h1.objs.size c' _ ct H _ (.inl ⟨rfl, pos, found⟩) (I.kept fun b o e => Heap.get?_push_of_some _ (grow b o e)) (Heap.get?_push_size _ rfl) (I.hok.fresh size) (far _ size) size
end
end Gw

namespace Gw
open PySem PySem.Spec L2 PyProof.Rows
variable {ρ : Ent}
theorem mem_one {M : Mem} {P : Addr} {c c2 : Cell} (nd : (dom M).Nodup) (h1 : (P, c) ∈ M) (h2 : (P, c2) ∈ M) : c = c2 := by
  induction M with
  | nil => cases h1
  | cons x M ih =>
    obtain ⟨b, cb⟩ := x
    have nd' : b ∉ dom M ∧ (dom M).Nodup := List.nodup_cons.mp nd
    rcases List.mem_cons.mp h1 with e1 | e1 <;> rcases List.mem_cons.mp h2 with e2 | e2
    · cases e1; cases e2; rfl
    · cases e1; exact absurd (List.mem_map.mpr ⟨_, e2, rfl⟩) nd'.1
    · cases e2; exact absurd (List.mem_map.mpr ⟨_, e1, rfl⟩) nd'.1
    · exact ih nd'.2 e1 e2
theorem Ok.grown {K : PySem.W.Frag} {B : Ent} {σ : L2.St} {H G H1 : Hp} {Γ : Sl} {M : Mem} {P c' : Addr} {q : Str} {ps : Array Value} (k : Ok K ρ B σ H G Γ M) (hM : (P, Cell.tab q) ∈ M) (isT : H P = some (.tbl ps))
    (kn : ∀ (pos : Pos) (cv : Value), codeAmong pos ps.toList = some cv → ∃ c, cv = .ref c ∧ G c = some (LamX.CodeO c q)) (gr : Grown H P q ps H1 c') :
    ∃ G1, Ok K ρ B σ H1 G1 Γ M ∧ Es σ H G Γ M H1 G1 Γ M ∧ G1 c' = some (LamX.CodeO c' q) := by
  rcases gr with ⟨rfl, pos, hc⟩ | ⟨new, ps2, rfl, tri, kn2⟩
  · obtain ⟨c, e, hg⟩ := kn pos _ hc
    cases e
    exact ⟨G, k, Es.refl, hg⟩
  · have gP : G P = none := (k.ms P _ hM).1
    have gC : G c' = none := by
      cases e : G c' with
      | none => rfl
      | some o => exact (not_both (k.ex _ _ e) new).elim
    have nPC : P ≠ c' := fun e => not_both (e ▸ isT) new
    have dP : P ∈ dom M := List.mem_map.mpr ⟨_, hM, rfl⟩
    have same : ∀ x, x ≠ P → x ≠ c' → upd (upd H P (.tbl ps2)) c' (LamX.CodeO c' q) x = H x := fun x h1 h2 => by rw [upd_ne h2, upd_ne h1]
    have at_ : ∀ x o, H x = some o → x ≠ P → upd (upd H P (.tbl ps2)) c' (LamX.CodeO c' q) x = some o := fun x o e h => by
      rw [same x h fun z => not_both (z ▸ e) new]; exact e
    have atP : upd (upd H P (.tbl ps2)) c' (LamX.CodeO c' q) P = some (.tbl ps2) := by rw [upd_ne nPC, upd_same]
    have gx : Ex G (upd G c' (LamX.CodeO c' q)) := Ex.new gC
    have gold : ∀ x o, upd G c' (LamX.CodeO c' q) x = some o → x = c' ∧ o = LamX.CodeO c' q ∨ G x = some o := fun x o e => by
      by_cases h : x = c'
      · subst h; rw [upd_same] at e; cases e; exact .inl ⟨rfl, rfl⟩
      · rw [upd_ne h] at e; exact .inr e
    have gnone : ∀ x, G x = none → x ≠ c' → upd G c' (LamX.CodeO c' q) x = none := fun x h1 h2 => by rw [upd_ne h2]; exact h1
    have nn1 : ∀ x, upd (upd H P (.tbl ps2)) c' (LamX.CodeO c' q) x = none → H x = none := fun x e => by
      by_cases h1 : x = P
      · subst h1; rw [atP] at e; cases e
      · by_cases h2 : x = c'
        · subst h2; rw [upd_same] at e; cases e
        · rw [same x h1 h2] at e; exact e
    refine ⟨upd G c' (LamX.CodeO c' q), ⟨⟨k.st.g.trans gx, fun x o e n => ?_, fun x o e => ?_, k.st.mn, fun x e => k.st.nn x (nn1 x e)⟩, fun x o e => ?_, k.nd, fun x c hx => ?_, fun i d e => ?_, fun i c e => ?_, k.dis, k.len, k.pb⟩, ⟨gx, fun x o e g m n => ?_, nn1⟩, upd_same⟩
    · refine at_ x o (k.st.fr x o e n) fun z => ?_
      subst z
      exact (k.st.mn x dP).elim n (not_both e)
    · rcases gold x o e with ⟨rfl, _⟩ | e
      · exact .inr (k.st.nn x new)
      · exact k.st.gn x o e
    · rcases gold x o e with ⟨rfl, rfl⟩ | e
      · exact upd_same
      · exact at_ x o (k.ex x o e) fun z => by subst z; rw [gP] at e; cases e
    · by_cases hp : x = P
      · subst hp
        have ec := mem_one k.nd hx hM
        subst ec
        obtain ⟨_, _, _, ta, _⟩ := k.ms x _ hM
        refine ⟨gnone x gP nPC, _, atP, ta, ps2, rfl, tri, fun pos cv hcv => ?_⟩
        rcases kn2 pos cv hcv with z | z
        · obtain ⟨c, e1, e2⟩ := kn pos cv z
          exact ⟨c, e1, gx _ _ e2⟩
        · exact ⟨c', z, upd_same⟩
      · obtain ⟨g, o, e, ok⟩ := k.ms x c hx
        exact ⟨gnone x g fun z => not_both (z ▸ e) new, o, at_ x o e hp, ok.mono gx⟩
    · obtain ⟨v, h1, h2⟩ := k.dat i d e
      exact ⟨v, h1, h2.mono gx⟩
    · obtain ⟨p, h1, h2, h3, g, o, e, ok⟩ := k.own i c e
      exact ⟨p, h1, h2, h3, gnone p g fun z => not_both (z ▸ e) new, o, at_ p o e fun z => h3 (z ▸ dP), ok.mono gx⟩
    · exact ⟨at_ x o e fun z => m (z ▸ dP), gnone x g fun z => not_both (z ▸ e) new, m, n⟩
end Gw

namespace Gw
open PySem PySem.Spec L2 PyProof.Rows
variable {ρ : Ent}
abbrev noE : XK := fun _ _ _ => False
section
variable {X : Cx} {k : Nat} {x a : Str} {g c P : Addr} {st : Stmt} {kV doc pm cd ct oc : Value} {an od : Option Addr} {osl : Array (Option Value)} {Ng : List Str} {ps : Arguments} {b : Expr} {sc : Scope} {tb : XK → TE} {p lpos pos : Pos}
end
end Gw

namespace Gw
open PySem PySem.Spec L2 PyProof.Rows
section
variable {P : Program} {w : World} {K : PySem.W.Frag} {mg mb : Str → Option Value} {base : Heap}
abbrev noObj : Obj := { cls := .none, data := .fields #[] }
end
end Gw

namespace Gw
open PySem PySem.Spec L2 PyProof.Rows
theorem Un.more {fs ex : List Addr} {H H1 : Hp} {h h1 : Heap} {a : Addr} {o : HO} (u : Un fs ex H H1 h h1) (ha : H1 a = none) (nh : ∀ ob, h.get? a ≠ some ob) : Un fs ex H (upd H1 a o) h h1 where
  keep := u.keep
  slot := u.slot
  free := fun b ob e n x => by
    have ne : b ≠ a := fun z => nh ob (by rw [← z]; exact e)
    rw [upd_ne ne]
    exact u.free b ob e n x
  there := u.there
  tups := fun b xs e => Ex.new ha _ _ (u.tups b xs e)
  frzs := fun b ob v e => Ex.new ha _ _ (u.frzs b ob v e)
  tbls := fun b ps e => (u.tbls b ps e).imp fun more z => Ex.new ha _ _ z
theorem HOk.more {P : Program} {w : World} {H : Hp} {h : Heap} {a : Addr} {o : HO} (k : HOk P w H h) (ha : H a = none) (new : ObjOk P w (upd H a o) h a o) : HOk P w (upd H a o) h := fun b v e => by
  by_cases z : b = a
  · subst z
    rw [upd_same] at e
    cases e
    exact new
  · rw [upd_ne z] at e
    exact (k b v e).stay (fun _ _ _ q => q) (fun _ q => Ex.new ha _ _ q) fun _ _ q => Ex.new ha _ _ q
theorem cloO_ok {P : Program} {w : World} {H : Hp} {h : Heap} {a c c' : Addr} {F q : Str} {p p1 p2 p3 p4 : Pos} {pm ct : Value} (e : h.get? a = some (colO q F p p1 p2 p3 p4 c c' pm ct)) : ObjOk P w H h a (cloO a F q c c') :=
  ⟨⟨p, p1, p2, p3, p4, pm, ct, e⟩, ⟨_, e⟩, fun h1 h2 ⟨p, p1, p2, p3, p4, pm, ct, e⟩ k => ⟨p, p1, p2, p3, p4, pm, ct, k _ e⟩⟩
theorem celO_ok {P : Program} {w : World} {H : Hp} {h : Heap} {c : Addr} {i : Int} {u : Value} (r : RelV (.int i) u) (e : h.IsCell c (some u)) : ObjOk P w H h c (celO c i) := by
  obtain ⟨o, e1, e2⟩ := e
  exact ⟨⟨u, r, o, e1, e2⟩, ⟨o, e1⟩, fun h1 h2 ⟨u, r, o, e1, e2⟩ k => ⟨u, r, o, k _ e1, e2⟩⟩
def S_col (x F : Str) : ASp := fun ds M Q => ∃ (P : Addr) (w : Int), ds = [.int w] ∧ M.lookup P = some (.tab (lamOf x)) ∧ Q (.dat (.clo F w)) M
theorem ar_col (x F : Str) : Ar 1 (S_col x F) := fun _ _ _ ⟨_, _, e, _⟩ => by rw [e]; rfl
def mkS : Scope := { kind := .function, names := [("wire", .cell)], isGenerator := false, isCoroutine := false, more := [] }
section
variable {Pg : Program} {W : World} {K : PySem.W.Frag} {mg : Str → Option Value} {base : Heap}
abbrev mkCx (Pg : Program) (W : World) (K : PySem.W.Frag) (mg : Str → Option Value) (base : Heap) (x : Str) (g : Addr) (cd : Value) (A : Around) (outer : List Env) (s : Shared) (H : Hp) : Cx := cxOf CX0 Pg W K mg base ["wire"] x mkS g cd A outer s H noE
theorem mk_scope : FnScope ["wire"] ["wire"] mkS := ⟨rfl, rfl, rfl, by decide, rfl, fun x hx => by cases List.mem_singleton.mp hx; exact .inr rfl, fun y hy => by cases List.mem_singleton.mp hy; decide⟩
theorem mk_end {x F : Str} {g cL P : Addr} {A : Around} {outer : List Env} {s s1 : Shared} {H G : Hp} {M : Mem} {i : Int} {Q : VK} {p p1 p2 p3 p4 p5 : Pos} {v : V}
    (I : Inv (mkCx Pg W K mg base x g (.ref cL) A outer s H) [] (L2.start ["wire"] [v]) H s1) (TB : LamX.TabB base mg cL P) (ev : v = .int i) (ex : Ex G H) (nd : (dom M).Nodup) (ms : ∀ a c, (a, c) ∈ M → Cel K H G a c)
    (hl : M.lookup P = some (.tab (x ++ ".<locals>." ++ "<lambda>")))
    (fin : ∀ (f : Addr) (H' G' : Hp), Post K H G M H' G' M → Rep K G' (.clo F i) (.ref f) → Q (.ref f) H') :
    wpAny (model Pg W) (A.deeper (envOfC x mkS s.heap.objs.size g (.ref cL))) (eval (.Lambda (colA p) (colB F p1 p2 p3 p4) colS p5) (envOfC x mkS s.heap.objs.size g (.ref cL))) (fun u s2 => CE outer Pg W H s Q u s2) (mkCx Pg W K mg base x g (.ref cL) A outer s H).xe s1 := by
  subst ev
  have hM := lookup_mem hl
  have k0 : Ok K ⟨H, G, dom M⟩ ⟨H, G, dom M⟩ (L2.start ["wire"] [.int i]) H G (slots 1 [.int i]) M := ok_start (N := ["wire"]) ex nd ms (RepL.one (by rw [Rep]))
  obtain ⟨gP, o, isT, ta, ps, rfl, tri, kn⟩ := k0.ms P _ hM
  refine mk_lam (X := mkCx Pg W K mg base x g (.ref cL) A outer s H) I TB rfl isT tri (fun pos cv hc => (kn pos cv hc).imp fun c z => ⟨z.1, k0.ex _ _ z.2⟩) rfl (fun y hy e => ?_) fun f c' pm ct H1 s2 gr J isf nf nfr big => ?_
  · have hy : y ∈ [(("keeper" : Str), NameKind.local), (("wire" : Str), NameKind.free)] := hy
    rcases List.mem_cons.mp hy with z | z
    · subst z; cases e
    · cases List.mem_singleton.mp z
      exact cell_has (sc := mkS) rfl
  · obtain ⟨G1, k1, e1, gc⟩ := k0.grown hM isT kn gr
    obtain ⟨cc, hcc⟩ : ∃ c, (cellsFrom (s.heap.objs.size + 1) mkS.names []).lookup ("wire" : Str) = some c := cell_has (sc := mkS) rfl
    have isCell : ∃ u, RelV (.int i) u ∧ s2.heap.IsCell cc (some u) := by
      obtain ⟨m, hn, hlk⟩ := J.loc
      obtain ⟨u, ru, l⟩ := hlk 0 "wire" (.int i) rfl rfl (.inr (.inl rfl))
      refine ⟨u, ru, ?_⟩
      rcases l with ⟨k, _⟩ | ⟨_, c, e, z⟩
      · cases k
      · have e' : (cellsFrom (s.heap.objs.size + 1) mkS.names []).lookup ("wire" : Str) = some c := e
        rw [hcc] at e'
        cases e'
        exact z
    obtain ⟨u, ru, hcell⟩ := isCell
    have fresh : ∀ b, s.heap.objs.size ≤ b → ∀ ob, s.heap.get? b ≠ some ob := fun b hb ob e => absurd (Heap.lt_size e) (Nat.not_lt.mpr hb)
    have ccBig : s.heap.objs.size ≤ cc := by
      have := I.ok.cab "wire" cc rfl hcc
      exact this
    have nfc : f ≠ cc := fun z => by
      obtain ⟨o, ho, hd⟩ := hcell
      rw [← z, isf] at ho
      cases ho
      cases hd
    have nc : H1 cc = none := J.freeC "wire" cc hcc
    have isf' : s2.heap.get? f = some (colO (x ++ ".<locals>." ++ "<lambda>") F p p1 p2 p3 p4 cc c' pm ct) := by
      rw [isf]
      have clo : cloFrom (mkCx Pg W K mg base x g (.ref cL) A outer s H).env.cells colS.names [] = [(("wire" : Str), cc)] := by
        show cloFrom (cellsFrom (s.heap.objs.size + 1) mkS.names []) colS.names [] = _
        revert hcc
        simp [cellsFrom, mkS, colS, cloFrom]
      show some (PySem.W.kla_obj "<lambda>" (x ++ ".<locals>." ++ "<lambda>") (colA p) (colB F p1 p2 p3 p4) colS (cloFrom (mkCx Pg W K mg base x g (.ref cL) A outer s H).env.cells colS.names []) pm c' ct) = _
      rw [clo]
      rfl
    obtain ⟨k2, e2⟩ := k1.new (p := f) (o := cloO f F (x ++ ".<locals>." ++ "<lambda>") cc c') nf
    have nc2 : upd H1 f (cloO f F (x ++ ".<locals>." ++ "<lambda>") cc c') cc = none := by rw [upd_ne nfc.symm]; exact nc
    obtain ⟨k3, e3⟩ := k2.new (p := cc) (o := celO cc i) nc2
    have hok1 : HOk Pg W H1 s2.heap := J.hok
    have hok2 := HOk.more hok1 nf (cloO_ok (P := Pg) (w := W) (H := upd H1 f (cloO f F (x ++ ".<locals>." ++ "<lambda>") cc c')) isf')
    have hok3 := HOk.more hok2 nc2 (celO_ok ru hcell)
    have un1 : Un (frs outer) [] H H1 s.heap s2.heap := J.base
    have big' : s.heap.objs.size ≤ f := Nat.le_trans I.sz big
    refine ⟨.ref f, _, J.os, J.bare, Un.more (Un.more un1 nf (fresh f big')) nc2 (fresh cc ccBig), hok3, rfl, fin f _ _ ⟨k3.st, k3.ex, k3.nd, k3.ms⟩ ?_⟩
    refine rep_clo.mpr ⟨f, cc, c', _, rfl, ?_, upd_same, e3.g _ _ (e2.g _ _ gc)⟩
    rw [upd_ne nfc]
    exact upd_same
theorem fn_maker {k : Nat} {x F : Str} {g cL P : Addr} {as : Arguments} {oc kV doc pm ct : Value} {od an : Option Addr} {osl : Array (Option Value)} {p p1 p2 p3 p4 p5 p6 : Pos}
    (lk : K.lookup g = some ⟨oc, od, .func (PySem.W.fnOf x x as [.Return (some (.Lambda (colA p) (colB F p1 p2 p3 p4) colS p5)) p6] mkS .none kV doc pm an (.ref cL) ct), osl⟩) (hc : PySem.W.codeIn K (.ref cL) x = true) (tI : PySem.W.tabIn K x = some (cL, P)) (TB : LamX.TabB base mg cL P) :
    FnG Pg W K mg base CX0 (k + 1) g (PySem.W.fnOf x x as [.Return (some (.Lambda (colA p) (colB F p1 p2 p3 p4) colS p5)) p6] mkS .none kV doc pm an (.ref cL) ct) ["wire"] (spA K 1 (S_col x F)) where
  arity := fun vs H Q E h => by obtain ⟨_, _, _, hl, _⟩ := h; exact hl
  go := fun A outer s H args us vs Q E room gd e0 bind rel hsp => by
    obtain ⟨G, M, ds, hl, ex, nd, ms, rl, Qa, ⟨P', i, rfl, hM, hQ⟩, fin⟩ := hsp
    obtain ⟨_, _, _, ta, _⟩ := ms P' _ (lookup_mem hM)
    have eP := ta x cL P tI rfl
    subst eP
    obtain ⟨v, r, rfl, rv, rn⟩ := repL_cons.mp rl
    cases repL_nil.mp rn
    have ev : v = .int i := by rw [Rep] at rv; exact rv
    have KX : K.In s.heap := e0.mod.kin.keeps fun b o e => (e0.bs b o e).1
    have lim : s.heap.NoLimit := e0.mod.nolimit.keeps fun b o e => (e0.bs b o e).1
    apply codeAny_call_function room.depth (KX _ _ lk) rfl rfl rfl rfl (PySem.W.codeRec_of KX hc)
    apply bind
    apply wpAny_newFunctionEnv_cells rfl
    · rintro ⟨n, u⟩ hy
      have hn := (List.of_mem_zip hy).1
      cases List.mem_singleton.mp hn
      exact .inr ⟨rfl, PySem.W.cellsFrom_some _ _ _ (.inl rfl)⟩
    · rintro env rfl s1 ic
      refine ⟨lim.keeps ic.toInCall.keep, codeAny_func ?_⟩
      have I : Inv (mkCx Pg W K mg base x g (.ref cL) A outer s H) [] (L2.start ["wire"] [v]) H s1 := inv_start mk_scope room.hd e0 rfl rel ic
      apply wpAny_execs_cons
      apply wpAny_Return_some
      refine wpAny_mono (mk_end (Q := Q) (F := F) (p := p) (p1 := p1) (p2 := p2) (p3 := p3) (p4 := p4) (p5 := p5) I TB ev ex nd ms hM fun f H' G' post rep => fin _ M _ H' G' hQ post rep) (fun u s2 h => h) fun e s2 h => h
end
end Gw

namespace Gw
open PySem PySem.Spec L2 PyProof.Rows
variable {ρ : Ent}
def wo (H : Hp) (c : Addr) : Hp := fun b => if b = c then none else H b
theorem wo_at {H : Hp} {c : Addr} : wo H c c = none := if_pos rfl
theorem wo_ne {H : Hp} {b c : Addr} (h : b ≠ c) : wo H c b = H b := if_neg h
theorem wo_of {H : Hp} {b c : Addr} {o : HO} (h : wo H c b = some o) : b ≠ c ∧ H b = some o := by
  by_cases z : b = c
  · rw [z, wo_at] at h; cases h
  · rw [wo_ne z] at h; exact ⟨z, h⟩
theorem wo_none {H : Hp} {b c : Addr} (h : H b = none) : wo H c b = none := by
  by_cases z : b = c
  · rw [z]; exact wo_at
  · rw [wo_ne z]; exact h
abbrev colE (q : Str) (L f c c' : Addr) : Env := PySem.W.envX q colS L f (.ref c') [("wire", c)]
def colCx (X : Cx) (s : Shared) (H : Hp) (q : Str) (f c c' : Addr) : Cx where
  prog := X.prog
  w := X.w
  K := X.K
  mg := X.mg
  base := X.base
  A := X.A.deeper (colE q s.heap.objs.size f c c')
  N := ["keeper", "wire"]
  s_0 := s
  H_0 := wo H c
  env := colE q s.heap.objs.size f c c'
  outer := X.stack
  stack := colE q s.heap.objs.size f c c' :: X.stack
  ex := []
  fn := fun _ => false
  calm := true
  pn := []
  xe := fun e s' => wpAny (model X.prog X.w) (X.A.deeper (colE q s.heap.objs.size f c c')) (leaving (colE q s.heap.objs.size f c c') e) (fun _ s'' => CX0 X.stack (wo H c) s noE e s'') (fun e' s'' => CX0 X.stack (wo H c) s noE e' s'') s'
theorem HOk.wo {P : Program} {w : World} {H : Hp} {h : Heap} {c : Addr} {φ : Heap → Prop} (k : HOk P w H h) (hc : H c = some (.ext φ)) : HOk P w (wo H c) h := fun b o e => by
  obtain ⟨ne, e'⟩ := wo_of e
  refine (k b o e').stay (fun _ _ _ q => q) (fun d q => ?_) fun d xs q => ?_
  · rw [wo_ne fun z => by rw [z, hc] at q; cases q]; exact q
  · rw [wo_ne fun z => by rw [z, hc] at q; cases q]; exact q
section
variable {X : Cx} {pins : List (Addr × Obj)} {σ : L2.St} {H : Hp} {s : Shared}
theorem col_start {q : Str} {f c c' ap : Addr} {w : Int} {h1 : Heap} {tk : Nat} {u : Value} (I : Inv X pins σ H s) (hd : X.A.handled = none) (hc : H c = some (celO c w)) (ru : u = .ref ap)
    (ns : h1.Ns s.heap.objs.size fun y => ([("keeper", u)] : List (Str × Value)).reverse.lookup y) (kp : ∀ b o, s.heap.get? b = some o → h1.get? b = some o) :
    Inv (colCx X s H q f c c') [] [some (.ref ap), some (.int w)] (wo H c) { s with heap := h1, toks := tk } := by
  have e0 := I.env0
  obtain ⟨⟨uw, ruw, hcell⟩, -, -⟩ := I.hok c _ hc
  have cell1 : h1.IsCell c (some uw) := by
    obtain ⟨o, e1, e2⟩ := hcell
    exact ⟨o, kp _ _ e1, e2⟩
  have only : ∀ {x : Str} {d : Addr}, ([("wire", c)] : List (Str × Addr)).lookup x = some d → x = "wire" ∧ d = c := fun {x d} e => by
    rw [List.lookup_cons] at e
    split at e
    · rename_i z
      cases e
      exact ⟨by simpa using z, rfl⟩
    · cases e
  have fr : H s.heap.objs.size = none := I.hok.fresh (Nat.le_refl _)
  have hokw : HOk X.prog X.w (wo H c) s.heap := HOk.wo I.hok hc
  refine ⟨⟨e0.mod, rfl, rfl, rfl, Nat.le_refl _, fun x y d e1 e2 => ?_, fun x hx => ?_, fun x d z => (by cases z), fun _ => hd, Around.frames_deeper e0.frames, .inr ⟨rfl, rfl⟩, fun b z => (nomatch z), fun b o e => ⟨(e0.bs b o e).1, wo_none (e0.bs b o e).2⟩, e0.bsz, fun b _ _ z => (nomatch z), fun b z => (nomatch z), e0.funs, fun b hb => wo_none (e0.frf b hb)⟩,
    rfl, e0.bare, Un.kept kp, ⟨_, ns, fun i x v e1 e2 e3 => ?_⟩, fun x d e => ?_, wo_none fr, fun x d e => ?_, fun p hp => (nomatch hp), hokw.kept kp, rfl⟩
  · obtain ⟨rfl, _⟩ := only e1
    obtain ⟨rfl, _⟩ := only e2
    rfl
  · refine ⟨c, ?_⟩
    have hx : colS.names.lookup x = some .cell ∨ colS.names.lookup x = some .free := hx
    unfold colS at hx
    simp only [List.lookup_cons] at hx
    by_cases z : x = "wire"
    · subst z; rfl
    · have z' : (x == ("wire" : Str)) = false := by simpa using z
      rw [z'] at hx
      split at hx <;> simp at hx
  · match i, e1, e2 with
    | 0, e1, e2 =>
      cases e1
      cases e2
      exact ⟨u, ru, .inl ⟨rfl, rfl⟩⟩
    | 1, e1, e2 =>
      cases e1
      cases e2
      exact ⟨uw, ruw, .inr ⟨.inr rfl, c, rfl, cell1⟩⟩
    | n + 2, e1, e2 => simp at e2
  · obtain ⟨_, rfl⟩ := only e
    exact ⟨_, cell1⟩
  · obtain ⟨_, rfl⟩ := only e
    exact wo_at
def tCol (K : PySem.W.Frag) (i : Nat) (ta : TA) : TE := fun σ H Q => ∃ f, σ[i]? = some (some (.ref f)) ∧ ta σ H fun vs H1 => ∃ (ap c c' : Addr) (F q : Str) (w : Int) (C dx l : Addr) (fs : List (Str × V)) (xs : List V) (v : V),
  vs = [.ref ap] ∧ H1 f = some (cloO f F q c c') ∧ H1 c = some (celO c w) ∧ H1 c' = some (LamX.CodeO c' q) ∧ H1 ap = some (.ins C dx fs) ∧ Cls K C ∧ NoAttr K C F ∧ fs.lookup F = some (.ref l) ∧ H1 l = some (.lst xs) ∧ L2.atI xs w = some v ∧ Q v H1
theorem pe_col {a : Str} {i k : Nat} {p1 p2 : Pos} {e : Expr} {ta : TA} (at_ : X.N[i]? = some a) (vis : Vis X.env.scope a) (ha : PA X [e] ta) (gd : X.A.guards = some []) (room : Room (k + 1) X.A) (d1 : (a == ("__debug__" : Str)) = false := by decide) (d2 : (a == ("__classdict__" : Str)) = false := by decide)
    (he : starEach [e] X.env = (false, eval e X.env) :: starEach [] X.env := by rfl) (hpl : (backTo p2 (starEach [e] X.env)).any (·.1) = false := by rfl) : PE X (.Call (.Name a p1) [e] [] p2) (tCol X.K i ta) := by
  constructor
  rintro pins s σ H Q I ⟨f, slot, wish⟩
  apply wpAny_Call_Name_kw
  apply thn ((pe_var (pos := p1) (i := i) at_ vis d1 d2).run pins s σ H (fun v H1 => v = .ref f ∧ H1 = H) I ⟨.ref f, slot, rfl, rfl⟩)
  rintro u s1 ⟨v, H1, J1, rv, ev, eH⟩
  subst ev
  subst eH
  have eu : u = Value.ref f := rv
  subst eu
  apply PySem.W.callWith_of (by show ((false || (backTo p2 (starEach [e] X.env)).any (·.1)) || false) = false; rw [hpl]; rfl) PySem.W.keeps_F
  rw [he]
  apply Calls.evalArgs_plain
  have got := ha.run p2 pins s1 σ H1 _ J1 wish
  rw [he] at got
  apply thn got
  rintro us s2 ⟨vs, H2, J2, rel, ap, c, c', F, q, w, C, dx, l, fs, xs, v, rfl, hf, hc, hc', hap, cls, na, hF, hl, hx, hQ⟩
  obtain ⟨⟨p, q1, q2, q3, q4, pm, ct, isf⟩, -, -⟩ := J2.hok f _ hf
  obtain ⟨⟨oc, os, t, oc1, oc2, oc3⟩, -, -⟩ := J2.hok c' _ hc'
  refine ⟨⟨_, _, _, _, isf⟩, ?_⟩
  obtain ⟨ua, hua⟩ : ∃ ua, us = [ua] ∧ ua = .ref ap := by
    cases rel with
    | cons r rest =>
      cases rest
      exact ⟨_, rfl, r⟩
  obtain ⟨rfl, rua⟩ := hua
  have neC : ∀ {b : Addr} {o : HO}, H2 b = some o → (∀ φ, o ≠ .ext φ) → b ≠ c := fun {b o} e h z => by
    rw [z, hc] at e
    cases e
    exact h _ rfl
  have runs : codeAny (model X.prog X.w) X.A (.call (.ref f) ⟨[ua], []⟩) (CR CX0 X.stack X.prog X.w H2 s2 Q noE) s2 := by
    apply PySem.W.kla_callFunE room.depth isf rfl rfl rfl rfl ⟨c', oc, os, t, rfl, oc1, oc2, oc3⟩
    have bnd : BindsTo s2 (PySem.W.kla_fn "<lambda>" q (colA p) (colB F q1 q2 q3 q4) colS [("wire", c)] pm (.ref c') ct) ⟨[ua], []⟩ [("keeper", ua)] := BindsTo.of_eq rfl
    apply bnd
    refine wpAny_newFunctionEnv (fun y hy => ?_) (fun y hy => ?_) (fun h1 ns bt => ?_) rfl
    · have hy : y ∈ [(("keeper" : Str), NameKind.local), (("wire" : Str), NameKind.free)] := hy
      rcases List.mem_cons.mp hy with z | z
      · rw [z]; decide
      · rw [List.mem_singleton.mp z]; decide
    · rw [List.mem_singleton.mp hy]; rfl
    · refine ⟨J2.nolimit.fresh _ bt, ?_⟩
      have stay : ∀ b o, s2.heap.get? b = some o → h1.get? b = some o := fun b o e => bt.extBut b o (Nat.ne_of_lt (Heap.lt_size e)) (Heap.get?_push_of_some _ e)
      have S := col_start (q := q) (f := f) (c' := c') (tk := s2.toks + ([("keeper", ua)] : List (Str × Value)).length) J2 room.hd hc rua ns stay
      apply PySem.W.kla_codeExpr
      have pe : PE (colCx X s2 H2 q f c c') (colB F q1 q2 q3 q4) (tOp (rIxL X.K) (tFld X.K (tVar 0) F) (tVar 1)) :=
        pe_ix (X := colCx X s2 H2 q f c c') (r := rIxL X.K) ix_list (pe_fld (X := colCx X s2 H2 q f c c') (pe_var (i := 0) rfl (.inl rfl)) (by rfl)) (pe_var (i := 1) rfl (.inr (.inr rfl))) (fun _ _ => rfl)
      have te : tOp (rIxL X.K) (tFld X.K (tVar 0) F) (tVar 1) [some (.ref ap), some (.int w)] (wo H2 c) (fun v' H' => v' = v ∧ H' = wo H2 c) := by
        refine ⟨.ref ap, rfl, ap, C, dx, fs, .ref l, rfl, ?_, cls, na, hF, .int w, rfl, l, xs, w, v, rfl, rfl, .inl (.inl ?_), hx, rfl, rfl⟩
        · rw [wo_ne (neC hap fun φ z => nomatch z)]; exact hap
        · rw [wo_ne (neC hl fun φ z => nomatch z)]; exact hl
      apply wpAny_mono (pe.run [] _ _ _ _ S te)
      · rintro r s3 ⟨v2, H3, K2, rr, e1, e2⟩
        subst e1
        subst e2
        have un : Un (frs X.stack) [] (wo H2 c) (wo H2 c) s2.heap s3.heap := K2.base
        have hok : HOk X.prog X.w (wo H2 c) s3.heap := K2.hok
        obtain ⟨uw, ruw, cell3⟩ : ∃ uw, RelV (.int w) uw ∧ s3.heap.IsCell c (some uw) := by
          obtain ⟨m, hn, hlk⟩ := K2.loc
          obtain ⟨u, ru, lk⟩ := hlk 1 "wire" (.int w) rfl rfl (.inr (.inr rfl))
          refine ⟨u, ru, ?_⟩
          rcases lk with ⟨z, _⟩ | ⟨_, d, e, z⟩
          · cases z
          · have e' : ([("wire", c)] : List (Str × Addr)).lookup ("wire" : Str) = some d := e
            cases e'
            exact z
        refine ⟨v2, H2, K2.os, K2.bare, ⟨fun b o e n => un.keep b o e (wo_none n), fun b o e n => un.slot b o e (wo_none n), fun b o e n x => n, un.there, fun _ _ z => z, fun _ _ _ z => z, fun b ps z => ⟨#[], by rw [z]; simp⟩⟩, fun b o e => ?_, rr, hQ⟩
        by_cases z : b = c
        · subst z
          rw [hc] at e
          cases e
          exact celO_ok ruw cell3
        · have e' : wo H2 c b = some o := by rw [wo_ne z]; exact e
          exact (hok b o e').stay (fun _ _ _ q => q) (fun d q => (wo_of q).2) fun d xs q => (wo_of q).2
      · intro _ _ z
        exact z
  apply wpAny_call
  apply codeAny_mono runs
  intro res s3 hq
  match res, hq with
  | .error e, hq => exact (show False from hq).elim
  | .ok (.ret _), hq => exact J2.after hq
  | .ok .next, hq => exact hq.elim
  | .ok .brk, hq => exact hq.elim
  | .ok .cont, hq => exact hq.elim
def colD (cn F : Str) (w : Int) (a : Addr) (M : Mem) : Option D := match M.lookup a with
  | some (.ins cn' ns ds) => if cn' = cn then match fldD F ns ds with
    | some (.ref l) => match M.lookup l with
      | some (.lst xs) => L2.atI xs w
      | _ => none
    | _ => none
    else none
  | _ => none
def aCol (cn : Str) (fs : List Str) (i : Nat) (ar : AA) : AE := fun Γ M Q => ∃ F w, Γ[i]? = some (.dat (.clo F w)) ∧ F ∈ fs ∧ ar Γ M fun ds Γ1 M1 => ∃ a d, ds = [.ref a] ∧ colD cn F w a M1 = some d ∧ Q (.dat d) Γ1 M1
theorem rd_col {cn : Str} {F : List Str} {i : Nat} {tr : TA} {ar : AA} (T : ClsP X.K cn F) (h : RdA X.K ρ tr ar) : RdE X.K ρ (tCol X.K i tr) (aCol cn F i ar) := by
  intro B σ H G Γ M Q R k hh kont
  obtain ⟨f, w, sl, hf, hh⟩ := hh
  obtain ⟨v, sv, rv⟩ := k.dat i _ sl
  obtain ⟨a, c, c', q, rfl, g1, g2, g3⟩ := rep_clo.mp rv
  refine ⟨a, sv, h B σ H G Γ M _ _ k hh fun vs H1 G1 Γ1 M1 ds k1 e1 rl h1 => ?_⟩
  obtain ⟨ap, d, rfl, hcol, hQ⟩ := h1
  obtain ⟨x, r, rfl, rx, rn⟩ := repL_cons.mp rl
  cases repL_nil.mp rn
  have ex : x = .ref ap := by rw [Rep] at rx; exact rx
  subst ex
  unfold colD at hcol
  split at hcol
  · rename_i cn' ns fds hl
    split at hcol
    · rename_i ec
      subst ec
      split at hcol
      · rename_i l hfd
        split at hcol
        · rename_i xs hll
          obtain ⟨g0, u, hu, C, dx, ws, hn, rfl, hns, hr⟩ := k1.ms ap _ (lookup_mem hl)
          obtain ⟨C', hn', cl, na⟩ := T.ex
          rw [hn] at hn'
          cases hn'
          obtain ⟨wl, hw, rw'⟩ := lookup_rep hns hr hfd
          have el : wl = .ref l := by rw [Rep] at rw'; exact rw'
          subst el
          obtain ⟨gl, ul, hul, vsl, rfl, rvl⟩ := k1.ms l _ (lookup_mem hll)
          obtain ⟨v, hv, rvv⟩ := atI_rep rvl hcol
          exact ⟨ap, c, c', f, q, w, C, dx, l, ws, vsl, v, rfl, k1.ex _ _ (e1.g _ _ g1), k1.ex _ _ (e1.g _ _ g2), k1.ex _ _ (e1.g _ _ g3), hu, cl, na f hf, hw, hul, hv, kont v H1 G1 Γ1 M1 (.dat d) k1 e1 rvv hQ⟩
        · cases hcol
      · cases hcol
    · cases hcol
  · cases hcol
theorem q_col {K : PySem.W.Frag} {cn : Str} {F : List Str} {a : Str} {i k : Nat} {p1 p2 : Pos} {e : Expr} {tr : TA} {ar : AA} (T : ClsP K cn F) (at_ : X.N[i]? = some a) (ha : QA X ρ [e] tr ar) (gd : X.A.guards = some []) (room : Room (k + 1) X.A) (vis : Vis X.env.scope a := by exact .inl rfl)
    (hK : X.K = K := by rfl) (d1 : (a == ("__debug__" : Str)) = false := by decide) (d2 : (a == ("__classdict__" : Str)) = false := by decide)
    (he : starEach [e] X.env = (false, eval e X.env) :: starEach [] X.env := by rfl) (hpl : (backTo p2 (starEach [e] X.env)).any (·.1) = false := by rfl) :
    QE X ρ (.Call (.Name a p1) [e] [] p2) (tCol K i tr) (aCol cn F i ar) := by
  subst hK
  exact ⟨pe_col at_ vis ha.pe gd room d1 d2 he hpl, rd_col T ha.rd⟩
end
def e_aCol := @aCol.eq_def
end Gw

namespace Gw
open PySem PySem.Spec L2 PyProof.Rows
abbrev Mk3 := Str × Addr × Addr
def tabsM (Ms : List Mk3) : Mem := Ms.map fun m => (m.2.2, .tab (lamOf m.1))
section
variable {P : Program} {w : World} {K : PySem.W.Frag} {mg mb : Str → Option Value} {base : Heap}
def SLawN (S : List Int → Prop) (Ms : List Mk3) : ASp := fun ds M Q => ∃ ns : List Int, ds = [.scr (ns.map .int)] ∧ M = tabsM Ms ∧ S ns ∧ ∀ M', Q (.dat (.bl true)) M'
theorem ar_lawN (S : List Int → Prop) (Ms : List Mk3) : Ar 1 (SLawN S Ms) := fun _ _ _ ⟨_, e, _⟩ => by rw [e]; rfl
def spLawN (K : PySem.W.Frag) (S : List Int → Prop) (Ms : List Mk3) : Sp := fun vs H Q _ => ∃ (a : Addr) (ns : List Int), vs = [.ref a] ∧ (∀ m ∈ Ms, a ≠ m.2.2 ∧ H m.2.2 = some (.tbl #[])) ∧ SqL K H a (ns.map V.int) ∧ S ns ∧ ∀ H', Q (.bl true) H'
theorem law_fnN {S : List Int → Prop} {k : Nat} {f : Addr} {Ms : List Mk3} {fd : FuncData} {x : Str} (nd : (Ms.map (·.2.2)).Nodup) (ta : ∀ m ∈ Ms, TabAt K m.2.2 (lamOf m.1)) (F : FnG P w K mg base CX0 k f fd [x] (spA K 1 (SLawN S Ms))) : FnG P w K mg base CX0 k f fd [x] (spLawN K S Ms) where
  arity := fun vs H Q E h => by obtain ⟨a, ns, rfl, _⟩ := h; rfl
  go := fun A o s H ar us vs Q E r gd e b rv h => F.go A o s H ar us vs Q E r gd e b rv (by
    obtain ⟨a, ns, rfl, hT, sq, hS, hq⟩ := h
    have exG : Ex (fun b => if b ∈ Ms.map (·.2.2) then none else H b) H := fun b o e => by
      by_cases h : b ∈ Ms.map (·.2.2)
      · cases (if_pos h).symm.trans e
      · exact (if_neg h).symm.trans e
    have ne : a ∉ Ms.map (·.2.2) := fun z => by
      obtain ⟨m, hm, e⟩ := List.mem_map.mp z
      exact (hT m hm).1 e.symm
    have sq' : SqL K (fun b => if b ∈ Ms.map (·.2.2) then none else H b) a (ns.map V.int) := by
      rcases sq with z | z
      · left
        rcases z with z | ⟨o, z⟩
        · exact .inl ((if_neg ne).trans z)
        · exact .inr ⟨o, (if_neg ne).trans z⟩
      · exact .inr z
    refine ⟨fun b => if b ∈ Ms.map (·.2.2) then none else H b, tabsM Ms, [.scr (ns.map .int)], rfl, exG, ?_, fun b c hb => ?_, RepL.one (rep_scr.mpr ⟨a, _, rfl, sq', repL_map_int.mpr rfl⟩), fun r _ => r = .dat (.bl true), ⟨ns, rfl, rfl, hS, fun _ => rfl⟩, fun r M' v H' G' er _ rr => ?_⟩
    · rw [show dom (tabsM Ms) = Ms.map (·.2.2) by simp [dom, tabsM]]
      exact nd
    · obtain ⟨m, hm, e⟩ := List.mem_map.mp hb
      cases e
      refine ⟨if_pos (List.mem_map.mpr ⟨m, hm, rfl⟩), _, (hT m hm).2, ta m hm, #[], rfl, True.intro, fun pos cv z => ?_⟩
      simp [codeAmong] at z
    · subst er
      have ev : v = .bl true := by have := rr; simp only [RetOk, Rep] at this; exact this
      subst ev
      exact hq H')
theorem env_scriptN {s : Shared} {H : Hp} {a : Addr} {Ms : List Mk3} {vs : List Value} (KX : K.In s.heap) (hns : s.heap.Ns mainGlobals mg) (hb : s.heap.Ns builtinsNs mb) (hbb : ∀ x : Str, x ≠ "__name__" → mb x = bootBuiltins x) (lim : s.heap.NoLimit) (hg : s.gens = #[])
    (ha : s.heap.get? a = some { cls := .type "list", data := .seq vs.toArray }) (hT : ∀ m ∈ Ms, s.heap.get? m.2.2 = some noObj) (nT : ∀ m ∈ Ms, K.lookup m.2.2 = none) (hd : ∀ m ∈ Ms, PySem.W.codeHdIn K m.2.1 m.2.2 = true)
    (main : ∃ (bm : Addr) (ob : Obj), mg "__builtins__" = some (.ref bm) ∧ bm ≠ builtinsNs ∧ s.heap.get? bm = some ob ∧ ob.cls = .type "module" ∧ ob.dict = some builtinsNs ∧ ob.data = .plain)
    (hok : HOk P w H s.heap) (two : ∀ b, H b ≠ none → b = a ∨ ∃ m ∈ Ms, b = m.2.2) (hK : H a ≠ none → K.lookup a = none) :
    K.In (hidT s.heap H) ∧ (hidT s.heap H).Ns mainGlobals mg ∧ (∀ m ∈ Ms, LamX.TabB (hidT s.heap H) mg m.2.1 m.2.2) ∧ Env0 P w K mg (hidT s.heap H) callerA [] s H := by
  have clear : ∀ {b : Addr} {o : Obj}, s.heap.get? b = some o → o.cls ≠ .type "list" → o.cls ≠ .none → H b = none := fun {b o} e h1 h2 => Classical.byContradiction fun z => by
    rcases two b z with eb | ⟨m, hm, eb⟩
    · rw [eb, ha] at e
      cases e
      exact h1 rfl
    · rw [eb, hT m hm] at e
      cases e
      exact h2 rfl
  have nsOf : ∀ {b : Addr} {m : Str → Option Value}, s.heap.Ns b m → (hidT s.heap H).Ns b m := by
    rintro b m ⟨o, es, ep, e, d, r⟩
    refine ⟨o, es, ep, hidT_get e (Classical.byContradiction fun z => ?_), d, r⟩
    rcases two b z with eb | ⟨m, hm, eb⟩
    · rw [eb, ha] at e
      cases e
      cases d
    · rw [eb, hT m hm] at e
      cases e
      cases d
  have kin : K.In (hidT s.heap H) := by
    intro b o e
    refine hidT_get (KX b o e) (Classical.byContradiction fun z => ?_)
    rcases two b z with eb | ⟨m, hm, eb⟩
    · rw [eb] at z e
      rw [hK z] at e
      cases e
    · rw [eb, nT m hm] at e
      cases e
  refine ⟨kin, nsOf hns, fun m hm => ?_, ⟨rfl, ⟨kin, nsOf hns, ⟨mb, nsOf hb, hbb⟩, ?_⟩, fun b o e => of_hidT e, ?_, trivial, ?_, hok, .of_eq hg⟩⟩
  · have notG : mainGlobals ≠ m.2.2 := fun z => by
      obtain ⟨o, es, ep, e, d, r⟩ := hns
      rw [z, hT m hm] at e
      cases e
      cases d
    obtain ⟨bm, ob, b1, b2, b3, b4, b5, b6⟩ := main
    refine ⟨PySem.W.codeHd_of_K kin (hd m hm), ⟨bm, ob, b1, b2, fun z => ?_, fun z => ?_, hidT_get b3 (clear b3 (by rw [b4]; decide) (by rw [b4]; decide)), b4, b5, b6⟩, notG⟩
    · obtain ⟨o, es, ep, e, d, r⟩ := hns
      rw [z, e] at b3
      cases b3
      rw [d] at b6
      cases b6
    · rw [z, hT m hm] at b3
      cases b3
      cases b6
  · obtain ⟨mc, l1, l2⟩ := lim
    exact ⟨mc, nsOf l1, l2⟩
  · rw [hidT_size]; exact Nat.le_refl _
  · intro b hb'; cases hb'
theorem law_endN {S : List Int → Prop} {k : Nat} {fa a : Addr} {Ms : List Mk3} {fd : FuncData} {x : Str} {s₁ : Shared} {vs : List Value} {ns : List Int} (KX : K.In s₁.heap) (hns : s₁.heap.Ns mainGlobals mg) (hb : s₁.heap.Ns builtinsNs mb) (hbb : ∀ x : Str, x ≠ "__name__" → mb x = bootBuiltins x) (lim : s₁.heap.NoLimit) (hg : s₁.gens = #[])
    (ha : s₁.heap.get? a = some { cls := .type "list", data := .seq vs.toArray }) (hT : ∀ m ∈ Ms, s₁.heap.get? m.2.2 = some noObj) (nT : ∀ m ∈ Ms, K.lookup m.2.2 = none) (hd : ∀ m ∈ Ms, PySem.W.codeHdIn K m.2.1 m.2.2 = true)
    (main : ∃ (bm : Addr) (ob : Obj), mg "__builtins__" = some (.ref bm) ∧ bm ≠ builtinsNs ∧ s₁.heap.get? bm = some ob ∧ ob.cls = .type "module" ∧ ob.dict = some builtinsNs ∧ ob.data = .plain)
    (hi : IntsAre vs ns) (hl : ns.length ≤ sizeLine) (hr : Room k callerA) (hS : S ns)
    (F : ∀ base : Heap, K.In base → base.Ns mainGlobals mg → (∀ m ∈ Ms, LamX.TabB base mg m.2.1 m.2.2) → FnG P w K mg base CX0 k fa fd [x] (spLawN K S Ms)) (bind : ∀ (s : Shared) (u : Value), BindsTo s fd ⟨[u], []⟩ [(x, u)]) :
    codeAny (model P w) callerA (.call (.ref fa) ⟨[.ref a], []⟩) (fun r s' => r = .ok (.ret (.bool true)) ∧ PySem.OldK s₁.heap s'.heap ∧ s'.os = s₁.os ∧ AllBare s'.gens) s₁ := by
  have aT : ∀ m ∈ Ms, a ≠ m.2.2 := fun m hm z => by
    rw [z, hT m hm] at ha
    cases ha
  have isTab := fun m (hm : m ∈ Ms) => ((PySem.W.codeHd_of_K KX (hd m hm)).tab (hT m hm)).isCodeTable
  have go : ∀ H : Hp, (∀ b, (¬ ∃ m ∈ Ms, b = m.2.2) → H b = none ∨ ∃ o xs, H b = some (.frz o (.lst xs))) → (∀ m ∈ Ms, H m.2.2 = some (.tbl #[])) → SqL K H a (ns.map V.int) → HOk P w H s₁.heap → (∀ b, H b ≠ none → b = a ∨ ∃ m ∈ Ms, b = m.2.2) → (H a ≠ none → K.lookup a = none) →
      codeAny (model P w) callerA (.call (.ref fa) ⟨[.ref a], []⟩) (fun r s' => r = .ok (.ret (.bool true)) ∧ PySem.OldK s₁.heap s'.heap ∧ s'.os = s₁.os ∧ AllBare s'.gens) s₁ := by
    intro H only HT sq hok two hK
    obtain ⟨kin, nsb, tb, e0⟩ := env_scriptN (P := P) (w := w) KX hns hb hbb lim hg ha hT nT hd main hok two hK
    have run := (F _ kin nsb tb).go callerA [] s₁ H ⟨[.ref a], []⟩ [.ref a] [.ref a] (fun v _ => v = .bl true) (fun _ _ _ => False) hr rfl e0 (bind s₁ (.ref a)) (.cons rfl .nil) ⟨a, ns, rfl, fun m hm => ⟨aT m hm, HT m hm⟩, sq, hS, fun _ => rfl⟩
    refine codeAny_mono run fun r s' h => ?_
    match r, h with
    | .error _, h => exact h.elim
    | .ok .next, h => exact h.elim
    | .ok .brk, h => exact h.elim
    | .ok .cont, h => exact h.elim
    | .ok (.ret u), ⟨v, H', os, bare, un, hok', rv, q⟩ =>
      have q' : v = .bl true := q
      subst q'
      have eu : u = Value.bool true := rv
      subst eu
      have stay : ∀ b o, (¬ ∃ m ∈ Ms, b = m.2.2) → s₁.heap.get? b = some o → s'.heap.get? b = some o := fun b o nb e => by
        rcases only b nb with z | ⟨ob, xs, z⟩
        · exact un.keep b o e z (fun m => by cases m) (fun m => by cases m)
        · obtain ⟨e1, _⟩ := hok b _ z
          obtain ⟨e2, _⟩ := hok' b _ (un.frzs b ob _ z)
          rw [e1] at e
          cases e
          exact e2
      have now : ∀ m ∈ Ms, ∃ more : Array Value, s'.heap.get? m.2.2 = some { cls := .none, data := .fields (#[] ++ more) } := fun m hm => by
        obtain ⟨more, z⟩ := un.tbls m.2.2 #[] (HT m hm)
        exact ⟨more, hok' m.2.2 _ z⟩
      refine ⟨rfl, ⟨fun b o e => ?_, fun b o e => ?_⟩, os, bare⟩
      · by_cases h : ∃ m ∈ Ms, b = m.2.2
        · obtain ⟨m, hm, rfl⟩ := h
          obtain ⟨more, now⟩ := now m hm
          rw [hT m hm] at e
          cases e
          exact .inr (.inl ⟨isTab m hm, rfl, #[], more, rfl, now⟩)
        · exact .inl (stay b o h e)
      · by_cases h : ∃ m ∈ Ms, b = m.2.2
        · obtain ⟨m, hm, rfl⟩ := h
          obtain ⟨more, now⟩ := now m hm
          exact ⟨_, now⟩
        · exact ⟨o, stay b o h e⟩
  have rv : Vals (ns.map V.int) vs := vals_ints hi
  by_cases hk : ∃ o, K.lookup a = some o
  · obtain ⟨o, hk⟩ := hk
    have e := KX a o hk
    rw [ha] at e
    cases e
    have nn : ¬ ∃ m ∈ Ms, a = m.2.2 := fun ⟨m, hm, z⟩ => aT m hm z
    have := Classical.propDecidable
    refine go (fun b => if ∃ m ∈ Ms, b = m.2.2 then some (.tbl #[]) else none) (fun b ne => .inl (if_neg ne)) (fun m hm => if_pos ⟨m, hm, rfl⟩) (.inr ⟨_, vs.toArray, _, hk, rfl, rfl, rfl, ?_, ?_⟩) (fun b u z => ?_) (fun b z => .inr (Classical.byContradiction fun eb => z (if_neg eb))) (fun z => (z (if_neg nn)).elim)
    · rw [List.size_toArray, hi.length]; exact hl
    · simpa using rv
    · by_cases eb : ∃ m ∈ Ms, b = m.2.2
      · cases (if_pos eb).symm.trans z
        obtain ⟨m, hm, rfl⟩ := eb
        exact hT m hm
      · cases (if_neg eb).symm.trans z
  · have hk' : K.lookup a = none := by cases z : K.lookup a with | none => rfl | some o => exact (hk ⟨o, z⟩).elim
    let ob : Obj := { cls := .type "list", data := .seq vs.toArray }
    have := Classical.propDecidable
    refine go (fun b => if b = a then some (.frz ob (.lst (ns.map V.int))) else if ∃ m ∈ Ms, b = m.2.2 then some (.tbl #[]) else none) (fun b nb => ?_) (fun m hm => ?_) (.inl (.inr ⟨ob, if_pos rfl⟩)) (fun b u z => ?_) (fun b z => ?_) (fun _ => hk')
    · by_cases eb : b = a
      · exact .inr ⟨_, _, if_pos eb⟩
      · exact .inl ((if_neg eb).trans (if_neg nb))
    · exact (if_neg fun z => aT m hm z.symm).trans (if_pos ⟨m, hm, rfl⟩)
    · by_cases eb : b = a
      · subst eb
        cases (if_pos rfl).symm.trans z
        exact ⟨ha, by rw [List.length_map]; exact hl, vs, _, rv, ha⟩
      · have z := (if_neg eb).symm.trans z
        by_cases ec : ∃ m ∈ Ms, b = m.2.2
        · cases (if_pos ec).symm.trans z
          obtain ⟨m, hm, rfl⟩ := ec
          exact hT m hm
        · cases (if_neg ec).symm.trans z
    · by_cases eb : b = a
      · exact .inl eb
      · exact .inr (Classical.byContradiction fun ec => z ((if_neg eb).trans (if_neg ec)))
end
theorem law_walkN {l : PySem.W.OpenLaw} {n k : Nat} {q : Program} {loose : List Str} {XP : (Str → Option Value) → Heap → Prop} {YP : World → Heap → Prop} {d : DefRec} {K : Params → PySem.W.Frag} {x : Str} {S : List Int → Prop} {names : List Str}
    (hn : l.most = some n) (hn2 : n ≤ sizeLine) (hdf : d.params.defaults = []) (hr : Room k callerA) (hY : ∀ (w : World) (h : Heap), YP w h → (K w.params).In h) (isD : ∀ y ∈ names, ∃ r, (recsOf q).find? (fun e => e.name == y) = some r)
    (F : ∀ (w : World) (mg : Str → Option Value) (fa : Addr) (h : Heap), (K w.params).In h → h.Ns mainGlobals mg → mg d.name = some (.ref fa) →
      ∃ (fd : FuncData) (Ms : List Mk3), Ms.map (·.1) = names ∧ (∀ m ∈ Ms, PySem.W.tabIn (K w.params) m.1 = some (m.2.1, m.2.2) ∧ PySem.W.codeHdIn (K w.params) m.2.1 m.2.2 = true ∧ (K w.params).lookup m.2.2 = none) ∧ (∀ (s : Shared) (u : Value), BindsTo s fd ⟨[u], []⟩ [(x, u)]) ∧
        ∀ base : Heap, (K w.params).In base → base.Ns mainGlobals mg → (∀ m ∈ Ms, LamX.TabB base mg m.2.1 m.2.2) → FnG l.prog w (K w.params) mg base CX0 k fa fd [x] (spLawN (K w.params) S Ms))
    (hS : ∀ ns : List Int, ns.length ≤ n → (∀ z ∈ ns, Builtin.Int.intBits z ≤ 1048576) → S ns) : PySem.W.WalkO q loose XP YP l.row.toRowW d [] (fun f vs => PySem.call f vs) :=
  Att.attach_callB hn hdf fun w s₀ s₁ mg mb fa o pm cd doc a vs ns G Y ho hd hcd hmg hobj hints hlen hbits hg => by
    have kx := hY w _ Y
    obtain ⟨fd, Ms, en, t, hb, hF⟩ := F w mg fa _ kx G.T.g hmg
    have empty : ∀ m ∈ Ms, s₁.heap.get? m.2.2 = some noObj := fun m hm => by
      obtain ⟨r, hr⟩ := isD m.1 (by rw [← en]; exact List.mem_map.mpr ⟨m, hm, rfl⟩)
      exact (PySem.W.tab_of G.T kx hr (t m hm).1).2
    exact law_endN kx G.T.g G.T.b G.T.builtins G.T.nolimit hg hobj empty (fun m hm => (t m hm).2.2) (fun m hm => (t m hm).2.1) G.T.bmain hints (Nat.le_trans hlen hn2) hr (hS ns hlen hbits) hF hb
end Gw

namespace Gw
open PySem L2 PyProof.Rows
variable {ρ : Ent}
section
variable {X : Cx} {o a b : Expr} {to ta tb : TE} {ao aa ab : AE} {pos pos' : Pos} {K : PySem.W.Frag} {cn : Str} {F : List Str}
theorem q_and2 (ha : QE X ρ a ta aa) (hb : QE X ρ b tb ab) : QE X ρ (.BinOp a .BitAnd b pos) (tOp (rI0 fun i j => .int (Builtin.bitAnd i j)) ta tb) (aOp (aI0 fun i j => .int (Builtin.bitAnd i j)) aa ab) := q_op op_and (rd_I0 fun _ _ _ => by rw [Rep]) ha hb
theorem q_xor2 (ha : QE X ρ a ta aa) (hb : QE X ρ b tb ab) : QE X ρ (.BinOp a .BitXor b pos) (tOp (rI0 fun i j => .int (Builtin.bitXor i j)) ta tb) (aOp (aI0 fun i j => .int (Builtin.bitXor i j)) aa ab) := q_op op_xor (rd_I0 fun _ _ _ => by rw [Rep]) ha hb
def rOpI (g : Int → Int → Int) : V → V → Hp → VK → Prop := fun x y H Q => ∃ i j, x = .int i ∧ y = .int j ∧ Q (.int (g i j)) H
theorem in_xor : InOp X .BitXor (rOpI Builtin.bitXor) := by
  rintro pins s σ H x y u v Q I rx ry ⟨i, j, ex, ey, q⟩
  rw [ex] at rx
  rw [ey] at ry
  obtain ⟨t, eu⟩ := rx
  obtain ⟨t', ev⟩ := ry
  rw [eu, ev]
  exact ixor_int ⟨.int (Builtin.bitXor i j), H, I.tok _, ⟨_, rfl⟩, q⟩
theorem ip_xor : PIp X .BitXor (ipI Builtin.bitXor) := by
  rintro pins s σ H x y u v Q I rx ry ⟨i, j, ex, ey, q⟩
  rw [ex] at rx
  rw [ey] at ry
  obtain ⟨t, eu⟩ := rx
  obtain ⟨t', ev⟩ := ry
  rw [eu, ev]
  exact ixor_int ⟨.int (Builtin.bitXor i j), H, I.tok _, ⟨_, rfl⟩, q⟩
def aAugFI (g : Int → Int → Int) (cn f : Str) (ao ae : AE) (A : AEnds) (Γ : Sl) (M : Mem) : Prop := ao Γ M fun ro Γ1 M1 => match ro with
  | .dat (.ref p) => match M1.lookup p with
    | some (.ins cn' ns ds) => cn' = cn ∧ match fldD f ns ds with
      | some (.int i) => ae Γ1 M1 fun r Γ2 M2 => match r with
        | .dat (.int j) => match M2.lookup p with
          | some (.ins cn'' ns' ds') => cn'' = cn ∧ ns'.length < 1000 ∧ A.nx Γ2 (mput M2 p (.ins cn'' (putN f ns') (putO f (.int (g i j)) ns' ds')))
          | _ => False
        | _ => False
      | _ => False
    | _ => False
  | _ => False
theorem qs_augFI {g : Int → Int → Int} {op : Operator} {f : Str} {tpos : Pos} (hop : InOp X op (rOpI g)) (T : ClsP K cn F) (ho : QE X ρ o to ao) (h : QE X ρ a ta aa) (hf : f ∈ F := by decide) (hK : X.K = K := by rfl) :
    QS X ρ (.AugAssign (.Attribute o f tpos) op a pos) (sFldAug K to ta (rOpI g) f) (aAugFI g cn f ao aa) := by
  subst hK
  refine ⟨ps_fldaug ho.pe h.pe hop, fun B σ H G Γ M A E k hh s => ho.rd B σ H G Γ M _ _ k hh fun ov H1 G1 Γ1 M1 ro k1 e1 rro h1 => ?_⟩
  split at h1
  · rename_i p
    split at h1
    · rename_i cn' ns ds hl
      obtain ⟨rfl, h1⟩ := h1
      split at h1
      · rename_i i hd
        have ev : ov = .ref p := by have := (show Rep X.K G1 (.ref p) ov from rro); rwa [Rep] at this
        subst ev
        obtain ⟨gg0, u, hu, C, dx, ws, hn, rfl, hns, hr⟩ := k1.ms p _ (lookup_mem hl)
        obtain ⟨C', hn', cl, na⟩ := T.ex
        have ec := hn'
        rw [hn] at ec
        cases ec
        obtain ⟨w, hw, rw'⟩ := lookup_rep hns hr hd
        have ew : w = .int i := by rwa [Rep] at rw'
        subst ew
        refine ⟨p, C, dx, ws, .int i, rfl, hu, cl, na f hf, hw, h.rd B σ H1 G1 Γ1 M1 _ _ k1 h1 fun v H2 G2 Γ2 M2 r k2 e2 rr h2 => ?_⟩
        split at h2
        · rename_i j
          split at h2
          · rename_i cn2 ns2 ds2 hl2
            obtain ⟨ec2, hz, h2⟩ := h2
            have ev2 : v = .int j := by have := rr; simp only [RepR, Rep] at this; exact this
            subst ev2
            subst ec2
            obtain ⟨gg1, u1, hu1, C1, dx1, ws1, hn1, rfl, hns1, hr1⟩ := k2.ms p _ (lookup_mem hl2)
            rw [hn] at hn1
            cases hn1
            have rro2 := rro.es e2
            have pr := put_rep (f := f) (d := .int (g i j)) (y := .int (g i j)) (by rw [Rep]) hns1 hr1
            have hg : cget (.dat (.ref p)) Γ2 M2 = some (.ins cn2 ns2 ds2) := hl2
            obtain ⟨Γ5, M5, k5, e6, hq⟩ := cput_ok (c' := .ins cn2 (putN f ns2) (putO f (.int (g i j)) ns2 ds2)) (o' := .ins C dx1 (putF f (.int (g i j)) ws1)) (kk := A.nx) k2 rro2 hg ⟨C, dx1, _, hn, rfl, pr.1, pr.2⟩ h2
            exact ⟨i, j, rfl, rfl, dx1, ws1, hu1, by rw [← List.length_map (f := (·.1)), hns1]; exact hz, s.nx σ _ G2 Γ5 M5 k5 hq⟩
          · exact h2.elim
        · exact h2.elim
      · exact h1.elim
    · exact h1.elim
  · exact h1.elim
def aAugXI (g : Int → Int → Int) (ao ai ae : AE) (A : AEnds) (Γ : Sl) (M : Mem) : Prop := ao Γ M fun ro Γ1 M1 => ai Γ1 M1 fun ri Γ2 M2 => match ri, lget ro Γ2 M2 with
  | .dat (.int i), some ds => 0 ≤ i ∧ match ds[i.toNat]? with
    | some (.int n) => ae Γ2 M2 fun re Γ3 M3 => match re, lget ro Γ3 M3 with
      | .dat (.int m), some ds' => match ixN ds'.length i with
        | some j => lput ro (ds'.set j (.int (g n m))) Γ3 M3 fun Γ4 M4 => A.nx Γ4 M4
        | none => False
      | _, _ => False
    | _ => False
  | _, _ => False
theorem qs_augXI {g : Int → Int → Int} {op : Operator} (hop : PIp X op (ipI g)) {o i : Expr} {to ti : TE} {ao ai : AE} (ho : QE X ρ o to ao) (hi : QE X ρ i ti ai) (h : QE X ρ a ta aa)
    (has : ∀ ov iv new, augStore i ov iv new = (do holding [new, ov, iv] (setItem ov iv new); release [new, ov, iv] []; pure .next) := by intros; rfl) (hK : X.K = K := by rfl) :
    QS X ρ (.AugAssign (.Subscript o i pos') op a pos) (tAugS to ti ta (rGetL K) (ipI g) rSetL) (aAugXI g ao ai aa) := by
  subst hK
  refine ⟨ps_augS ho.pe hi.pe get_list h.pe hop set_list has, fun B σ H G Γ M A E k hh s => ?_⟩
  refine ho.rd B σ H G Γ M _ _ k hh fun ov H1 G1 Γ1 M1 ro k1 e1 rro h1 => ?_
  refine hi.rd B σ H1 G1 Γ1 M1 _ _ k1 h1 fun iv H2 G2 Γ2 M2 ri k2 e2 rri h2 => ?_
  split at h2
  · rename_i n ds hd
    obtain ⟨h0, h2⟩ := h2
    have rro2 := rro.es e2
    obtain ⟨l, xs, rfl, hl, hx⟩ := lget_ok k2 rro2 hd
    have ei : iv = .int n := by have := rri; simp only [RepR, Rep] at this; exact this
    split at h2
    · rename_i old hold
      obtain ⟨v, hv, rv⟩ := hx.get hold
      rw [Rep] at rv
      refine ⟨l, xs, n, v, rfl, ei, SqL.of hl, h0, hv, h.rd B σ H2 G2 Γ2 M2 _ _ k2 h2 fun u H3 G3 Γ3 M3 re k3 e3 rre h3 => ?_⟩
      split at h3
      · rename_i m ds' hd'
        have eu : u = .int m := by have := rre; simp only [RepR, Rep] at this; exact this
        have rro3 := rro2.es e3
        obtain ⟨l', xs', e', hl', hx'⟩ := lget_ok k3 rro3 hd'
        cases e'
        split at h3
        · rename_i j hj
          obtain ⟨Γ5, M5, k5, e5, hq⟩ := lput_ok k3 rro3 hd' (hx'.set j (show Rep X.K G3 (.int (g old m)) (.int (g old m)) by rw [Rep])) h3
          exact ⟨old, m, rv, eu, l, xs', n, j, rfl, ei, hl', by rw [hx'.length]; exact hj, s.nx σ _ G3 Γ5 M5 k5 hq⟩
        · exact h3.elim
      · exact h3.elim
    · exact h2.elim
  · exact h2.elim
def aIxS (x : Ret) (y : Ret) (Γ : Sl) (M : Mem) (Q : Ret → Sl → Mem → Prop) : Prop := match x, y with
  | .dat (.str z), .dat (.int i) => z.length ≤ sizeLine ∧ match L2.atI z.cps.toList i with
    | some c => Q (.dat (.str ⟨#[c]⟩)) Γ M
    | none => False
  | _, _ => False
theorem rd_ixS : RdO K ρ rIxS aIxS := by
  intro B σ H H1 H2 G Γ M rx ry x y Q R k r1 r2 h q
  unfold aIxS at h
  split at h
  · rename_i z i
    obtain ⟨hl, h⟩ := h
    split at h
    · rename_i c hc
      have e1 : x = .str z := by have := r1; simp only [RepR, Rep] at this; exact this
      have e2 : y = .int i := by have := r2; simp only [RepR, Rep] at this; exact this
      exact ⟨z, i, c, e1, e2, hl, hc, q _ H G Γ M (.dat _) k .refl (by simp only [RepR, Rep]) h⟩
    · exact h.elim
  · exact h.elim
theorem q_ixStr (ha : QE X ρ a ta aa) (hb : QE X ρ b tb ab) (hs : PlainIx b := by exact fun _ _ => rfl) : QE X ρ (.Subscript a b pos) (tOp rIxS ta tb) (aOp aIxS aa ab) := q_ix ix_str rd_ixS ha hb hs
end
def e_aAugFI := @aAugFI.eq_def
def e_aAugXI := @aAugXI.eq_def
def e_aIxS := @aIxS.eq_def
end Gw

namespace Gw
open PySem L2 RZ RT
variable {ρ : Ent}
abbrev Stay := List (Addr × List D)
def StayM (st : Stay) (M : Mem) : Prop := ∀ q ∈ st, M.lookup q.1 = some (.lst q.2)
def StayH (K : PySem.W.Frag) (st : Stay) (H G : Hp) : Prop := ∀ q ∈ st, ∃ xs, SqL K H q.1 xs ∧ RepL K G q.2 xs
structure WalkN (K : PySem.W.Frag) (b : Bool) (J : It) (st : Stay) (ds : List D) : Prop where
  w : ∃ GG Y, Walk J ds.length GG Y ∧ (∀ H G, StayH K st H G → GG H) ∧ ∀ (i : Nat) H x H' d G, ds[i]? = some d → StayH K st H G → Y i H x H' → Yld K b G H H' d x
abbrev AN := Sl → Mem → (Stay → List D → Sl → Mem → Prop) → Prop
def RdN (K : PySem.W.Frag) (ρ : Ent) (b : Bool) (wi : TI) (ai : AN) : Prop := ∀ B σ H G Γ M (Q : Stay → List D → Sl → Mem → Prop) (R : It → Hp → Prop), Ok K ρ B σ H G Γ M → ai Γ M Q →
  (∀ J H' G' Γ' M' st ds, Ok K ρ B σ H' G' Γ' M' → Es σ H G Γ M H' G' Γ' M' → WalkN K b J st ds → StayM st M' → Q st ds Γ' M' → R J H') → wi σ H R
structure QN (X : Cx) (ρ : Ent) (tg iter : Expr) (wi : TI) (ai : AN) : Prop where
  pe : PI X tg iter wi
  rd : RdN X.K ρ (tupT tg) wi ai
def aNEnum (ar : AA) (Γ : Sl) (M : Mem) (Q : Stay → List D → Sl → Mem → Prop) : Prop := ar Γ M fun ds Γ1 M1 => match ds with
  | [.ref p] => match M1.lookup p with
    | some (.lst es) => Q [(p, es)] (enumD 0 es) Γ1 M1
    | _ => False
  | _ => False
def aNZip (ar : AA) (Γ : Sl) (M : Mem) (Q : Stay → List D → Sl → Mem → Prop) : Prop := ar Γ M fun ds Γ1 M1 => match ds with
  | [.ref p, .ref r] => match M1.lookup p, M1.lookup r with
    | some (.lst es), some (.lst fs) => Q [(p, es), (r, fs)] (zipD es fs) Γ1 M1
    | _, _ => False
  | _ => False
section
variable {X : Cx} {tg a b c : Expr} {ta tb tc te : TE} {aa ab ac ae : AE} {pos : Pos} {K : PySem.W.Frag} {B : Ent} {σ : L2.St} {H G H' H1 G1 H2 G2 : Hp} {Γ Γ1 Γ2 : Sl} {M M1 M2 : Mem}
theorem stay_of {st : Stay} (k : Ok K ρ B σ H G Γ M) (h : StayM st M) : StayH K st H G := fun q hq => cell_lst k (h q hq)
theorem qn_enum {tpos p : Pos} {elts : List Expr} {kk : Nat} {tr : TA} {ar : AA} (hm : X.mg "enumerate" = none) (ha : QA X ρ [a] tr ar) (hg : Gl X "enumerate" := by rfl) (hs : starEach [a] X.env = [(false, eval a X.env)] := by rfl) (hK : X.K = K := by rfl) :
    QN X ρ (.Tuple elts kk tpos) (.Call (.Name "enumerate" p) [a] [] pos) (iEnum K tr) (aNEnum ar) := by
  subst hK
  refine ⟨pi_enum hg hm ha.pe hs, fun B σ H G Γ M Q R k hh q => ha.rd B σ H G Γ M _ _ k hh fun vs H1 G1 Γ1 M1 ds k1 e1 rl h1 => ?_⟩
  split at h1
  · rename_i p1
    split at h1
    · rename_i es hl
      obtain ⟨v, r, rfl, rv, rn⟩ := repL_cons.mp rl
      have := repL_nil.mp rn; subst this
      have ev : v = .ref p1 := by rwa [Rep] at rv
      subst ev
      have sm : StayM [(p1, es)] M1 := fun q hq => by cases List.mem_singleton.mp hq; exact hl
      obtain ⟨us, s1, l1⟩ := stay_of k1 sm (p1, es) List.mem_cons_self
      refine ⟨p1, us, rfl, s1, q _ H1 G1 Γ1 M1 _ _ k1 e1 ⟨fun H => ∃ G, StayH X.K [(p1, es)] H G, fun i H v H' => ∃ T x, v = .ref T ∧ H T = none ∧ H' = upd H T (.tup [.int (i : Nat), x]) ∧ ∀ xs, SqL X.K H p1 xs → xs[i]? = some x, ⟨fun i H hi q => ?_, fun H q => ?_, fun i H x H' hi q y => ?_⟩, fun H G h => ⟨G, h⟩, fun i H x H' d G hd st y => ?_⟩ sm h1⟩
      · obtain ⟨G, q⟩ := q
        obtain ⟨xs, h, r⟩ := q _ List.mem_cons_self
        exact walk_enum.goes i H (by rw [enumD_len] at hi; rw [r.length]; exact hi) h
      · obtain ⟨G, q⟩ := q
        obtain ⟨xs, h, r⟩ := q _ List.mem_cons_self
        have := (walk_enum (K := X.K) (xs := xs)).stops H h
        rw [enumD_len, ← r.length]
        exact this
      · obtain ⟨T, x, h1, h2, h3, h4⟩ := y
        exact ⟨T, x, h1, h2, h3, h4⟩
      · obtain ⟨z, e3, rfl⟩ := enumD_get hd
        obtain ⟨T, w, ev, hT, eH, f2⟩ := y
        obtain ⟨us', sq', r'⟩ := st _ List.mem_cons_self
        obtain ⟨u', g1, q1⟩ := r'.get e3
        have f2 := f2 us' sq'
        have ew : u' = w := by rw [g1] at f2; exact Option.some.inj f2
        subst ew
        exact .inr ⟨rfl, T, [.int (i : Nat), u'], [.int (0 + i : Nat), z], ev, hT, eH, rfl, repL_cons.mpr ⟨_, _, rfl, by rw [Rep, Nat.zero_add], RepL.one q1⟩⟩
    · exact h1.elim
  · exact h1.elim
theorem qn_zip {tpos p : Pos} {elts : List Expr} {kk : Nat} {tr : TA} {ar : AA} (hm : X.mg "zip" = none) (ha : QA X ρ [a, b] tr ar) (hg : Gl X "zip" := by rfl) (hs : starEach [a, b] X.env = (false, eval a X.env) :: starEach [b] X.env := by rfl) (hpl : (backTo pos (starEach [b] X.env)).any (·.1) = false := by rfl) (hK : X.K = K := by rfl) :
    QN X ρ (.Tuple elts kk tpos) (.Call (.Name "zip" p) [a, b] [] pos) (iZipA K tr) (aNZip ar) := by
  subst hK
  refine ⟨pi_zipA hg hm ha.pe hs hpl, fun B σ H G Γ M Q R k hh q => ha.rd B σ H G Γ M _ _ k hh fun vs H1 G1 Γ1 M1 ds k1 e1 rl h1 => ?_⟩
  split at h1
  · rename_i p1 p2
    split at h1
    · rename_i es fs hl hl2
      obtain ⟨v, r, rfl, rv, rn⟩ := repL_cons.mp rl
      obtain ⟨v2, r2, rfl, rv2, rn2⟩ := repL_cons.mp rn
      have := repL_nil.mp rn2; subst this
      have ev : v = .ref p1 := by rwa [Rep] at rv
      have ev2 : v2 = .ref p2 := by rwa [Rep] at rv2
      subst ev
      subst ev2
      have sm : StayM [(p1, es), (p2, fs)] M1 := fun q hq => by
        rcases List.mem_cons.mp hq with z | z
        · subst z; exact hl
        · cases List.mem_singleton.mp z; exact hl2
      have st0 := stay_of k1 sm
      obtain ⟨us, s1, l1⟩ := st0 (p1, es) (by simp)
      obtain ⟨ws, s2, l2⟩ := st0 (p2, fs) (by simp)
      refine ⟨p1, p2, us, ws, rfl, .inl ⟨s1, s2, q _ H1 G1 Γ1 M1 _ _ k1 e1 ⟨fun H => ∃ G, StayH X.K [(p1, es), (p2, fs)] H G, fun i H v H' => ∃ T x y, v = .ref T ∧ H T = none ∧ H' = upd H T (.tup [x, y]) ∧ (∀ xs, SqL X.K H p1 xs → xs[i]? = some x) ∧ ∀ ys, SqL X.K H p2 ys → ys[i]? = some y, ⟨fun i H hi q => ?_, fun H q => ?_, fun i H x H' hi q y => y⟩, fun H G h => ⟨G, h⟩, fun i H x H' d G hd st y => ?_⟩ sm h1⟩⟩
      · obtain ⟨G, q⟩ := q
        obtain ⟨xs, h, r⟩ := q (p1, es) (by simp)
        obtain ⟨ys, h2, r2⟩ := q (p2, fs) (by simp)
        have hi : i < min es.length fs.length := by unfold zipD at hi; rwa [List.length_zipWith] at hi
        have ll := r.length
        have ll2 := r2.length
        simp only at ll ll2
        exact ⟨xs, ys, xs[i]'(by omega), ys[i]'(by omega), h, h2, List.getElem?_eq_getElem _, List.getElem?_eq_getElem _⟩
      · obtain ⟨G, q⟩ := q
        obtain ⟨xs, h, r⟩ := q (p1, es) (by simp)
        obtain ⟨ys, h2, r2⟩ := q (p2, fs) (by simp)
        refine ⟨xs, ys, h, h2, ?_⟩
        have r := r.length
        have r2 := r2.length
        unfold zipD
        rw [List.length_zipWith]
        simp only at r r2
        omega
      · obtain ⟨d1, d2, g1, g2, rfl⟩ := zipD_get hd
        obtain ⟨T, u, w, ev, hT, eH, f1, f2⟩ := y
        obtain ⟨xs, h, r⟩ := st (p1, es) (by simp)
        obtain ⟨ys, h2, r2⟩ := st (p2, fs) (by simp)
        obtain ⟨u', k1, q1⟩ := r.get g1
        obtain ⟨w', k2, q2⟩ := r2.get g2
        have f1 := f1 xs h
        have f2 := f2 ys h2
        have eu : u = u' := Option.some.inj (f1.symm.trans k1)
        have ew : w = w' := Option.some.inj (f2.symm.trans k2)
        rw [eu, ew] at eH
        exact .inr ⟨rfl, T, [u', w'], [d1, d2], ev, hT, eH, rfl, repL_cons.mpr ⟨_, _, rfl, q1, RepL.one q2⟩⟩
    · exact h1.elim
  · exact h1.elim
def aForNL (st : Stay) (g : AG) (body : AS) : List D → AS
  | [] => fun A Γ M => StayM st M ∧ A.nx Γ M
  | d :: ds => fun A Γ M => StayM st M ∧ g d Γ fun Γ1 => body { A with nx := aForNL st g body ds A, ct := aForNL st g body ds A, bk := A.nx } Γ1 M
def forNW (st : Stay) (g : AG) (body : AS) (ds : List D) (A : AEnds) (_ : WitA A) (Γ : Sl) (M : Mem) : Prop := aForNL st g body ds A Γ M
def aForN (ai : AN) (g : AG) (body : AS) (A : AEnds) (Γ : Sl) (M : Mem) : Prop := ai Γ M fun st ds Γ1 M1 => forNW st g body ds A ⟨⟩ Γ1 M1
theorem aForNL_at {st : Stay} {ds : List D} {g : AG} {body : AS} {A : AEnds} (h : aForNL st g body ds A Γ M) : StayM st M := by
  cases ds with
  | nil => exact h.1
  | cons d ds => exact h.1
theorem rd_forN {wi : TI} {ai : AN} {g : TG} {ag : AG} {is : List Nat} {tb : TS} {ab : AS} {bt : Bool} (hi : RdN K ρ bt wi ai) (hg : RdG K ρ bt g ag is) (hb : RdS K ρ tb ab) : RdS K ρ (tFor wi g tb) (aForN ai ag ab) := fun B σ H G Γ M A E k h s => by
  refine hi B σ H G Γ M _ _ k h fun J H1 G1 Γ1 M1 st ds k1 e1 w hl h1 => ?_
  obtain ⟨GG, Y, wk, hGG, hY⟩ := w.w
  have e0 : Ex B.G G1 := k1.st.g
  have gn := k1.st.gn
  have sim : ∀ i, Sim K ρ ⟨B.H, G1, B.A⟩ { A with nx := aForNL st ag ab (ds.drop (i + 1)) A, ct := aForNL st ag ab (ds.drop (i + 1)) A, bk := A.nx }
      { E with nx := fun σ H => ∃ G2 Γ2 M2, Ok K ρ B σ H G2 Γ2 M2 ∧ Ex G1 G2 ∧ aForNL st ag ab (ds.drop (i + 1)) A Γ2 M2, ct := fun σ H => ∃ G2 Γ2 M2, Ok K ρ B σ H G2 Γ2 M2 ∧ Ex G1 G2 ∧ aForNL st ag ab (ds.drop (i + 1)) A Γ2 M2, bk := E.nx } := fun i =>
    ⟨fun σ H G Γ M k q => let ⟨k', e'⟩ := k.back k1.pb e0 gn; ⟨G, Γ, M, k', e', q⟩, fun σ H0 H G Γ M r v k rr q => s.rt σ H0 H G Γ M r v (k.back k1.pb e0 gn).1 rr q, fun σ H G Γ M k q => s.nx σ H G Γ M (k.back k1.pb e0 gn).1 q, fun σ H G Γ M k q => let ⟨k', e'⟩ := k.back k1.pb e0 gn; ⟨G, Γ, M, k', e', q⟩⟩
  refine for_it wk (fun i σ H => ∃ G2 Γ2 M2, Ok K ρ B σ H G2 Γ2 M2 ∧ Ex G1 G2 ∧ aForNL st ag ab (ds.drop i) A Γ2 M2) ⟨G1, Γ1, M1, k1, Ex.refl _, h1⟩ (fun i σ H _ ⟨G2, Γ2, M2, k2, e2, h2⟩ => hGG H G2 (stay_of k2 (aForNL_at h2))) ?_ ?_
  · rintro i x σ H H' hin ⟨G2, Γ2, M2, k2, e2, h2⟩ y
    have stM := aForNL_at h2
    rw [List.drop_eq_getElem_cons hin] at h2
    obtain ⟨G3, k3, e3, rp⟩ := (hY i H x H' _ G2 (List.getElem?_eq_getElem hin) (stay_of k2 stM) y).ok k2 (Ex.refl G2)
    refine hg B σ H' G3 Γ2 M2 _ x _ _ k3 rp h2.2 fun σ' Γ' k4 _ _ h4 => ?_
    exact hb ⟨B.H, G1, B.A⟩ σ' H' G3 Γ' M2 _ _ (k4.to (e2.trans e3.g) e0 gn) h4 (sim i)
  · rintro σ H ⟨G2, Γ2, M2, k2, e2, h2⟩
    rw [List.drop_length] at h2
    exact s.nx σ H G2 Γ2 M2 k2 h2.2
theorem qs_forN {iter : Expr} {body : List Stmt} {wi : TI} {ai : AN} {g : TG} {ag : AG} {is : List Nat} {tb : TS} {ab : AS} (hi : QN X ρ tg iter wi ai) (hg : QG X ρ tg g ag is) (hb : QSs X ρ body tb ab) (hc : X.calm = true := by rfl)
    (hp : PassesOwn (model X.prog X.w) X.A X.env X.xe := by exact PassesOwn.never) (hs : ∀ x, foldedSetIterable iter X.env x = pure x := by intro _; rfl) : QS X ρ (.For tg iter body [] pos) (tFor wi g tb) (aForN ai ag ab) := ⟨ps_for hp hc hi.pe hg.pe hb.pe hs, rd_forN hi.rd hg.rd hb.rd⟩
def aLcNL (st : Stay) (g : AG) (tt : AT) (ae : AE) (vs : List Nat) (k : List D → Sl → Mem → Prop) : List D → List D → Sl → Mem → Prop
  | [], acc, Γ, M => StayM st M ∧ k acc Γ M
  | d :: ds, acc, Γ, M => StayM st M ∧ g d Γ fun Γ1 => tt Γ1 M fun b Γ2 M2 => if b = true then ae Γ2 M2 fun r Γ3 M3 => frz r Γ3 fun y Γ4 => acc.length < sizeLine ∧ aLcNL st g tt ae vs k ds (acc ++ [y]) (wipeS Γ4 vs) M3
    else aLcNL st g tt ae vs k ds acc (wipeS Γ2 vs) M2
def lcNW (st : Stay) (g : AG) (tt : AT) (ae : AE) (vs : List Nat) (k : List D → Sl → Mem → Prop) (_ : WitL k) (ds acc : List D) (Γ : Sl) (M : Mem) : Prop := aLcNL st g tt ae vs k ds acc Γ M
def aLcN (ai : AN) (g : AG) (tt : AT) (ae : AE) (vs : List Nat) (Γ : Sl) (M : Mem) (Q : Ret → Sl → Mem → Prop) : Prop := ai Γ M fun st ds Γ1 M1 => lcNW st g tt ae vs (fun acc Γ2 M2 => Q (.tmp (.lst acc)) Γ2 M2) ⟨⟩ ds [] (wipeS Γ1 vs) M1
theorem aLcNL_at {st : Stay} {ds acc : List D} {g : AG} {tt : AT} {vs : List Nat} {k : List D → Sl → Mem → Prop} (h : aLcNL st g tt ae vs k ds acc Γ M) : StayM st M := by
  cases ds with
  | nil => exact h.1
  | cons d ds => exact h.1
theorem rd_lcN {wi : TI} {ai : AN} {g : TG} {ag : AG} {is vs : List Nat} {tt : TT} {at' : AT} {bt : Bool} (hi : RdN K ρ bt wi ai) (hg : RdG K ρ bt g ag is) (hsub : ∀ j ∈ is, j ∈ vs) (ht : RdT K ρ tt at') (he : RdE K ρ te ae) : RdE K ρ (tLc wi g tt te vs) (aLcN ai ag at' ae vs) := by
  intro B σ H G Γ M Q R k h q
  refine hi B σ H G Γ M _ _ k h fun J H1 G1 Γ1 M1 st ds k1 e1 w hl1 h1 p hp => ?_
  obtain ⟨GG, Y, wk, hGG, hY⟩ := w.w
  obtain ⟨k1t, e1t, hm1, hn1, hb1, hg1⟩ := k1.tmp (o := .lst []) hp
  have start : Grows K ρ B p σ H1 G1 Γ1 M1 [] (.lst []) σ (upd H1 p (.lst [])) G1 Γ1 M1 := ⟨k1t, e1t.g, e1t.tmp, e1t.nn, fun j s _ _ => by simp, ⟨hg1, _, upd_same, [], rfl, repL_nil.mpr rfl⟩, hm1, hn1, hb1, hp⟩
  refine lc_it wk (fun i H2 => ∃ G2 Γ2 M2 acc, Grows K ρ B p σ H1 G1 Γ1 M1 vs (.lst acc) σ H2 G2 Γ2 M2 ∧ aLcNL st ag at' ae vs (fun acc Γ2 M2 => Q (.tmp (.lst acc)) Γ2 M2) (ds.drop i) acc Γ2 M2) ?_ ?_ ?_ ?_
  · exact ⟨G1, wipeS Γ1 vs, M1, [], start.leave rfl, h1⟩
  · rintro i H2 _ ⟨G2, Γ2, M2, acc, gr, h2⟩
    exact hGG H2 G2 (stay_of gr.ok (aLcNL_at h2))
  · rintro i x H2 H2' hin ⟨G2, Γ2, M2, acc, gr, h2⟩ y
    have stM := aLcNL_at h2
    rw [List.drop_eq_getElem_cons hin] at h2
    have gr0 := gr.enter
    obtain ⟨G3, k3, e3, rp⟩ := (hY i H2 x H2' _ G2 (List.getElem?_eq_getElem hin) (stay_of gr.ok stM) y).ok gr0.ok (Ex.refl G2)
    have gr3 := gr0.es k3 e3
    refine hg B (wipe σ vs) H2' G3 Γ2 M2 _ _ _ _ gr3.ok rp h2.2 fun σ2 Γ3 k4 w4 o4 h4 => ⟨by rw [w4 vs hsub, wipe_wipe], ?_⟩
    have hw2 : wipe σ2 vs = wipe σ vs := by rw [w4 vs hsub, wipe_wipe]
    have gr4 : Grows K ρ B p σ H1 G1 Γ1 M1 [] (.lst acc) σ2 H2' G3 Γ3 M2 := gr3.to k4 o4 fun j s _ _ => by simp
    refine ht B σ2 H2' G3 Γ3 M2 _ _ k4 h4 fun b H5 G5 Γ5 M5 k5 e5 h5 => ?_
    have gr5 := gr4.es k5 e5
    cases b with
    | false =>
      exact ⟨G5, wipeS Γ5 vs, M5, acc, gr5.leave hw2, by simpa using h5⟩
    | true =>
      refine he B σ2 H5 G5 Γ5 M5 _ _ k5 (by simpa using h5) fun u H6 G6 Γ6 M6 r k6 e6 rr h6 => ?_
      obtain ⟨G7, Γ7, y, k7, e7, rp7, hlen, h7⟩ := frz_ok (H0 := H5) k6 e6 rr h6
      have gr7 := (gr5.es k7 e7).leave hw2
      obtain ⟨gp, o2, ho2, xs2, rfl, hrep⟩ := gr7.here
      exact ⟨xs2, ho2, by rw [hrep.length]; exact hlen, G7, wipeS Γ7 vs, M6, acc ++ [y], gr7.put ⟨_, rfl, hrep.append (RepL.one rp7)⟩, h7⟩
  · rintro H2 ⟨G2, Γ2, M2, acc, gr, h2⟩
    rw [List.drop_length] at h2
    exact q _ H2 G2 Γ2 M2 (.tmp (.lst acc)) gr.ok (e1.trans ⟨gr.g, gr.tmp, gr.nn⟩) ⟨p, rfl, e1.nn p hp, hb1, gr.here, gr.mp, gr.op⟩ h2.2
theorem q_compN {iter : Expr} {elt : Expr} {ifs : List Expr} {scope : Scope} {own : List (Str × Nat)} {wi : TI} {ai : AN} {g : TG} {ag : AG} {is : List Nat} {tt : TT} {at' : AT} (hN : X.N.Nodup) (hi : QN X ρ tg iter wi ai) (ok : BlkOk X.N X.env.scope scope own)
    (hg : ∀ (s : Shared) (H : Hp) (C : Addr) (cl : List (Str × Addr)) (fp : List Addr), QG (X.blk s H scope (compEnvC scope cl C X.env) fp) ρ tg g ag is) (ht : ∀ (s : Shared) (H : Hp) (C : Addr) (cl : List (Str × Addr)) (fp : List Addr), QTs (X.blk s H scope (compEnvC scope cl C X.env) fp) ρ ifs tt at')
    (he : ∀ (s : Shared) (H : Hp) (C : Addr) (cl : List (Str × Addr)) (fp : List Addr), QE (X.blk s H scope (compEnvC scope cl C X.env) fp) ρ elt te ae) (s0 : Shared) (hsub : ∀ j ∈ is, j ∈ own.map (·.2) := by decide) (hc : X.calm = true := by rfl) (hs : ∀ x, foldedSetIterable iter X.env x = pure x := by intro _; rfl) :
    QE X ρ (.ListComp elt [⟨tg, iter, ifs, 0⟩] scope pos) (tLc wi g tt te (own.map (·.2))) (aLcN ai ag at' ae (own.map (·.2))) :=
  ⟨pe_lc hc hN hi.pe ok (fun s H C cl fp => (hg s H C cl fp).pe) (fun s H C cl fp => (ht s H C cl fp).pe) (fun s H C cl fp => (he s H C cl fp).pe) hs,
   rd_lcN hi.rd (hg s0 X.H_0 0 [] []).rd hsub (ht s0 X.H_0 0 [] []).rd (he s0 X.H_0 0 [] []).rd⟩
theorem forNW_eq {st : Stay} {ds : List D} {g : AG} {body : AS} {A : AEnds} {w : WitA A} : forNW st g body ds A w Γ M = aForNL st g body ds A Γ M := rfl
theorem lcNW_eq {st : Stay} {ds acc : List D} {g : AG} {tt : AT} {vs : List Nat} {k : List D → Sl → Mem → Prop} {w : WitL k} : lcNW st g tt ae vs k w ds acc Γ M = aLcNL st g tt ae vs k ds acc Γ M := rfl
end
def e_aNEnum := @aNEnum.eq_def
def e_aNZip := @aNZip.eq_def
def e_aForN := @aForN.eq_def
def e_aLcN := @aLcN.eq_def
end Gw

namespace Gw
open PySem PySem.Spec L2 PyProof.Rows
theorem FnG.impA {P : Program} {w : World} {K : PySem.W.Frag} {mg : Str → Option Value} {base : Heap} {CX : CXT} {k : Nat} {f : Addr} {fd : FuncData} {ps : List Str} {n : Nat} {S S' : ASp} (F : FnG P w K mg base CX k f fd ps (spA K n S)) (h : ∀ ds M Q, S' ds M Q → S ds M Q) : FnG P w K mg base CX k f fd ps (spA K n S') :=
  F.weaken fun vs H Q E ⟨G, M, ds, hl, ex, nd, ms, rl, Qa, hS, fin⟩ => ⟨G, M, ds, hl, ex, nd, ms, rl, Qa, h _ _ _ hS, fin⟩
def SLawM (S : List Int → Prop) (names : List Str) : ASp := fun ds M Q => ∃ Ms : List Mk3, Ms.map (·.1) = names ∧ (Ms.map (·.2.2)).Nodup ∧ SLawN S Ms ds M Q
theorem ar_lawM (S : List Int → Prop) (names : List Str) : Ar 1 (SLawM S names) := fun _ _ _ ⟨Ms, _, _, h⟩ => ar_lawN S Ms _ _ _ h
def aRetN (A : AEnds) (Γ : Sl) (M : Mem) : Prop := A.rt (.dat .non) Γ M
theorem qs_retN {X : Cx} {ρ : Ent} {pos : Pos} : QS X ρ (.Return none pos) tRetN aRetN :=
  ⟨ps_retN, fun B σ H G Γ M A E k h s => s.rt σ H H G Γ M (.dat .non) .non k (by simp only [RepR, Rep]) h⟩
section
variable {ρ : Ent}
variable {X : Cx} {tg a b c : Expr} {ta tb tc te : TE} {aa ab ac ae : AE} {pos : Pos} {K : PySem.W.Frag} {i : Nat} {x : Str} {pos' : Pos}
theorem qs_setLcSh {elt iter : Expr} {ifs : List Expr} {scope : Scope} {own : List (Str × Nat)} {wi : TI} {ai : AI} {g : TG} {ag : AG} {is : List Nat} {tt : TT} {at' : AT} {spos : Pos} (i : Nat) (hN : X.N.Nodup) (hi : QI X ρ tg iter wi ai) (ok : BlkOk X.N X.env.scope scope own)
    (hg : ∀ (s : Shared) (H : Hp) (C : Addr) (cl : List (Str × Addr)) (fp : List Addr), QG (X.blk s H scope (compEnvC scope cl C X.env) fp) ρ tg g ag is) (ht : ∀ (s : Shared) (H : Hp) (C : Addr) (cl : List (Str × Addr)) (fp : List Addr), QTs (X.blk s H scope (compEnvC scope cl C X.env) fp) ρ ifs tt at')
    (he : ∀ (s : Shared) (H : Hp) (C : Addr) (cl : List (Str × Addr)) (fp : List Addr), QE (X.blk s H scope (compEnvC scope cl C X.env) fp) ρ elt te ae) (s0 : Shared) (hsub : ∀ j ∈ is, j ∈ own.map (·.2) := by decide)
    (hy : X.N[i]? = some x := by rfl) (hyl : X.env.scope.names.lookup x = some .local := by rfl) (hsw : swapsWith (.ListComp elt [⟨tg, iter, ifs, 0⟩] scope pos) (some (.Name x pos')) spos.line X.env = pure true := by exact sw_true rfl rfl rfl (by decide +kernel)) (hc : X.calm = true := by rfl) (hs : ∀ x, foldedSetIterable iter X.env x = pure x := by intro _; rfl) :
    QS X ρ (.Assign [.Name x pos'] (.ListComp elt [⟨tg, iter, ifs, 0⟩] scope pos) spos) (tAsg (tLc wi g tt te (own.map (·.2))) (gName i)) (aAsgF (aSh (aLc ai ag at' ae (own.map (·.2)))) i) :=
  qs_setLcG i (fun h e => by subst e; exact rd_asgF (rd_sh h)) hN hi ok hg ht he hsub s0 hy hyl hsw hc hs
end
def e_aRetN := @aRetN.eq_def
end Gw

namespace Gw
open PySem PySem.Spec L2 PyProof.Rows RZ
variable {ρ : Ent}
inductive Src
  | text (x : Str)
  | sq (tp : Bool) (b : Addr)
def Src.v : Src → V
  | .text x => .str x
  | .sq _ b => .ref b
def Src.fp (i : Addr) : Src → List Addr
  | .text _ => [i]
  | .sq _ b => [i, b]
def SrcV (K : PySem.W.Frag) : Src → Hp → List V → Prop
  | .text x, _, xs => xs = x.cps.toList.map fun c => V.str ⟨#[c]⟩
  | .sq tp b, H, xs => SqB K tp H b xs
def SrcI : Src → Heap → Addr → Nat → Prop
  | .text x, h, i, k => ∃ t, h.IsStrIter i (strIterType x) x t k
  | .sq tp b, h, i, k => IsIt tp h i b k
def SrcB (I : Addr) : Src → Prop
  | .text _ => True
  | .sq _ b => b < I
theorem srcI_obj : ∀ {a : Src} {h : Heap} {i : Addr} {k : Nat}, SrcI a h i k → ∃ o vs, h.get? i = some o ∧ o.data = .fields vs
  | .text _, _, _, _, ⟨t, o, e, _, d⟩ => ⟨o, _, e, d⟩
  | .sq _ _, _, _, _, h => isIt_obj h
theorem srcI_at : ∀ {a : Src} {h h' : Heap} {i : Addr} {k : Nat}, SrcI a h i k → (∀ o, h.get? i = some o → h'.get? i = some o) → SrcI a h' i k
  | .text _, _, _, _, _, ⟨t, o, e, r⟩, k => ⟨t, o, k o e, r⟩
  | .sq _ _, _, _, _, _, h, k => isIt_at h k
theorem src_inj {X : Cx} {pins : List (Addr × Obj)} {σ : L2.St} {H : Hp} {s : Shared} (I : Inv X pins σ H s) : ∀ {a : Src} {ys zs : List V}, SrcV X.K a H ys → SrcV X.K a H zs → ys = zs
  | .text _, _, _, h, h' => by rw [show _ = _ from h, show _ = _ from h']
  | .sq _ _, _, _, h, h' => injB I h h'
theorem src_draw {X : Cx} {A : Around} {pins : List (Addr × Obj)} {σ : L2.St} {H : Hp} {s : Shared} (hh : A.handled = none) (I : Inv X pins σ H s) {a : Src} {xs : List V} {it : Addr} {k : Nat} (hv : SrcV X.K a H xs) (hi : SrcI a s.heap it k) :
    ∃ (n : Nat) (P : Nat → Value → Prop) (S : Nat → Heap → Prop), Draws X.prog X.w A it (a.fp it) n P S ∧ n = xs.length ∧ S k s.heap ∧ (∀ j h, S j h → SrcI a h it j) ∧ ∀ j v x, P j v → xs[j]? = some x → RelV x v := by
  cases a with
  | text x =>
    obtain ⟨t, hi⟩ := hi
    have hv : xs = x.cps.toList.map fun c => V.str ⟨#[c]⟩ := hv
    refine ⟨_, _, _, Draws.text hh it x t, by rw [hv]; simp, hi, fun j h q => ⟨t, q⟩, fun j v y q e => ?_⟩
    obtain ⟨c, u, e1, rfl⟩ := q
    rw [hv, List.getElem?_map, Array.getElem?_toList, e1] at e
    cases e
    exact ⟨_, rfl⟩
  | sq tp b =>
    obtain ⟨its, rv, p, _⟩ := seqB I hv
    refine ⟨_, _, _, drawsB tp hh it b (sq_it hi p) its.toArray, by simp [rv.length], ⟨hi, p⟩, fun j h q => q.1, fun j v y q e => ?_⟩
    obtain ⟨u, hu, ru⟩ := rv.get e
    rw [List.getElem?_toArray, hu] at q
    cases q
    exact ru
theorem src_beg {X : Cx} {pins : List (Addr × Obj)} {σ : L2.St} {H : Hp} {s : Shared} (I : Inv X pins σ H s) {a : Src} {xs : List V} {u : Value} (hv : SrcV X.K a H xs) (r : RelV a.v u) :
    ∃ (o : Obj) (P : Heap → Prop), Begins u o P ∧ P s.heap ∧ (∀ h it, h.get? it = some o → SrcI a h it 0) ∧ SrcB s.heap.objs.size a := by
  cases a with
  | text x =>
    obtain ⟨t, rfl⟩ := r
    exact ⟨_, _, begins_text x t, trivial, fun h it e => ⟨t, _, e, rfl, rfl⟩, trivial⟩
  | sq tp b =>
    cases r
    obtain ⟨its, rv, p, lb⟩ := seqB I hv
    refine ⟨_, _, beginsB tp b its.toArray, p, fun h it e => ?_, lb⟩
    cases tp
    · exact ⟨_, e, rfl, rfl⟩
    · exact ⟨_, e, rfl, rfl⟩
def ItzA (K : PySem.W.Frag) (a b : Src) : It :=
  ⟨fun i H => ∃ (xs ys : List V) (x y : V), SrcV K a H xs ∧ SrcV K b H ys ∧ xs[i]? = some x ∧ ys[i]? = some y,
    fun i H v H' => ∃ T x y, v = .ref T ∧ H T = none ∧ H' = upd H T (.tup [x, y]) ∧ (∀ xs, SrcV K a H xs → xs[i]? = some x) ∧ ∀ ys, SrcV K b H ys → ys[i]? = some y,
    fun i H => ∃ xs ys : List V, SrcV K a H xs ∧ SrcV K b H ys ∧ i ≤ xs.length ∧ i ≤ ys.length ∧ (xs.length ≤ i ∨ ys.length ≤ i)⟩
theorem turn_zipA {P : Program} {w : World} {K : PySem.W.Frag} {elts : List Expr} {kk : Nat} {tpos : Pos} {a b : Src} {z TI TO i1 i2 : Addr} (D : ZipSep2 z TI TO i1 i2 (a.fp i1) (b.fp i2)) :
    Turn P w K (.Tuple elts kk tpos) (ItzA K a b) [z, TI, TO, i1, i2] z (fun i h => IsZip h z TI TO .none ∧ IsPair h TI (.ref i1) (.ref i2) ∧ (∃ x y, IsPair h TO x y) ∧ SrcI a h i1 i ∧ SrcI b h i2 i) where
  mem := by simp
  obj := fun i h st c hc => by
    obtain ⟨hz, hTI, ⟨x, y, hTO⟩, h1, h2⟩ := st
    obtain ⟨o1, vs1, e1, d1⟩ := srcI_obj h1
    obtain ⟨o2, vs, e2, d2⟩ := srcI_obj h2
    have e' : c = z ∨ c = TI ∨ c = TO ∨ c = i1 ∨ c = i2 := by simpa using hc
    rcases e' with q | q | q | q | q
    · rw [q]; exact ⟨_, hz, fun v q => nomatch q⟩
    · rw [q]; exact ⟨_, hTI, fun v q => nomatch q⟩
    · rw [q]; exact ⟨_, hTO, fun v q => nomatch q⟩
    · rw [q]; exact ⟨o1, e1, fun v q => by rw [d1] at q; cases q⟩
    · rw [q]; exact ⟨o2, e2, fun v q => by rw [d2] at q; cases q⟩
  keep := fun i h h' st k => by
    obtain ⟨hz, hTI, ⟨x, y, hTO⟩, h1, h2⟩ := st
    exact ⟨k z (by simp) _ hz, k TI (by simp) _ hTI, ⟨x, y, k TO (by simp) _ hTO⟩, srcI_at h1 fun o q => k i1 (by simp) o q, srcI_at h2 fun o q => k i2 (by simp) o q⟩
  item := by
    intro X hP hw hK hc i pins s σ H E I hf st hg
    subst hP hw hK
    obtain ⟨hz, hTI, ⟨x0, y0, hTO⟩, h1, h2⟩ := st
    obtain ⟨xs, ys, x, y, hqx, hqy, hx, hy⟩ := hg
    obtain ⟨n1, P1, S1, D1, l1, t1, k1, r1⟩ := src_draw (A := (X.A).in1) (by simp [I.ok.hd hc]) I hqx h1
    obtain ⟨n2, P2, S2, D2, l2, t2, k2, r2⟩ := src_draw (A := (X.A).in1) (by simp [I.ok.hd hc]) I hqy h2
    have hzl : z < s.heap.objs.size := Heap.lt_size hz
    have lx : i < n1 := by rw [l1]; exact (List.getElem?_eq_some_iff.mp hx).1
    have ly : i < n2 := by rw [l2]; exact (List.getElem?_eq_some_iff.mp hy).1
    refine wpAny_pyNext_zipD2_item D D1 D2 hz hTI hTO t1 t2 lx ly fun x1 x2 h' tk e1 e2 z' TO' h1' h2' hT hsz hk => ?_
    have ru1 := r1 _ _ _ e1 hx
    have ru2 := r2 _ _ _ e2 hy
    refine ⟨_, rfl, wpAny_letOwnedTupleGo_zip (s := { s with heap := h', toks := tk }) z' fun h'' z'' sb => ?_⟩
    have hT2 : h''.get? s.heap.objs.size = some { cls := .type "tuple", data := .seq #[x1, x2] } := (sb.2 _ (Nat.ne_of_gt hzl)).trans hT
    have new : ObjOk X.prog X.w (upd H s.heap.objs.size (.tup [x, y])) h'' s.heap.objs.size (.tup [x, y]) :=
      ⟨by show 2 ≤ sizeLine; decide, [x1, x2], .cons ru1 (.cons ru2 .nil), ⟨_, hT2, rfl, _, rfl⟩⟩
    have I1 : Inv X pins σ (upd H s.heap.objs.size (.tup [x, y])) { s with heap := h'', toks := tk } :=
      I.turnedNew (ch := [z, TI, TO, i1, i2]) (fun c o hb q => (sb.2 c (fun q' => hb (by simp [q']))).trans (hk c o (fun q' => hb (by simp [q'])) (fun q' => hb (by simp [q'])) (fun q' => hb (by simp [q'])) (fun q' => hb (by simp [q'])) q)) hf (Nat.le_refl _) new
    refine ⟨.ref s.heap.objs.size, _, I1, rfl, ⟨_, x, y, rfl, I.hok.fresh (Nat.le_refl _), rfl, fun l hl => by rw [src_inj I hl hqx]; exact hx, fun l hl => by rw [src_inj I hl hqy]; exact hy⟩, ⟨z'', ?_, ⟨x1, x2, ?_⟩, ?_, ?_⟩, fun c hcm => ?_⟩
    · exact (sb.2 _ D.TIz).trans (hk _ _ D.TIz D.TITO D.TIi1 D.TIi2 hTI)
    · exact (sb.2 _ D.TOz).trans TO'
    · exact srcI_at (k1 _ _ h1') fun o q => (sb.2 _ (fun e => D.zf1 (by rw [← e]; exact D.mem1))).trans q
    · exact srcI_at (k2 _ _ h2') fun o q => (sb.2 _ (fun e => D.zf2 (by rw [← e]; exact D.mem2))).trans q
    · have hlt : c < s.heap.objs.size := by
        have e' : c = z ∨ c = TI ∨ c = TO ∨ c = i1 ∨ c = i2 := by simpa using hcm
        rcases e' with q | q | q | q | q
        · rw [q]; exact hzl
        · rw [q]; exact Heap.lt_size hTI
        · rw [q]; exact Heap.lt_size hTO
        · rw [q]; obtain ⟨_, _, e1, _⟩ := srcI_obj h1; exact Heap.lt_size e1
        · rw [q]; obtain ⟨_, _, e2, _⟩ := srcI_obj h2; exact Heap.lt_size e2
      rw [upd_ne (Nat.ne_of_lt hlt)]
      exact (hf c hcm).1
  done := by
    intro X hP hw hK hc i pins s σ H E I hf st hg
    subst hP hw hK
    obtain ⟨hz, hTI, ⟨x0, y0, hTO⟩, h1, h2⟩ := st
    obtain ⟨xs, ys, hqx, hqy, le1, le2, hend⟩ := hg
    obtain ⟨n1, P1, S1, D1, l1, t1, k1, r1⟩ := src_draw (A := (X.A).in1) (by simp [I.ok.hd hc]) I hqx h1
    obtain ⟨n2, P2, S2, D2, l2, t2, k2, r2⟩ := src_draw (A := (X.A).in1) (by simp [I.ok.hd hc]) I hqy h2
    exact wpAny_pyNext_zipD2_end D D1 D2 hz hTI hTO t1 t2 (by rw [l1]; exact le1) (by rw [l2]; exact le2) (by rw [l1, l2]; omega) fun h' tk hk => ⟨rfl, I.turnedL (t' := tk) (ch := [z, TI, TO, i1, i2]) (fun c o hb q =>
      hk c o (fun q' => hb (by simp [q'])) (fun q' => hb (by simp [q'])) (fun q' => hb (by simp [q'])) (fun q' => hb (by simp [q'])) q) hf⟩
  self := fun A i s Q E st h => wpAny_pyIter_zip st.1 h
def iZipA (K : PySem.W.Frag) (ta : TA) : TI := fun σ H R => ta σ H fun vs H1 => ∃ (a b : Src) (xs ys : List V), vs = [a.v, b.v] ∧ SrcV K a H1 xs ∧ SrcV K b H1 ys ∧ R (ItzA K a b) H1
theorem fp_no {I c i : Addr} : ∀ {a : Src}, SrcB I a → I ≤ c → c ≠ i → c ∉ a.fp i
  | .text _, _, _, ne, h => ne (List.mem_singleton.mp h)
  | .sq _ b, (lt : b < I), le, ne, h => by
    rcases List.mem_cons.mp h with h | h
    · exact ne h
    · have lt : b < I := lt
      rw [List.mem_singleton.mp h] at le
      exact absurd le (Nat.not_le.mpr lt)
theorem fp_in {i : Addr} : ∀ {a : Src}, i ∈ a.fp i
  | .text _ => List.mem_cons_self
  | .sq _ _ => List.mem_cons_self
theorem sepA (I : Nat) (a b : Src) (ha : SrcB I a) (hb : SrcB I b) : ZipSep2 (I + 4) (I + 2) (I + 3) I (I + 1) (a.fp I) (b.fp (I + 1)) := by
  have n2 : ∀ j k : Nat, j ≠ k → I + j ≠ I + k := fun j k h => by omega
  have m1 : ∀ j : Nat, j ≠ 0 → I + j ∉ a.fp I := fun j h => fp_no ha (Nat.le_add_right _ _) (n2 j 0 h)
  have m2 : ∀ j : Nat, j ≠ 1 → I + j ∉ b.fp (I + 1) := fun j h => fp_no hb (Nat.le_add_right _ _) (n2 j 1 h)
  exact ⟨n2 2 4 (by decide), n2 3 4 (by decide), n2 2 3 (by decide), n2 2 0 (by decide), fp_in, m1 4 (by decide), m1 3 (by decide), n2 2 1 (by decide), fp_in, m2 4 (by decide), m2 3 (by decide), m2 0 (by decide), m1 1 (by decide)⟩
section
variable {X : Cx} {K : PySem.W.Frag} {a b : Expr}
theorem pi_zipA {e e2 : Expr} {ta : TA} {p pos tpos : Pos} {elts : List Expr} {kk : Nat} (hg : Gl X "zip") (hm : X.mg "zip" = none) (ha : PA X [e, e2] ta)
    (hs : starEach [e, e2] X.env = (false, eval e X.env) :: starEach [e2] X.env := by rfl) (hpl : (backTo pos (starEach [e2] X.env)).any (·.1) = false := by rfl) :
    PI X (.Tuple elts kk tpos) (.Call (.Name "zip" p) [e, e2] [] pos) (iZipA X.K ta) := by
  refine ⟨fun pins s σ H R I h => ?_⟩
  refine Call_ (ld_blt I hg hm PyProof.Rows.boot_zip (PyProof.Rows.callWith_type1 (thn (ha.run pos pins s σ H _ I h) fun us s1 ⟨vs, H1, I1, r1, q1⟩ => ?_) hs hpl))
  obtain ⟨a, b, xs, ys, ex, hqx, hqy, q⟩ := q1
  subst ex
  cases r1 with
  | cons r rr =>
    cases rr with
    | cons r' rr =>
      cases rr
      obtain ⟨o1, P1, B1, p1, i1, la⟩ := src_beg I1 hqx r
      obtain ⟨o2, P2, B2, p2, i2, lb⟩ := src_beg I1 hqy r'
      refine zip_begins2 B1 B2 p1 p2 fun h' hz hTI hTO h1 h2 hsz hk => wpAny_pyIter_zip hz ?_
      have I2 : Inv X pins σ H1 { s1 with heap := h' } := I1.kept (t' := s1.toks) hk
      refine ⟨s1.heap.objs.size + 4, [s1.heap.objs.size + 4, s1.heap.objs.size + 2, s1.heap.objs.size + 3, s1.heap.objs.size, s1.heap.objs.size + 1], _, _, H1, rfl, I2, turn_zipA (sepA _ a b la lb), ⟨hz, hTI, ⟨_, _, hTO⟩, i1 _ _ h1, i2 _ _ h2⟩, fun c hcm => ?_, q⟩
      have e' : c = s1.heap.objs.size + 4 ∨ c = s1.heap.objs.size + 2 ∨ c = s1.heap.objs.size + 3 ∨ c = s1.heap.objs.size ∨ c = s1.heap.objs.size + 1 := by simpa using hcm
      have hle : s1.heap.objs.size ≤ c := by
        rcases e' with z | z | z | z | z
        · rw [z]; exact Nat.le_add_right _ _
        · rw [z]; exact Nat.le_add_right _ _
        · rw [z]; exact Nat.le_add_right _ _
        · rw [z]; exact Nat.le_refl _
        · rw [z]; exact Nat.le_add_right _ _
      exact I1.fpOk hle (I1.hok.fresh hle)
theorem walk_zipA {a b : Src} {xs ys : List V} {n : Nat} (hn : n = min xs.length ys.length) : Walk (ItzA K a b) n (fun H => SrcV K a H xs ∧ SrcV K b H ys) (YPair (fun i => xs[i]?) (fun i => ys[i]?)) := by
  subst hn
  refine ⟨fun i _ hi q => ?_, fun _ q => ⟨xs, ys, q.1, q.2, by omega, by omega, by omega⟩, fun i H v H' _ q y => ?_⟩
  · have l1 : i < xs.length := by omega
    have l2 : i < ys.length := by omega
    exact ⟨xs, ys, xs[i], ys[i], q.1, q.2, by simp [l1], by simp [l2]⟩
  · obtain ⟨T, x, y, e1, e2, e3, e4, e5⟩ := y
    exact ⟨T, x, y, e1, e2, e3, e4 xs q.1, e5 ys q.2⟩
def goD : D → Option (List D)
  | .str x => some (sgD x)
  | .tup ds => some ds
  | .lst ds => some ds
  | _ => none
def aIzipA (ar : AA) (Γ : Sl) (M : Mem) (Q : List D → Sl → Mem → Prop) : Prop := ar Γ M fun ds Γ1 M1 => match ds with
  | [d, e] => match goD d, goD e with
    | some xs, some ys => Q (zipD xs ys) Γ1 M1
    | _, _ => False
  | _ => False
theorem sg_rep {K : PySem.W.Frag} {G : Hp} (x : Str) : RepL K G (sgD x) (x.cps.toList.map fun c => V.str ⟨#[c]⟩) := by
  unfold sgD
  generalize x.cps.toList = cs
  induction cs with
  | nil => exact repL_nil.mpr rfl
  | cons c cs ih => exact repL_cons.mpr ⟨_, _, rfl, by rw [Rep], ih⟩
theorem go_src {K : PySem.W.Frag} {H G : Hp} {d : D} {v : V} {xs : List D} (ex : Ex G H) (r : Rep K G d v) (h : goD d = some xs) : ∃ (a : Src) (us : List V), v = a.v ∧ (∀ H', Ex G H' → SrcV K a H' us) ∧ RepL K G xs us := by
  cases d with
  | str x => cases h; rw [Rep] at r; exact ⟨.text x, _, r, fun H' e => rfl, sg_rep x⟩
  | tup ds =>
    cases h
    obtain ⟨p, us, rfl, s1, l1⟩ := rep_tup r
    exact ⟨.sq true p, us, rfl, fun H' e => ex_t e s1, l1⟩
  | lst ds =>
    cases h
    obtain ⟨p, us, rfl, s1, l1⟩ := rep_lst.mp r
    exact ⟨.sq false p, us, rfl, fun H' e => SqL.of (e _ _ s1), l1⟩
  | _ => cases h
theorem qi_zipA {tpos p pos : Pos} {elts : List Expr} {kk : Nat} {tr : TA} {ar : AA} (hm : X.mg "zip" = none) (ha : QA X ρ [a, b] tr ar) (hg : Gl X "zip" := by rfl) (hs : starEach [a, b] X.env = (false, eval a X.env) :: starEach [b] X.env := by rfl) (hpl : (backTo pos (starEach [b] X.env)).any (·.1) = false := by rfl) (hK : X.K = K := by rfl) :
    QI X ρ (.Tuple elts kk tpos) (.Call (.Name "zip" p) [a, b] [] pos) (iZipA K tr) (aIzipA ar) := by
  subst hK
  refine ⟨pi_zipA hg hm ha.pe hs hpl, fun B σ H G Γ M Q R k hh q => ha.rd B σ H G Γ M _ _ k hh fun vs H1 G1 Γ1 M1 ds k1 e1 rl h1 => ?_⟩
  split at h1
  · rename_i d e
    split at h1
    · rename_i xs ys hx hy
      obtain ⟨v, r, rfl, rv, rn⟩ := repL_cons.mp rl
      obtain ⟨u, r', rfl, ru, rn'⟩ := repL_cons.mp rn
      have := repL_nil.mp rn'; subst this
      obtain ⟨sa, us, rfl, s1, l1⟩ := go_src k1.ex rv hx
      obtain ⟨sb, ws, rfl, s2, l2⟩ := go_src k1.ex ru hy
      refine ⟨sa, sb, us, ws, rfl, s1 _ k1.ex, s2 _ k1.ex, q _ H1 G1 Γ1 M1 _ k1 e1 ⟨_, _, walk_zipA ?_, fun H e => ⟨s1 _ e, s2 _ e⟩, fun i H x H' d hd _ y => yld_pair l1 l2 hd y⟩ h1⟩
      unfold zipD; rw [List.length_zipWith, l1.length, l2.length]
    · exact h1.elim
  · exact h1.elim
end
def e_aIzipA := @aIzipA.eq_def
end Gw

namespace Gw
open PySem PySem.Spec L2 PyProof.Rows
variable {ρ : Ent}
section
variable {X : Cx} {o e a b : Expr} {to te ta tb : TE} {ao ae aa ab : AE} {pos apos : Pos} {K : PySem.W.Frag}
def aCntS (ao ae : AE) (Γ : Sl) (M : Mem) (Q : Ret → Sl → Mem → Prop) : Prop := ao Γ M fun r Γ1 M1 => match r with
  | .dat (.str x) => ae Γ1 M1 fun r2 Γ2 M2 => match r2 with
    | .dat (.str y) => Q (.dat (.int (Txt.count x y))) Γ2 M2
    | _ => False
  | _ => False
theorem q_cntS (ho : QE X ρ o to ao) (he : QE X ρ e te ae) (hs : starEach [e] X.env = [(false, eval e X.env)] := by rfl) (hbase : attributeBase o "count" X.env (eval o X.env) = eval o X.env := by rfl) (hline : (apos.endLine == pos.line) = true := by rfl) :
    QE X ρ (.Call (.Attribute o "count" apos) [e] [] pos) (tM1 (fun x xs H Q => ∃ a b, x = .str a ∧ xs = [.str b] ∧ Q (.int (Txt.count a b)) H) to te) (aCntS ao ae) := by
  refine ⟨pe_m1 F.slot_str_count F.type_str_count mt_count ho.pe he.pe hs hbase hline, ?_⟩
  intro B σ H G Γ M Q R k h q
  refine ho.rd B σ H G Γ M _ _ k h fun v H1 G1 Γ1 M1 r k1 e1 rr h1 => ?_
  split at h1
  · rename_i x
    have ev := rep_strV (show Rep X.K G1 (.str x) v from rr)
    subst ev
    refine ⟨⟨x, rfl⟩, he.rd B σ H1 G1 Γ1 M1 _ _ k1 h1 fun u H2 G2 Γ2 M2 r2 k2 e2 rr2 h2 => ?_⟩
    split at h2
    · rename_i y
      have eu := rep_strV (show Rep X.K G2 (.str y) u from rr2)
      subst eu
      exact ⟨x, y, rfl, rfl, q _ _ _ _ _ (.dat (.int _)) k2 (e1.trans e2) (by simp only [RepR, Rep]) h2⟩
    · exact h2.elim
  · exact h1.elim
def aIxA (x : Ret) (y : Ret) (Γ : Sl) (M : Mem) (Q : Ret → Sl → Mem → Prop) : Prop := match x with
  | .dat (.str z) => aIxS (.dat (.str z)) y Γ M Q
  | _ => aIx x y Γ M Q
theorem rd_ixA : RdO K ρ (fun x y H Q => (rIxL K x y H Q ∨ rIxT K x y H Q) ∨ rIxS x y H Q) aIxA := by
  intro B σ H H1 H2 G Γ M rx ry x y Q R k r1 r2 h q
  unfold aIxA at h
  split at h
  · exact .inr (rd_ixS B σ H H1 H2 G Γ M _ ry x y Q R k r1 r2 h q)
  · exact .inl (rd_ixL B σ H H1 H2 G Γ M rx ry x y Q R k r1 r2 h q)
theorem q_ixA (ha : QE X ρ a ta aa) (hb : QE X ρ b tb ab) (hs : PlainIx b := by exact fun _ _ => rfl) (hK : X.K = K := by rfl) : QE X ρ (.Subscript a b pos) (tOp (fun x y H Q => (rIxL K x y H Q ∨ rIxT K x y H Q) ∨ rIxS x y H Q) ta tb) (aOp aIxA aa ab) := by subst hK; exact q_ix ((ix_list.or ix_tup).or ix_str) rd_ixA ha hb hs
def aLenA (r : Ret) (Γ : Sl) (M : Mem) (Q : Ret → Sl → Mem → Prop) : Prop := match r with
  | .dat (.str x) => x.length ≤ 16777216 ∧ Q (.dat (.int x.length)) Γ M
  | _ => aLen r Γ M Q
theorem call_lenA : CallR X (.builtin "len") (fun xs H Q => (∃ p ys, xs = [.ref p] ∧ (SqL X.K H p ys ∨ SqT X.K H p ys) ∧ Q (.int ys.length) H) ∨ ∃ z, xs = [.str z] ∧ z.length ≤ sizeLine ∧ Q (.int z.length) H) := by
  intro pins s σ H xs us Q I rv h
  rcases h with h | h
  · exact call_len_seq pins s σ H xs us Q I rv h
  · exact call_len_str pins s σ H xs us Q I rv h
theorem q_lenA {p : Pos} (hm : X.mg "len" = none) (ha : QE X ρ a ta aa) (hg : Gl X "len" := by rfl) (na : starEach [a] X.env = (false, eval a X.env) :: starEach [] X.env := by rfl) (hK : X.K = K := by rfl) :
    QE X ρ (.Call (.Name "len" p) [a] [] pos) (tCB (fun xs H Q => (∃ p ys, xs = [.ref p] ∧ (SqL K H p ys ∨ SqT K H p ys) ∧ Q (.int ys.length) H) ∨ ∃ z, xs = [.str z] ∧ z.length ≤ sizeLine ∧ Q (.int z.length) H) (tCons ta tNil)) (aCall1 aLenA aa) := by
  subst hK
  exact q_callB1 call_lenA (by
    intro B σ H H1 G Γ M rx x Q R k r1 h q
    unfold aLenA at h
    split at h
    · rename_i i
      have e : x = .str i := by have := r1; simp only [RepR, Rep] at this; exact this
      exact .inr ⟨i, by rw [e], by rw [size_val]; exact h.1, q _ H G Γ M (.dat (.int _)) k .refl (by simp only [RepR, Rep]) h.2⟩
    · exact .inl (rd_len B σ H H1 G Γ M rx x Q R k r1 h q)) hm ha hg (by decide +kernel) (by decide) (by decide) na
end
def e_aCntS := @aCntS.eq_def
def e_aIxA := @aIxA.eq_def
def e_aLenA := @aLenA.eq_def
end Gw

namespace Law
open PySem L2 Gw
def HP (P : Mem) (a : Addr) (g s : Int) (M : Mem) : Mem := P ++ (a, .lst [.int g, .int s]) :: M
structure HOk (g s : Int) : Prop where
  s0 : 0 ≤ s
  s1 : s < 2305843009213693951
structure HA (P : Mem) (a : Addr) (M : Mem) : Prop where
  p : a ∉ dom P
  m : a ∉ dom M
def S__law_hand : ASp := fun ds M Q => ∃ (ns : List Int) (k : Int), ds = [.scr (ns.map .int), .int k] ∧ 0 ≤ k ∧ k ≤ 100 ∧ ∀ a g s, a ∉ dom M → HOk g s → Q (.dat (.ref a)) (HP [] a g s M)
def S__law_take : ASp := fun ds M Q => ∃ P a g s M0 m, ds = [.ref a, .int m] ∧ M = HP P a g s M0 ∧ HA P a M0 ∧ HOk g s ∧ 0 < m ∧ m ≤ 10 ^ 40 ∧ ∀ d g' s', 0 ≤ d → d < m → HOk g' s' → Q (.dat (.int d)) (HP P a g' s' M0)
theorem ar__law_hand : Ar 2 S__law_hand := fun _ _ _ ⟨_, _, e, _⟩ => by rw [e]; rfl
theorem ar__law_take : Ar 2 S__law_take := fun _ _ _ ⟨_, _, _, _, _, _, e, _⟩ => by rw [e]; rfl
structure Z4 where
  a : Int
  b : Int
  c : Int
  d : Int
  deriving DecidableEq
namespace Z4
def zero : Z4 := ⟨0, 0, 0, 0⟩
def m (x : Z4) : Z4 := ⟨x.b - x.d, x.a + x.c, x.b + x.d, x.c - x.a⟩
def hf (x : Z4) : Z4 := ⟨(x.b - x.d) / 2, (x.a + x.c) / 2, (x.b + x.d) / 2, (x.c - x.a) / 2⟩
def ev (x : Z4) : Bool := decide ((x.a + x.c).fmod 2 = 0) && decide ((x.b + x.d).fmod 2 = 0)
def add (x y : Z4) : Z4 := ⟨x.a + y.a, x.b + y.b, x.c + y.c, x.d + y.d⟩
def mul (x y : Z4) : Z4 := ⟨x.a * y.a - x.b * y.d - x.c * y.c - x.d * y.b, x.a * y.b + x.b * y.a - x.c * y.d - x.d * y.c, x.a * y.c + x.b * y.b + x.c * y.a - x.d * y.d, x.a * y.d + x.b * y.c + x.c * y.b + x.d * y.a⟩
def conj (x : Z4) : Z4 := ⟨x.a, -x.d, -x.c, -x.b⟩
def sm (n : Int) (x : Z4) : Z4 := ⟨n * x.a, n * x.b, n * x.c, n * x.d⟩
def mp : Nat → Z4 → Z4
  | 0, x => x
  | n + 1, x => mp n x.m
def low : Nat → Z4 → Z4 × Nat
  | 0, x => (x, 0)
  | k + 1, x => if x.ev = true then low k x.hf else (x, k + 1)
structure B (x : Z4) (n : Nat) : Prop where
  a0 : -(2 ^ n) ≤ x.a
  a1 : x.a ≤ 2 ^ n
  b0 : -(2 ^ n) ≤ x.b
  b1 : x.b ≤ 2 ^ n
  c0 : -(2 ^ n) ≤ x.c
  c1 : x.c ≤ 2 ^ n
  d0 : -(2 ^ n) ≤ x.d
  d1 : x.d ≤ 2 ^ n
end Z4
def D5 (x : Z4) (k : Nat) : D := .tup [.int x.a, .int x.b, .int x.c, .int x.d, .int k]
def Low (x : Z4) (k : Nat) : D := if x = Z4.zero then D5 Z4.zero 0 else D5 (Z4.low k x).1 (Z4.low k x).2
def Red (x : Z4) (k : Nat) : Prop := (x = Z4.zero → k = 0) ∧ (0 < k → x.ev = false)
def rt : Nat → Z4
  | 0 => ⟨1, 0, 0, 0⟩
  | 1 => ⟨0, 1, 0, 0⟩
  | 2 => ⟨0, 0, 1, 0⟩
  | 3 => ⟨0, 0, 0, 1⟩
  | 4 => ⟨-1, 0, 0, 0⟩
  | 5 => ⟨0, -1, 0, 0⟩
  | 6 => ⟨0, 0, -1, 0⟩
  | 7 => ⟨0, 0, 0, -1⟩
  | _ => ⟨0, 0, 0, 0⟩
def S_can_be_less : ASp := fun ds M Q => ∃ x : Z4, ds = [.int x.a, .int x.b, .int x.c, .int x.d] ∧ Q (.dat (.bl x.ev)) M
def S_lowest : ASp := fun ds M Q => ∃ (x : Z4) (k : Nat), ds = [.int x.a, .int x.b, .int x.c, .int x.d, .int k] ∧ Q (.dat (Low x k)) M
def S_times : ASp := fun ds M Q => ∃ (x y : Z4) (k l : Nat), ds = [D5 x k, D5 y l] ∧ x.B 1000 ∧ y.B 1000 ∧ Q (.dat (Low (Z4.mul x y) (k + l))) M
def S_root : ASp := fun ds M Q => ∃ j : Int, ds = [.int j] ∧ Q (.dat (D5 (rt (j.fmod 8).toNat) 0)) M
theorem ar_can_be_less : Ar 4 S_can_be_less := fun _ _ _ ⟨_, e, _⟩ => by rw [e]; rfl
theorem ar_lowest : Ar 5 S_lowest := fun _ _ _ ⟨_, _, e, _⟩ => by rw [e]; rfl
theorem ar_times : Ar 2 S_times := fun _ _ _ ⟨_, _, _, _, e, _⟩ => by rw [e]; rfl
theorem ar_root : Ar 1 S_root := fun _ _ _ ⟨_, e, _⟩ => by rw [e]; rfl

structure W (kv : List (Int × Int)) : Prop where
  nd : (kv.map (·.1)).Nodup
  r : ∀ p ∈ kv, 0 ≤ p.1 ∧ p.1 < 8
def val : List (Int × Int) → Z4
  | [] => Z4.zero
  | p :: kv => Z4.add (Z4.sm p.2 (rt p.1.toNat)) (val kv)
def DS (p q : Int) (k : Nat) : D := .tup [.int p, .int q, .int (k : Int)]
def nP (x : Z4) : Int := x.a * x.a + x.b * x.b + x.c * x.c + x.d * x.d
def nQ (x : Z4) : Int := x.a * x.b + x.b * x.c + x.c * x.d - x.d * x.a
def Pos (p q : Int) : Bool := if 0 ≤ p ∧ 0 ≤ q then decide (0 < p ∨ 0 < q) else if p ≤ 0 ∧ q ≤ 0 then false else decide (2 * q * q < p * p) == decide (0 < p)
structure Shr where
  p : Int
  q : Int
  k : Nat
def Shr.d (t : Shr) : D := DS t.p t.q t.k
def Shr.add (s t : Shr) : Shr := ⟨s.p * 2 ^ (max s.k t.k - s.k) + t.p * 2 ^ (max s.k t.k - t.k), s.q * 2 ^ (max s.k t.k - s.k) + t.q * 2 ^ (max s.k t.k - t.k), max s.k t.k⟩
def Shr.sum (ts : List Shr) : Shr := ts.foldl Shr.add ⟨0, 0, 0⟩
structure Shr.B (t : Shr) (n m : Nat) : Prop where
  p : t.p.natAbs ≤ 2 ^ n
  q : t.q.natAbs ≤ 2 ^ n
  k : t.k ≤ m
structure Q4 where
  a : Rat
  b : Rat
  c : Rat
  d : Rat
  deriving DecidableEq
theorem Q4.eq {x y : Q4} (h1 : x.a = y.a) (h2 : x.b = y.b) (h3 : x.c = y.c) (h4 : x.d = y.d) : x = y := by
  cases x; cases y; simp at *; exact ⟨h1, h2, h3, h4⟩
namespace Q4
def add (x y : Q4) : Q4 := ⟨x.a + y.a, x.b + y.b, x.c + y.c, x.d + y.d⟩
def mul (x y : Q4) : Q4 := ⟨x.a * y.a - x.b * y.d - x.c * y.c - x.d * y.b, x.a * y.b + x.b * y.a - x.c * y.d - x.d * y.c, x.a * y.c + x.b * y.b + x.c * y.a - x.d * y.d, x.a * y.d + x.b * y.c + x.c * y.b + x.d * y.a⟩
def pow (x : Q4) : Nat → Q4
  | 0 => ⟨1, 0, 0, 0⟩
  | n + 1 => mul (pow x n) x
end Q4
instance : Add Q4 := ⟨Q4.add⟩
instance : Mul Q4 := ⟨Q4.mul⟩
instance : Neg Q4 := ⟨fun x => ⟨-x.a, -x.b, -x.c, -x.d⟩⟩
instance : Sub Q4 := ⟨fun x y => ⟨x.a - y.a, x.b - y.b, x.c - y.c, x.d - y.d⟩⟩
instance : NatCast Q4 := ⟨fun n => ⟨n, 0, 0, 0⟩⟩
instance : IntCast Q4 := ⟨fun n => ⟨n, 0, 0, 0⟩⟩
instance q4n (n : Nat) : OfNat Q4 n := ⟨⟨n, 0, 0, 0⟩⟩
instance : SMul Nat Q4 := ⟨fun n x => Q4.mul ⟨n, 0, 0, 0⟩ x⟩
instance : SMul Int Q4 := ⟨fun n x => Q4.mul ⟨n, 0, 0, 0⟩ x⟩
instance : HPow Q4 Nat Q4 := ⟨Q4.pow⟩
theorem Q4.add_d (x y : Q4) : x + y = ⟨x.a + y.a, x.b + y.b, x.c + y.c, x.d + y.d⟩ := rfl
theorem Q4.mul_d (x y : Q4) : x * y = ⟨x.a * y.a - x.b * y.d - x.c * y.c - x.d * y.b, x.a * y.b + x.b * y.a - x.c * y.d - x.d * y.c, x.a * y.c + x.b * y.b + x.c * y.a - x.d * y.d, x.a * y.d + x.b * y.c + x.c * y.b + x.d * y.a⟩ := rfl
theorem Q4.neg_d (x : Q4) : -x = ⟨-x.a, -x.b, -x.c, -x.d⟩ := rfl
theorem Q4.sub_d (x y : Q4) : x - y = ⟨x.a - y.a, x.b - y.b, x.c - y.c, x.d - y.d⟩ := rfl
theorem Q4.zero_d : (0 : Q4) = ⟨0, 0, 0, 0⟩ := rfl
theorem Q4.one_d : (1 : Q4) = ⟨1, 0, 0, 0⟩ := rfl
instance : Lean.Grind.CommRing Q4 where
  add_zero x := by apply Q4.eq <;> simp only [Q4.add_d, Q4.zero_d] <;> grind
  add_comm x y := by apply Q4.eq <;> simp only [Q4.add_d] <;> grind
  add_assoc x y z := by apply Q4.eq <;> simp only [Q4.add_d] <;> grind
  mul_assoc x y z := by apply Q4.eq <;> simp only [Q4.mul_d] <;> grind
  mul_comm x y := by apply Q4.eq <;> simp only [Q4.mul_d] <;> grind
  mul_one x := by apply Q4.eq <;> simp only [Q4.mul_d, Q4.one_d] <;> grind
  one_mul x := by apply Q4.eq <;> simp only [Q4.mul_d, Q4.one_d] <;> grind
  mul_zero x := by apply Q4.eq <;> simp only [Q4.mul_d, Q4.zero_d] <;> grind
  right_distrib x y z := by apply Q4.eq <;> simp only [Q4.mul_d, Q4.add_d] <;> grind
  left_distrib x y z := by apply Q4.eq <;> simp only [Q4.mul_d, Q4.add_d] <;> grind
  zero_mul x := by apply Q4.eq <;> simp only [Q4.mul_d, Q4.zero_d] <;> grind
  pow_zero x := rfl
  pow_succ x n := rfl
  ofNat_succ n := by
    show (⟨((n + 1 : Nat) : Rat), 0, 0, 0⟩ : Q4) = (⟨((n : Nat) : Rat), 0, 0, 0⟩ : Q4) + ⟨((1 : Nat) : Rat), 0, 0, 0⟩
    apply Q4.eq <;> simp only [Q4.add_d] <;> grind
  neg_add_cancel x := by apply Q4.eq <;> simp only [Q4.add_d, Q4.neg_d, Q4.zero_d] <;> grind
  sub_eq_add_neg x y := by apply Q4.eq <;> simp only [Q4.add_d, Q4.neg_d, Q4.sub_d] <;> grind
  neg_zsmul i x := by
    show Q4.mul _ _ = - Q4.mul _ _
    apply Q4.eq <;> simp only [Q4.mul, Q4.neg_d] <;> grind
  intCast_ofNat n := by
    show (⟨(((OfNat.ofNat n : Int)) : Rat), 0, 0, 0⟩ : Q4) = ⟨((n : Nat) : Rat), 0, 0, 0⟩
    apply Q4.eq <;> first | rfl | simp
  intCast_neg i := by
    show (⟨((-i : Int) : Rat), 0, 0, 0⟩ : Q4) = - ⟨(i : Rat), 0, 0, 0⟩
    apply Q4.eq <;> simp only [Q4.neg_d] <;> grind
def ofZ (x : Z4) : Q4 := ⟨x.a, x.b, x.c, x.d⟩
def sq2 : Q4 := ⟨0, 1, 0, -1⟩
def iq2 : Q4 := ⟨0, 1 / 2, 0, -1 / 2⟩
def VL (x : Z4) (k : Nat) : Q4 := ofZ x * iq2 ^ k

abbrev Nm := Z4 × Nat
def nD (n : Nm) : D := D5 n.1 n.2
def pD (p : List Int × Nm) : D := .tup [rowD p.1, nD p.2]
def mixD (ps : List (List Int × Nm)) : D := .tup (ps.map pD)
def lowN (n : Nm) : Nm := if n.1 = Z4.zero then (Z4.zero, 0) else Z4.low n.2 n.1
def mulN (m n : Nm) : Nm := (Z4.mul m.1 n.1, m.2 + n.2)
def NB8 (b k : Nat) (n : Nm) : Prop := n.1.B b ∧ n.2 ≤ k
structure Mix (w b k : Nat) (ps : List (List Int × Nm)) : Prop where
  row : ∀ p ∈ ps, p.1.length = w ∧ ∀ z ∈ p.1, 0 ≤ z ∧ z < 2
  nd : (ps.map (·.1)).Nodup
  num : ∀ p ∈ ps, NB8 b k p.2
  few : ps.length < 64
def Ord (ps : List (List Int × Nm)) : Prop := (ps.map (·.1)).Pairwise (fun r q => HT.lexLt r q = true)
structure Gt where
  w : Str
  j : Int
  cs : List Int
  t : Int
def gtD (g : Gt) : D := .tup [.str g.w, .int g.j, .tup (g.cs.map .int), .int g.t]
structure GtOk (n : Nat) (g : Gt) : Prop where
  word : g.w = "not" ∨ g.w = "half" ∨ g.w = "turn" ∨ g.w = "phase" ∨ g.w = "cross"
  j0 : 0 ≤ g.j
  j1 : g.j < 8
  cs : ∀ c ∈ g.cs, 0 ≤ c ∧ c < n ∧ c ≠ g.t
  few : g.cs.length ≤ 4
  ph : g.w = "phase" → g.cs = [] ∧ g.t = -1
  wire : g.w ≠ "phase" → 0 ≤ g.t ∧ g.t < n
  cr : g.w = "cross" → ∃ c, g.cs = [c]

def bitAt (r : List Int) (i : Int) : Int := (r[i.toNat]?).getD 0
def setB (r : List Int) (i : Int) (b : Int) : List Int := r.set i.toNat b
def shotsL (g : Gt) (r : List Int) : List (List Int × Nat × Nat) :=
  if g.w = "cross" then [(setB (setB r g.t (bitAt r (g.cs.headD 0))) (g.cs.headD 0) (bitAt r g.t), 0, 0)]
  else if g.w = "phase" then [(r, g.j.toNat, 0)]
  else if g.cs.any (fun c => decide (bitAt r c = 0)) then [(r, 0, 0)]
  else if g.w = "turn" then [(r, (g.j * bitAt r g.t).toNat, 0)]
  else if g.w = "not" then [(setB r g.t (1 - bitAt r g.t), 0, 0)]
  else [(r, (4 * bitAt r g.t).toNat, 1), (setB r g.t (1 - bitAt r g.t), 0, 1)]
def shotN (n : Nm) (s : List Int × Nat × Nat) : List Int × Nm := (s.1, mulN n (rt (s.2.1 % 8), s.2.2))
def shP (g : Gt) (p : List Int × Nm) : List (List Int × Nm) := (shotsL g p.1).map (shotN p.2)
def BitRow (w : Nat) (r : List Int) : Prop := r.length = w ∧ ∀ z ∈ r, 0 ≤ z ∧ z < 2
def VN (n : Nm) : Q4 := VL n.1 n.2
def Vt : List (List Int × Nm) → List Int → Q4
  | [], _ => 0
  | p :: t, r => (if p.1 = r then VN p.2 else 0) + Vt t r
def abs1 (x : Z4) : Nat := x.a.natAbs + x.b.natAbs + x.c.natAbs + x.d.natAbs
def wt (K : Nat) (n : Nm) : Nat := abs1 (Z4.mp (K - n.2) n.1)
def wts (K : Nat) : List (List Int × Nm) → Nat
  | [] => 0
  | p :: t => wt K p.2 + wts K t
structure Sta (w i : Nat) (t : List (List Int × Nm)) : Prop where
  row : ∀ p ∈ t, BitRow w p.1
  nd : (t.map (·.1)).Nodup
  red : ∀ p ∈ t, Red p.2.1 p.2.2 ∧ p.2.1 ≠ Z4.zero
  k : ∀ p ∈ t, p.2.2 ≤ 9 + i
  wt : wts (9 + i) t ≤ 2 ^ (60 + i)
def Stp1 (g : Gt) (t t' : List (List Int × Nm)) : Prop := ∀ r, Vt t' r = Vt (t.flatMap (shP g)) r
inductive RunR (w : Nat) : Nat → List Gt → List (List Int × Nm) → List (List Int × Nm) → Prop
  | nil {i : Nat} {t : List (List Int × Nm)} : RunR w i [] t t
  | cons {i : Nat} {g : Gt} {gs : List Gt} {t s u : List (List Int × Nm)} : Sta w (i + 1) s → Stp1 g t s → RunR w (i + 1) gs s u → RunR w i (g :: gs) t u
structure Kp where
  m : Bool
  n : List Bool
  s : List Bool
instance : Inhabited Kp := ⟨⟨false, [], []⟩⟩
def bI (b : Bool) : Int := if b = true then 1 else 0
def bD (b : Bool) : D := .int (bI b)
def bsD (l : List Bool) : List D := l.map bD
def gB (l : List Bool) (i : Nat) : Bool := (l[i]?).getD false
def swB (l : List Bool) (i j : Nat) : List Bool := (l.set i (gB l j)).set j (gB l i)
structure KOk (z : Nat) (k : Kp) : Prop where
  n : k.n.length = z
  s : k.s.length = z
def initK (n w : Nat) (b : Bool) : Kp := ⟨b, List.replicate n false, (List.replicate n false).set w true⟩
def hK (w : Nat) (k : Kp) : Kp := ⟨k.m ^^ (gB k.n w && gB k.s w), k.n.set w (gB k.s w), k.s.set w (gB k.n w)⟩
def tK (j : Int) (w : Nat) (k : Kp) : Kp := ⟨k.m ^^ (if j = 2 then gB k.n w && gB k.s w else if j = 6 then gB k.n w && !gB k.s w else gB k.n w), k.n, if j = 4 then k.s else k.s.set w (gB k.s w ^^ gB k.n w)⟩
def nK (cs : List Nat) (w : Nat) (k : Kp) : Kp := match cs with
  | [] => ⟨k.m ^^ gB k.s w, k.n, k.s⟩
  | o :: _ => ⟨k.m ^^ (gB k.n o && gB k.s w && !(gB k.n w ^^ gB k.s o)), k.n.set w (gB k.n w ^^ gB k.n o), k.s.set o (gB k.s o ^^ gB k.s w)⟩
def cK (o w : Nat) (k : Kp) : Kp := ⟨k.m, swB k.n o w, swB k.s o w⟩
def gK (g : Gt) (k : Kp) : Kp := if g.w = "half" then hK g.t.toNat k else if g.w = "turn" then tK g.j g.t.toNat k else if g.w = "not" then nK (g.cs.map Int.toNat) g.t.toNat k else if g.w = "cross" then cK ((g.cs.map Int.toNat).headD 0) g.t.toNat k else k
def qAt (hn hs yn ys : Bool) : Int := if hn = true ∧ hs = true then bI ys - bI yn else if hn = true then bI ys * (2 * bI yn - 1) else if hs = true then bI yn * (1 - 2 * bI ys) else 0
def qSum (x y : Kp) (n : Nat) : Int := ((List.range n).map fun w => qAt (gB x.n w) (gB x.s w) (gB y.n w) (gB y.s w)).sum
def qwF (x y : Kp) : Int := 2 * (bI x.m + bI y.m) + qSum x y x.n.length
def tinK (x y : Kp) : Kp := ⟨decide ((qwF x y).fmod 4 / 2 = 1), List.zipWith (· ^^ ·) x.n y.n, List.zipWith (· ^^ ·) x.s y.s⟩
def sgN (n s : Bool) : Nat := if n = true then (if s = true then 121 else 120) else if s = true then 122 else 105
def letS (k : Kp) : Str := ⟨(List.zipWith sgN k.n k.s).toArray⟩
def letD (k : Kp) : D := .tup [.int (1 - 2 * bI k.m), .str (letS k)]
structure KA where
  a : Addr
  p : Addr
  q : Addr
  k : Kp
def kF : List Str := ["minus", "nots", "signs"]
structure KAt (M : Mem) (X : KA) : Prop where
  a : M.lookup X.a = some (.ins "Keeper" kF [bD X.k.m, .ref X.p, .ref X.q])
  p : M.lookup X.p = some (.lst (bsD X.k.n))
  q : M.lookup X.q = some (.lst (bsD X.k.s))
  pq : X.p ≠ X.q
def KA.ads (X : KA) : List Addr := [X.a, X.p, X.q]
inductive Wr (S : List Addr) (M : Mem) : Mem → Prop
  | refl : Wr S M M
  | put {M1 : Mem} {a : Addr} {c : Cell} : Wr S M M1 → a ∈ S ∨ a ∉ dom M → Wr S M (mput M1 a c)
  | new {M1 : Mem} {a : Addr} {c : Cell} : Wr S M M1 → a ∉ dom M1 → Wr S M ((a, c) :: M1)
structure KL (M0 : Mem) (L : List KA) (M : Mem) : Prop where
  ex : ∃ N, M = N ++ M0
  at_ : ∀ X ∈ L, KAt M X
  nd : (L.map KA.ads).flatten.Nodup
  no : ∀ X ∈ L, ∀ b ∈ X.ads, b ∉ dom M0
def refL (L : List KA) : List D := L.map fun X => .ref X.a
def Tb (M : Mem) : Prop := (∃ P, M.lookup P = some (.tab (lamOf "not_at"))) ∧ ∃ P, M.lookup P = some (.tab (lamOf "sign_at"))
def colB' (F : Str) (w : Nat) (k : Kp) : Bool := if F = "nots" then gB k.n w else gB k.s w
def swK (l : List Kp) (i j : Nat) : List Kp := (l.set i (l[j]?.getD default)).set j (l[i]?.getD default)
def pickK (col : Kp → Bool) (at_ : Nat) (l : List Kp) : Option Nat := ((List.range' at_ (l.length - at_)).filter fun i => col (l[i]?.getD default)).head?
def clrK (col : Kp → Bool) (at_ : Nat) (c : Kp) (l : List Kp) : List Kp := l.mapIdx fun i k => if i ≠ at_ ∧ col k = true then tinK k c else k
def swp1 (col : Kp → Bool) (r : List Kp × Nat) : List Kp × Nat := match pickK col r.2 r.1 with
  | none => r
  | some i => (clrK col r.2 (r.1[i]?.getD default) (swK r.1 i r.2), r.2 + 1)
def swpF (cols : List (Str × Nat)) (r : List Kp × Nat) : List Kp × Nat := cols.foldl (fun r c => swp1 (colB' c.1 c.2) r) r
def colsF (F : Str) (ws : List Nat) : List (Str × Nat) := ws.map fun w => (F, w)
def orderF (n : Nat) (l : List Kp) : List Kp × Nat :=
  let r := swpF (colsF "nots" (List.range n)) (l, 0)
  ((swpF (colsF "signs" (List.range n)) r).1, r.2)
def behindF (n : Nat) (gs : List Gt) (row : List Bool) : List Kp := gs.foldl (fun l g => l.map (gK g)) (row.mapIdx fun w b => initK n w b)
def lettersF (n : Nat) (gs : List Gt) (row : List Bool) : List Kp := (orderF n (behindF n gs row)).1
def shG (g : Gt) : Bool := if g.w = "turn" then decide (g.j % 2 = 0) && decide (g.cs = []) else if g.w = "half" then decide (g.cs = []) else decide (g.cs.length ≤ 1)
def circD (n : Nat) (gs : List Gt) : D := .tup [.int n, .tup (gs.map gtD)]
def noFit : Xc := ⟨"NoFit", [], []⟩
def cloD (c : Str × Nat) : D := .clo c.1 c.2
def S_is_short_gate : ASp := fun ds M Q => ∃ g : Gt, ds = [gtD g] ∧ 0 ≤ g.j ∧ g.j < 8 ∧ g.cs.length ≤ 100 ∧ Q (.dat (.bl (shG g))) M
def S_is_short : ASp := fun ds M Q => ∃ (n : Nat) (gs : List Gt), ds = [circD n gs] ∧ (∀ g ∈ gs, 0 ≤ g.j ∧ g.j < 8 ∧ g.cs.length ≤ 100) ∧ gs.length ≤ 5000 ∧ Q (.dat (.bl (gs.all shG))) M
def S_Keeper___init__ : ASp := fun ds M Q => ∃ (a : Addr) (M0 : Mem) (n w : Nat) (b : Bool), ds = [.ref a, .int n, .int w, bD b] ∧ M = (a, .ins "Keeper" [] []) :: M0 ∧ a ∉ dom M0 ∧ w < n ∧ n ≤ 100 ∧
  ∀ p q M1, KAt M1 ⟨a, p, q, initK n w b⟩ → Wr [a] M M1 → p ∉ dom M → q ∉ dom M → Q (.dat .non) M1
def kUp (X : KA) (k' : Kp) (M : Mem) (Q : Ret → Mem → Prop) : Prop := ∀ M1, KAt M1 { X with k := k' } → Wr X.ads M M1 → Q (.dat .non) M1
def S_Keeper_after_half : ASp := fun ds M Q => ∃ (X : KA) (n w : Nat), ds = [.ref X.a, .int w] ∧ KAt M X ∧ KOk n X.k ∧ w < n ∧ n ≤ 100 ∧ kUp X (hK w X.k) M Q
def S_Keeper_after_turn : ASp := fun ds M Q => ∃ (X : KA) (n w : Nat) (j : Int), ds = [.ref X.a, .int j, .int w] ∧ KAt M X ∧ KOk n X.k ∧ w < n ∧ n ≤ 100 ∧ kUp X (tK j w X.k) M Q
def S_Keeper_after_not : ASp := fun ds M Q => ∃ (X : KA) (n w : Nat) (cs : List Nat), ds = [.ref X.a, .tup (cs.map fun c => .int (c : Nat)), .int w] ∧ KAt M X ∧ KOk n X.k ∧ w < n ∧ (∀ c ∈ cs, c < n ∧ c ≠ w) ∧ cs.length ≤ 1 ∧ n ≤ 100 ∧ kUp X (nK cs w X.k) M Q
def S_Keeper_after_cross : ASp := fun ds M Q => ∃ (X : KA) (n w o : Nat), ds = [.ref X.a, .int o, .int w] ∧ KAt M X ∧ KOk n X.k ∧ w < n ∧ o < n ∧ o ≠ w ∧ n ≤ 100 ∧ kUp X (cK o w X.k) M Q
def S_Keeper_after : ASp := fun ds M Q => ∃ (X : KA) (n : Nat) (g : Gt), ds = [.ref X.a, gtD g] ∧ KAt M X ∧ KOk n X.k ∧ GtOk n g ∧ shG g = true ∧ n ≤ 100 ∧ kUp X (gK g X.k) M Q
def S_Keeper_quarters_with : ASp := fun ds M Q => ∃ (X Y : KA) (n : Nat), ds = [.ref X.a, .ref Y.a] ∧ KAt M X ∧ KAt M Y ∧ KOk n X.k ∧ KOk n Y.k ∧ n ≤ 100 ∧ Q (.dat (.int (qwF X.k Y.k))) M
def S_Keeper_take_in : ASp := fun ds M Q => ∃ (X Y : KA) (n : Nat), ds = [.ref X.a, .ref Y.a] ∧ KAt M X ∧ KAt M Y ∧ KOk n X.k ∧ KOk n Y.k ∧ n ≤ 100 ∧ X.a ≠ Y.a ∧
  ∀ p q M1, KAt M1 ⟨X.a, p, q, tinK X.k Y.k⟩ → Wr [X.a] M M1 → p ∉ dom M → q ∉ dom M → Q (.dat .non) M1
def S_Keeper_letters : ASp := fun ds M Q => ∃ (X : KA) (n : Nat), ds = [.ref X.a] ∧ KAt M X ∧ KOk n X.k ∧ n ≤ 100 ∧ Q (.dat (letD X.k)) M
structure KS (M0 : Mem) (n : Nat) (l : Addr) (L : List KA) (M : Mem) : Prop where
  kl : KL M0 L M
  lk : M.lookup l = some (.lst (refL L))
  ok : ∀ X ∈ L, KOk n X.k
  nl : l ∉ dom M0
def S_keepers_behind : ASp := fun ds M Q => ∃ (n : Nat) (gs : List Gt) (row : List Bool), ds = [circD n gs, .tup (bsD row)] ∧ row.length = n ∧ n ≤ 100 ∧ gs.length ≤ 5000 ∧ (∀ g ∈ gs, GtOk n g ∧ shG g = true) ∧
  ∀ l L M1, L.map (·.k) = behindF n gs row → KS M n l L M1 → Wr [] M M1 → Q (.dat (.ref l)) M1
def S_swept : ASp := fun ds M Q => ∃ (l : Addr) (M0 : Mem) (n at_ : Nat) (L : List KA) (cs : List (Str × Nat)), ds = [.ref l, .int at_, .lst (cs.map cloD)] ∧ KS M0 n l L M ∧ L.length ≤ 100 ∧ n ≤ 100 ∧ cs.length ≤ 1000 ∧ at_ ≤ L.length ∧
  (∀ c ∈ cs, (c.1 = "nots" ∨ c.1 = "signs") ∧ c.2 < n) ∧ ∀ L' M1, L'.map (·.k) = (swpF cs (L.map (·.k), at_)).1 → KS M0 n l L' M1 → (∀ b, b ∈ dom M → b ∉ l :: (L.map KA.ads).flatten → M1.lookup b = M.lookup b) → (swpF cs (L.map (·.k), at_)).2 ≤ L.length → Q (.dat (.int (swpF cs (L.map (·.k), at_)).2)) M1
abbrev S_not_at : ASp := S_col "not_at" "nots"
abbrev S_sign_at : ASp := S_col "sign_at" "signs"
def S_put_in_order : ASp := fun ds M Q => ∃ (l : Addr) (M0 : Mem) (n : Nat) (L : List KA), ds = [.ref l, .int n] ∧ KS M0 n l L M ∧ Tb M ∧ L.length ≤ 100 ∧ n ≤ 100 ∧
  ∀ L' M1, L'.map (·.k) = (orderF n (L.map (·.k))).1 → KS M0 n l L' M1 → Tb M1 → (orderF n (L.map (·.k))).2 ≤ L.length → Q (.dat (.int (orderF n (L.map (·.k))).2)) M1
def S_look_short : ASx := fun ds M Q Z => ∃ (n : Nat) (gs : List Gt), ds = [circD n gs] ∧ (∀ g ∈ gs, 0 ≤ g.j ∧ g.j < 8 ∧ g.cs.length ≤ 100) ∧ gs.length ≤ 5000 ∧ (gs.all shG = true → Q (.dat .non) M) ∧ (gs.all shG = false → Z noFit M)
def S_letters_of : ASx := fun ds M Q Z => ∃ (n : Nat) (gs : List Gt) (row : List Bool), ds = [circD n gs, .tup (bsD row)] ∧ row.length = n ∧ n ≤ 100 ∧ gs.length ≤ 5000 ∧ (∀ g ∈ gs, GtOk n g) ∧ Tb M ∧
  (gs.all shG = true → Q (.dat (.tup ((lettersF n gs row).map letD))) M) ∧ (gs.all shG = false → Z noFit M)
theorem ar_is_short_gate : Ar 1 S_is_short_gate := fun _ _ _ ⟨_, e, _⟩ => by rw [e]; rfl
theorem ar_is_short : Ar 1 S_is_short := fun _ _ _ ⟨_, _, e, _⟩ => by rw [e]; rfl
theorem ar_Keeper___init__ : Ar 4 S_Keeper___init__ := fun _ _ _ ⟨_, _, _, _, _, e, _⟩ => by rw [e]; rfl
theorem ar_Keeper_after_half : Ar 2 S_Keeper_after_half := fun _ _ _ ⟨_, _, _, e, _⟩ => by rw [e]; rfl
theorem ar_Keeper_after_turn : Ar 3 S_Keeper_after_turn := fun _ _ _ ⟨_, _, _, _, e, _⟩ => by rw [e]; rfl
theorem ar_Keeper_after_not : Ar 3 S_Keeper_after_not := fun _ _ _ ⟨_, _, _, _, e, _⟩ => by rw [e]; rfl
theorem ar_Keeper_after_cross : Ar 3 S_Keeper_after_cross := fun _ _ _ ⟨_, _, _, _, e, _⟩ => by rw [e]; rfl
theorem ar_Keeper_after : Ar 2 S_Keeper_after := fun _ _ _ ⟨_, _, _, e, _⟩ => by rw [e]; rfl
theorem ar_Keeper_quarters_with : Ar 2 S_Keeper_quarters_with := fun _ _ _ ⟨_, _, _, e, _⟩ => by rw [e]; rfl
theorem ar_Keeper_take_in : Ar 2 S_Keeper_take_in := fun _ _ _ ⟨_, _, _, e, _⟩ => by rw [e]; rfl
theorem ar_Keeper_letters : Ar 1 S_Keeper_letters := fun _ _ _ ⟨_, _, e, _⟩ => by rw [e]; rfl
theorem ar_keepers_behind : Ar 2 S_keepers_behind := fun _ _ _ ⟨_, _, _, e, _⟩ => by rw [e]; rfl
theorem ar_swept : Ar 3 S_swept := fun _ _ _ ⟨_, _, _, _, _, _, e, _⟩ => by rw [e]; rfl
theorem ar_not_at : Ar 1 S_not_at := ar_col _ _
theorem ar_sign_at : Ar 1 S_sign_at := ar_col _ _
theorem ar_put_in_order : Ar 2 S_put_in_order := fun _ _ _ ⟨_, _, _, _, e, _⟩ => by rw [e]; rfl
theorem arX_look_short : ArX 1 S_look_short := fun _ _ _ _ ⟨_, _, e, _⟩ => by rw [e]; rfl
theorem arX_letters_of : ArX 2 S_letters_of := fun _ _ _ _ ⟨_, _, _, e, _⟩ => by rw [e]; rfl

def S__law_controls : ASp := fun ds M Q => ∃ P a g s M0, ∃ n w most : Nat, ds = [.ref a, .int n, .int w, .int most] ∧ M = HP P a g s M0 ∧ HA P a M0 ∧ HOk g s ∧ w < n ∧ n ≤ 8 ∧ most ≤ 8 ∧
  ∀ (cs : List Int) g' s', (∀ c ∈ cs, 0 ≤ c ∧ c < n ∧ c ≠ w) → cs.length ≤ most → (cs.length = most ∨ cs.length + 1 = n) → HOk g' s' → Q (.dat (.tup (cs.map .int))) (HP P a g' s' M0)
def S__law_short : ASp := fun ds M Q => ∃ P a g s M0, ∃ n z : Nat, ds = [.ref a, .int n, .int z] ∧ M = HP P a g s M0 ∧ HA P a M0 ∧ HOk g s ∧ 1 ≤ n ∧ n ≤ 8 ∧ z ≤ 100 ∧ ∀ (gs : List Gt) g' s', gs.length = z → (∀ q ∈ gs, GtOk n q ∧ shG q = true) → HOk g' s' → Q (.dat (circD n gs)) (HP P a g' s' M0)
def S__law_bits : ASp := fun ds M Q => ∃ P a g s M0, ∃ n : Nat, ds = [.ref a, .int n] ∧ M = HP P a g s M0 ∧ HA P a M0 ∧ HOk g s ∧ n ≤ 8 ∧ ∀ (r : List Bool) g' s', r.length = n → HOk g' s' → Q (.dat (.tup (bsD r))) (HP P a g' s' M0)
theorem ar__law_controls : Ar 4 S__law_controls := fun _ _ _ ⟨_, _, _, _, _, _, _, _, e, _⟩ => by rw [e]; rfl
theorem ar__law_short : Ar 3 S__law_short := fun _ _ _ ⟨_, _, _, _, _, _, _, e, _⟩ => by rw [e]; rfl
theorem ar__law_bits : Ar 2 S__law_bits := fun _ _ _ ⟨_, _, _, _, _, _, e, _⟩ => by rw [e]; rfl

def rotN (n : Nm) : Nm := (⟨-n.1.d, n.1.a, n.1.b, n.1.c⟩, n.2)
def rotP : Nat → Nm → Nm
  | 0, n => n
  | i + 1, n => rotP i (rotN n)
def oppN (n : Nm) : Nm := (⟨-n.1.a, -n.1.b, -n.1.c, -n.1.d⟩, n.2)
def flipR (ns : List Bool) (r : List Int) : List Int := List.zipWith (fun b z => if b = true then 1 - z else z) ns r
def zS (ss : List Bool) (r : List Int) : Int := (List.zipWith (fun b z => bI b * z) ss r).sum
def yS (k : Kp) : Int := ((List.zipWith (fun a b => bI (a && b)) k.n k.s)).sum
def qR (k : Kp) (r : List Int) : Int := 4 * zS k.s r + 2 * yS k + 4 * bI k.m
def doneP (k : Kp) (p : List Int × Nm) : List Int × Nm := (flipR k.n p.1, rotP (qR k p.1 % 8).toNat p.2)
def oppP (p : List Int × Nm) : List Int × Nm := (p.1, oppN p.2)
structure SmN (b : Nat) (n : Nm) : Prop where
  bd : n.1.B b
  k : n.2 ≤ 2 ^ b
  red : Red n.1 n.2
  nz : n.1 ≠ Z4.zero
structure Mx (b n : Nat) (ps : List (List Int × Nm)) : Prop where
  row : ∀ p ∈ ps, BitRow n p.1
  num : ∀ p ∈ ps, SmN b p.2
  nd : (ps.map (·.1)).Nodup
  few : ps.length ≤ 1000
def S_done_to : ASp := fun ds M Q => ∃ (k : Kp) (n b : Nat) (ps : List (List Int × Nm)), ds = [letD k, mixD ps] ∧ KOk n k ∧ n ≤ 8 ∧ b ≤ 900 ∧ Mx b n ps ∧ ∀ os, os.Perm (ps.map (doneP k)) → Ord os → Q (.dat (mixD os)) M
def S__law_by_root : ASp := fun ds M Q => ∃ x : Nm, ds = [nD x] ∧ Q (.dat (nD (rotN x))) M
def S__law_done : ASp := S_done_to
theorem ar_done_to : Ar 2 S_done_to := fun _ _ _ ⟨_, _, _, _, e, _⟩ => by rw [e]; rfl
theorem ar__law_by_root : Ar 1 S__law_by_root := fun _ _ _ ⟨_, e, _⟩ => by rw [e]; rfl
theorem ar__law_done : Ar 2 S__law_done := fun _ _ _ ⟨_, _, _, _, e, _⟩ => by rw [e]; rfl

def S__law_pick : ASp := fun ds M Q => ∃ P a g s M0 d0 xs, ds = [.ref a, d0] ∧ goD d0 = some xs ∧ M = HP P a g s M0 ∧ HA P a M0 ∧ HOk g s ∧ 0 < xs.length ∧ xs.length ≤ 16000 ∧ ∀ d g' s', d ∈ xs → HOk g' s' → Q (.dat d) (HP P a g' s' M0)
def S__law_short_gate : ASp := fun ds M Q => ∃ P a g s M0, ∃ n : Nat, ds = [.ref a, .int n] ∧ M = HP P a g s M0 ∧ HA P a M0 ∧ HOk g s ∧ 1 ≤ n ∧ n ≤ 8 ∧ ∀ (q : Gt) g' s', GtOk n q → shG q = true → HOk g' s' → Q (.dat (gtD q)) (HP P a g' s' M0)
def S__law_letters : ASp := fun ds M Q => ∃ P a g s M0, ∃ n : Nat, ds = [.ref a, .int n] ∧ M = HP P a g s M0 ∧ HA P a M0 ∧ HOk g s ∧ n ≤ 8 ∧ ∀ (k : Kp) g' s', KOk n k → HOk g' s' → Q (.dat (letD k)) (HP P a g' s' M0)
def S__law_mix : ASp := fun ds M Q => ∃ P a g s M0, ∃ n : Nat, ds = [.ref a, .int n] ∧ M = HP P a g s M0 ∧ HA P a M0 ∧ HOk g s ∧ n ≤ 8 ∧ ∀ (ps : List (List Int × Nm)) g' s', Mx 5 n ps → Ord ps → HOk g' s' → Q (.dat (mixD ps)) (HP P a g' s' M0)
def S__law_opposite : ASp := fun ds M Q => ∃ ps : List (List Int × Nm), ds = [mixD ps] ∧ ps.length ≤ 1000 ∧ Q (.dat (mixD (ps.map oppP))) M
def S__law_two_right : ASp := fun ds M Q => ∃ (j k : Kp) (n : Nat) (ps : List (List Int × Nm)), ds = [letD j, letD k, mixD ps] ∧ KOk n j ∧ KOk n k ∧ n ≤ 8 ∧ Mx 5 n ps ∧ Q (.dat (.bl true)) M
theorem ar__law_pick : Ar 2 S__law_pick := fun _ _ _ ⟨_, _, _, _, _, _, _, e, _⟩ => by rw [e]; rfl
theorem ar__law_short_gate : Ar 2 S__law_short_gate := fun _ _ _ ⟨_, _, _, _, _, _, e, _⟩ => by rw [e]; rfl
theorem ar__law_letters : Ar 2 S__law_letters := fun _ _ _ ⟨_, _, _, _, _, _, e, _⟩ => by rw [e]; rfl
theorem ar__law_mix : Ar 2 S__law_mix := fun _ _ _ ⟨_, _, _, _, _, _, e, _⟩ => by rw [e]; rfl
theorem ar__law_opposite : Ar 1 S__law_opposite := fun _ _ _ ⟨_, e, _⟩ => by rw [e]; rfl
theorem ar__law_two_right : Ar 3 S__law_two_right := fun _ _ _ ⟨_, _, _, _, e, _⟩ => by rw [e]; rfl
def SLawP : List Int → Prop := fun ns => ns.length ≤ 63
def S_law : ASp := SLawM SLawP ["not_at", "sign_at"]
theorem ar_law : Ar 1 S_law := ar_lawM SLawP _
theorem sLawP_all : ∀ ns : List Int, ns.length ≤ 63 → (∀ z ∈ ns, Builtin.Int.intBits z ≤ 1048576) → SLawP ns := fun _ h _ => h

def top (i : Nat) : Stmt := PySem.Challenge.pw_gatewaves_k67_what_letters_do.main.body.getD i (.Pass ⟨0, 0, 0, 0⟩)
abbrev s_can_be_less : Stmt := top 5
abbrev N_can_be_less : List Str := ["a", "b", "c", "d"]
def as_can_be_less : AS := (aRet (aAndV (aOp (aEq id) (aOp (aIC (fun _ j => j ≠ 0) fun i j => .int (i.fmod j)) (aOp (aI0 fun i j => .int (i + j)) (aVar 0) (aVar 2)) (aC (.int 2))) (aC (.int 0))) (aOp (aEq id) (aOp (aIC (fun _ j => j ≠ 0) fun i j => .int (i.fmod j)) (aOp (aI0 fun i j => .int (i + j)) (aVar 1) (aVar 3)) (aC (.int 2))) (aC (.int 0)))))
abbrev s_lowest : Stmt := top 6
abbrev N_lowest : List Str := ["a", "b", "c", "d", "k"]
def as_lowest_c1 : AT := (aAnd (aTst (aOp (aI0 fun i j => .bl (decide (j < i))) (aVar 4) (aC (.int 0)))) (aTst (aCall S_can_be_less (aCons (aVar 0) (aCons (aVar 1) (aCons (aVar 2) (aCons (aVar 3) aNil)))))))
def as_lowest_b1 : AS := (aSeq (aUnp (aTup (aCons (aOp (aIC CDivW fun i j => .int (i / j)) (aOp (aI0 fun i j => .int (i - j)) (aVar 1) (aVar 3)) (aC (.int 2))) (aCons (aOp (aIC CDivW fun i j => .int (i / j)) (aOp (aI0 fun i j => .int (i + j)) (aVar 0) (aVar 2)) (aC (.int 2))) (aCons (aOp (aIC CDivW fun i j => .int (i / j)) (aOp (aI0 fun i j => .int (i + j)) (aVar 1) (aVar 3)) (aC (.int 2))) (aCons (aOp (aIC CDivW fun i j => .int (i / j)) (aOp (aI0 fun i j => .int (i - j)) (aVar 2) (aVar 0)) (aC (.int 2))) aNil))))) (agT 4 (agCons (agN 0) (agCons (agN 1) (agCons (agN 2) (agCons (agN 3) agNil))))))
  (aAugI 4 (fun i j => i - j) (aC (.int 1))))
def as_lowest_t1 : AS := (aRet (aTup (aCons (aVar 0) (aCons (aVar 1) (aCons (aVar 2) (aCons (aVar 3) (aCons (aVar 4) aNil)))))))
def as_lowest_t2 : AS := (aSeq (aWhile as_lowest_c1 as_lowest_b1)
  as_lowest_t1)
def as_lowest : AS := (aSeq (aIfS (aTst (aChainN (aVar 0) (aLink (aEq id) (aVar 1) (aLink (aEq id) (aVar 2) (aLink (aEq id) (aVar 3) (aLast (aEq id) (aC (.int 0)))))))) (aRet (aC (.tup [.int 0, .int 0, .int 0, .int 0, .int 0]))) aNext)
  as_lowest_t2)
abbrev s_times : Stmt := top 7
abbrev N_times : List Str := ["one", "other", "a", "b", "c", "d", "k", "e", "f", "g", "h", "more"]
def as_times : AS := (aSeq (aUnp (aVar 0) (agT 5 (agCons (agN 2) (agCons (agN 3) (agCons (agN 4) (agCons (agN 5) (agCons (agN 6) agNil)))))))
  (aSeq (aUnp (aVar 1) (agT 5 (agCons (agN 7) (agCons (agN 8) (agCons (agN 9) (agCons (agN 10) (agCons (agN 11) agNil)))))))
  (aRet (aCall S_lowest (aCons (aOp (aI0 fun i j => .int (i - j)) (aOp (aI0 fun i j => .int (i - j)) (aOp (aI0 fun i j => .int (i - j)) (aOp (aIC CM fun i j => .int (i * j)) (aVar 2) (aVar 7)) (aOp (aIC CM fun i j => .int (i * j)) (aVar 3) (aVar 10))) (aOp (aIC CM fun i j => .int (i * j)) (aVar 4) (aVar 9))) (aOp (aIC CM fun i j => .int (i * j)) (aVar 5) (aVar 8))) (aCons (aOp (aI0 fun i j => .int (i - j)) (aOp (aI0 fun i j => .int (i - j)) (aOp (aI0 fun i j => .int (i + j)) (aOp (aIC CM fun i j => .int (i * j)) (aVar 2) (aVar 8)) (aOp (aIC CM fun i j => .int (i * j)) (aVar 3) (aVar 7))) (aOp (aIC CM fun i j => .int (i * j)) (aVar 4) (aVar 10))) (aOp (aIC CM fun i j => .int (i * j)) (aVar 5) (aVar 9))) (aCons (aOp (aI0 fun i j => .int (i - j)) (aOp (aI0 fun i j => .int (i + j)) (aOp (aI0 fun i j => .int (i + j)) (aOp (aIC CM fun i j => .int (i * j)) (aVar 2) (aVar 9)) (aOp (aIC CM fun i j => .int (i * j)) (aVar 3) (aVar 8))) (aOp (aIC CM fun i j => .int (i * j)) (aVar 4) (aVar 7))) (aOp (aIC CM fun i j => .int (i * j)) (aVar 5) (aVar 10))) (aCons (aOp (aI0 fun i j => .int (i + j)) (aOp (aI0 fun i j => .int (i + j)) (aOp (aI0 fun i j => .int (i + j)) (aOp (aIC CM fun i j => .int (i * j)) (aVar 2) (aVar 10)) (aOp (aIC CM fun i j => .int (i * j)) (aVar 3) (aVar 9))) (aOp (aIC CM fun i j => .int (i * j)) (aVar 4) (aVar 8))) (aOp (aIC CM fun i j => .int (i * j)) (aVar 5) (aVar 7))) (aCons (aOp (aI0 fun i j => .int (i + j)) (aVar 6) (aVar 11)) aNil)))))))))
abbrev s_root : Stmt := top 8
abbrev N_root : List Str := ["j", "parts"]
def as_root : AS := (aSeq (aAsg (aLst (aCons (aC (.int 0)) (aCons (aC (.int 0)) (aCons (aC (.int 0)) (aCons (aC (.int 0)) aNil))))) 1)
  (aSeq (aSetI (aIfE (aTst (aOp (aI0 fun i j => .bl (decide (i < j))) (aOp (aIC (fun _ j => j ≠ 0) fun i j => .int (i.fmod j)) (aVar 0) (aC (.int 8))) (aC (.int 4)))) (aC (.int 1)) (aUn aNeg (aC (.int 1)))) (aVar 1) (aOp (aIC (fun _ j => j ≠ 0) fun i j => .int (i.fmod j)) (aVar 0) (aC (.int 4))))
  (aRet (aTup (aCons (aOp aIx (aVar 1) (aC (.int 0))) (aCons (aOp aIx (aVar 1) (aC (.int 1))) (aCons (aOp aIx (aVar 1) (aC (.int 2))) (aCons (aOp aIx (aVar 1) (aC (.int 3))) (aCons (aC (.int 0)) aNil)))))))))
abbrev s_is_short_gate : Stmt := top 11
abbrev N_is_short_gate : List Str := ["gate", "word", "j", "controls", "wire"]
def as_is_short_gate_t1 : AS := (aRet (aOp (aI0 fun i j => .bl (decide (i ≤ j))) (aCall1 aLen (aVar 3)) (aC (.int 1))))
def as_is_short_gate_t2 : AS := (aSeq (aIfS (aTst (aOp (aEqS id) (aVar 1) (aC (.str "half")))) (aRet (aOp (aEq0 id) (aVar 3) (aTup aNil))) aNext)
  as_is_short_gate_t1)
def as_is_short_gate : AS := (aSeq (aUnp (aVar 0) (agT 4 (agCons (agN 1) (agCons (agN 2) (agCons (agN 3) (agCons (agN 4) agNil))))))
  (aSeq (aIfS (aTst (aOp (aEqS id) (aVar 1) (aC (.str "turn")))) (aRet (aAndV (aOp (aEq id) (aOp (aIC (fun _ j => j ≠ 0) fun i j => .int (i.fmod j)) (aVar 2) (aC (.int 2))) (aC (.int 0))) (aOp (aEq0 id) (aVar 3) (aTup aNil)))) aNext)
  as_is_short_gate_t2))
abbrev s_is_short : Stmt := top 12
abbrev N_is_short : List Str := ["circuit", "many", "gates", "gate"]
def as_is_short_e1 : AE := (aCall S_is_short_gate (aCons (aVar 3) aNil))
def as_is_short : AS := (aSeq (aUnp (aVar 0) (agT 2 (agCons (agN 1) (agCons (agN 2) agNil))))
  (aRet (aCall1 (aAllB (·.all id)) (aLc (aITup (aVar 2)) (agN 3) aYes as_is_short_e1 [3]))))
abbrev s_Keeper___init__ : Stmt := inClass (top 13) 0
abbrev N_Keeper___init__ : List Str := ["self", "many", "wire", "minus"]
def as_Keeper___init__ : AS := (aSeq (aSetF "Keeper" "minus" (aVar 3) (aVar 0))
  (aSeq (aSetF "Keeper" "nots" (aSh (aOp aRep (aLst (aCons (aC (.int 0)) aNil)) (aVar 1))) (aVar 0))
  (aSeq (aSetF "Keeper" "signs" (aSh (aOp aRep (aLst (aCons (aC (.int 0)) aNil)) (aVar 1))) (aVar 0))
  (aSetI (aC (.int 1)) (aUn (aFld "Keeper" "signs") (aVar 0)) (aVar 2)))))
abbrev s_Keeper_after_half : Stmt := inClass (top 13) 1
abbrev N_Keeper_after_half : List Str := ["self", "wire"]
def as_Keeper_after_half : AS := (aSeq (aAugFI PySem.Builtin.bitXor "Keeper" "minus" (aVar 0) (aOp (aI0 fun i j => .int (PySem.Builtin.bitAnd i j)) (aOp aIx (aUn (aFld "Keeper" "nots") (aVar 0)) (aVar 1)) (aOp aIx (aUn (aFld "Keeper" "signs") (aVar 0)) (aVar 1))))
  (aSetI2 (aCons (aOp aIx (aUn (aFld "Keeper" "signs") (aVar 0)) (aVar 1)) (aCons (aOp aIx (aUn (aFld "Keeper" "nots") (aVar 0)) (aVar 1)) aNil)) (aUn (aFld "Keeper" "nots") (aVar 0)) (aVar 1) (aUn (aFld "Keeper" "signs") (aVar 0)) (aVar 1)))
abbrev s_Keeper_after_turn : Stmt := inClass (top 13) 2
abbrev N_Keeper_after_turn : List Str := ["self", "j", "wire"]
def as_Keeper_after_turn_t1 : AS := (aIfS (aTst (aOp (aEq not) (aVar 1) (aC (.int 4)))) (aAugXI PySem.Builtin.bitXor (aUn (aFld "Keeper" "signs") (aVar 0)) (aVar 2) (aOp aIx (aUn (aFld "Keeper" "nots") (aVar 0)) (aVar 2))) aNext)
def as_Keeper_after_turn : AS := (aSeq (aIfS (aTst (aOp (aEq id) (aVar 1) (aC (.int 2)))) (aAugFI PySem.Builtin.bitXor "Keeper" "minus" (aVar 0) (aOp (aI0 fun i j => .int (PySem.Builtin.bitAnd i j)) (aOp aIx (aUn (aFld "Keeper" "nots") (aVar 0)) (aVar 2)) (aOp aIx (aUn (aFld "Keeper" "signs") (aVar 0)) (aVar 2)))) (aIfS (aTst (aOp (aEq id) (aVar 1) (aC (.int 6)))) (aAugFI PySem.Builtin.bitXor "Keeper" "minus" (aVar 0) (aOp (aI0 fun i j => .int (PySem.Builtin.bitAnd i j)) (aOp aIx (aUn (aFld "Keeper" "nots") (aVar 0)) (aVar 2)) (aOp (aI0 fun i j => .int (i - j)) (aC (.int 1)) (aOp aIx (aUn (aFld "Keeper" "signs") (aVar 0)) (aVar 2))))) (aAugFI PySem.Builtin.bitXor "Keeper" "minus" (aVar 0) (aOp aIx (aUn (aFld "Keeper" "nots") (aVar 0)) (aVar 2)))))
  as_Keeper_after_turn_t1)
abbrev s_Keeper_after_not : Stmt := inClass (top 13) 3
abbrev N_Keeper_after_not : List Str := ["self", "controls", "wire", "other"]
def as_Keeper_after_not_t1 : AS := (aSeq (aAsgF (aOp aIx (aVar 1) (aC (.int 0))) 3)
  (aSeq (aAugFI PySem.Builtin.bitXor "Keeper" "minus" (aVar 0) (aOp (aI0 fun i j => .int (PySem.Builtin.bitAnd i j)) (aOp (aI0 fun i j => .int (PySem.Builtin.bitAnd i j)) (aOp aIx (aUn (aFld "Keeper" "nots") (aVar 0)) (aVar 3)) (aOp aIx (aUn (aFld "Keeper" "signs") (aVar 0)) (aVar 2))) (aOp (aI0 fun i j => .int (i - j)) (aC (.int 1)) (aOp (aI0 fun i j => .int (PySem.Builtin.bitXor i j)) (aOp aIx (aUn (aFld "Keeper" "nots") (aVar 0)) (aVar 2)) (aOp aIx (aUn (aFld "Keeper" "signs") (aVar 0)) (aVar 3))))))
  (aSeq (aAugXI PySem.Builtin.bitXor (aUn (aFld "Keeper" "nots") (aVar 0)) (aVar 2) (aOp aIx (aUn (aFld "Keeper" "nots") (aVar 0)) (aVar 3)))
  (aAugXI PySem.Builtin.bitXor (aUn (aFld "Keeper" "signs") (aVar 0)) (aVar 3) (aOp aIx (aUn (aFld "Keeper" "signs") (aVar 0)) (aVar 2))))))
def as_Keeper_after_not : AS := (aSeq (aIfS (aTst (aOp (aEq0 id) (aVar 1) (aTup aNil))) (aSeq (aAugFI PySem.Builtin.bitXor "Keeper" "minus" (aVar 0) (aOp aIx (aUn (aFld "Keeper" "signs") (aVar 0)) (aVar 2)))
  aRetN) aNext)
  as_Keeper_after_not_t1)
abbrev s_Keeper_after_cross : Stmt := inClass (top 13) 4
abbrev N_Keeper_after_cross : List Str := ["self", "other", "wire", "some"]
def as_Keeper_after_cross_b1 : AS := (aSetI2 (aCons (aOp aIx (aVar 3) (aVar 2)) (aCons (aOp aIx (aVar 3) (aVar 1)) aNil)) (aVar 3) (aVar 1) (aVar 3) (aVar 2))
def as_Keeper_after_cross : AS := (aFor (aITup (aTup (aCons (aUn (aFld "Keeper" "nots") (aVar 0)) (aCons (aUn (aFld "Keeper" "signs") (aVar 0)) aNil)))) (agN 3) as_Keeper_after_cross_b1)
abbrev s_Keeper_after : Stmt := inClass (top 13) 5
abbrev N_Keeper_after : List Str := ["self", "gate", "word", "j", "controls", "wire"]
def as_Keeper_after : AS := (aSeq (aUnp (aVar 1) (agT 4 (agCons (agN 2) (agCons (agN 3) (agCons (agN 4) (agCons (agN 5) agNil))))))
  (aIfS (aTst (aOp (aEqS id) (aVar 2) (aC (.str "half")))) (aDrop (aMethO "Keeper" "after_half" S_Keeper_after_half (aVar 0) (aCons (aVar 5) aNil))) (aIfS (aTst (aOp (aEqS id) (aVar 2) (aC (.str "turn")))) (aDrop (aMethO "Keeper" "after_turn" S_Keeper_after_turn (aVar 0) (aCons (aVar 3) (aCons (aVar 5) aNil)))) (aIfS (aTst (aOp (aEqS id) (aVar 2) (aC (.str "not")))) (aDrop (aMethO "Keeper" "after_not" S_Keeper_after_not (aVar 0) (aCons (aVar 4) (aCons (aVar 5) aNil)))) (aIfS (aTst (aOp (aEqS id) (aVar 2) (aC (.str "cross")))) (aDrop (aMethO "Keeper" "after_cross" S_Keeper_after_cross (aVar 0) (aCons (aOp aIx (aVar 4) (aC (.int 0))) (aCons (aVar 5) aNil)))) aNext)))))
abbrev s_Keeper_quarters_with : Stmt := inClass (top 13) 6
abbrev N_Keeper_quarters_with : List Str := ["self", "other", "found", "wire", "has_not", "has_sign", "its_not", "its_sign"]
def as_Keeper_quarters_with_b1 : AS := (aSeq (aPar3 (aCons (aOp aIx (aUn (aFld "Keeper" "signs") (aVar 0)) (aVar 3)) (aCons (aOp aIx (aUn (aFld "Keeper" "nots") (aVar 1)) (aVar 3)) (aCons (aOp aIx (aUn (aFld "Keeper" "signs") (aVar 1)) (aVar 3)) aNil))) 5 6 7)
  (aIfS (aAnd (aTst (aOp (aEq id) (aVar 4) (aC (.int 1)))) (aTst (aOp (aEq id) (aVar 5) (aC (.int 1))))) (aAugI 2 (fun i j => i + j) (aOp (aI0 fun i j => .int (i - j)) (aVar 7) (aVar 6))) (aIfS (aTst (aOp (aEq id) (aVar 4) (aC (.int 1)))) (aAugI 2 (fun i j => i + j) (aOp (aIC CM fun i j => .int (i * j)) (aVar 7) (aOp (aI0 fun i j => .int (i - j)) (aOp (aIC CM fun i j => .int (i * j)) (aC (.int 2)) (aVar 6)) (aC (.int 1))))) (aIfS (aTst (aOp (aEq id) (aVar 5) (aC (.int 1)))) (aAugI 2 (fun i j => i + j) (aOp (aIC CM fun i j => .int (i * j)) (aVar 6) (aOp (aI0 fun i j => .int (i - j)) (aC (.int 1)) (aOp (aIC CM fun i j => .int (i * j)) (aC (.int 2)) (aVar 7))))) aNext))))
def as_Keeper_quarters_with_t1 : AS := (aRet (aVar 2))
def as_Keeper_quarters_with : AS := (aSeq (aAsgF (aOp (aIC CM fun i j => .int (i * j)) (aC (.int 2)) (aOp (aI0 fun i j => .int (i + j)) (aUn (aFld "Keeper" "minus") (aVar 0)) (aUn (aFld "Keeper" "minus") (aVar 1)))) 2)
  (aSeq (aForN (aNEnum (aCons (aUn (aFld "Keeper" "nots") (aVar 0)) aNil)) (agT 2 (agCons (agN 3) (agCons (agN 4) agNil))) as_Keeper_quarters_with_b1)
  as_Keeper_quarters_with_t1))
abbrev s_Keeper_take_in : Stmt := inClass (top 13) 7
abbrev N_Keeper_take_in : List Str := ["self", "other", "one", "its"]
def as_Keeper_take_in_e1 : AE := (aOp (aI0 fun i j => .int (PySem.Builtin.bitXor i j)) (aVar 2) (aVar 3))
def as_Keeper_take_in_e2 : AE := (aOp (aI0 fun i j => .int (PySem.Builtin.bitXor i j)) (aVar 2) (aVar 3))
def as_Keeper_take_in : AS := (aSeq (aSetF "Keeper" "minus" (aOp (aIC CDivW fun i j => .int (i / j)) (aOp (aIC (fun _ j => j ≠ 0) fun i j => .int (i.fmod j)) (aMethO "Keeper" "quarters_with" S_Keeper_quarters_with (aVar 0) (aCons (aVar 1) aNil)) (aC (.int 4))) (aC (.int 2))) (aVar 0))
  (aSeq (aSetF "Keeper" "nots" (aSh (aLcN (aNZip (aCons (aUn (aFld "Keeper" "nots") (aVar 0)) (aCons (aUn (aFld "Keeper" "nots") (aVar 1)) aNil))) (agT 2 (agCons (agN 2) (agCons (agN 3) agNil))) aYes as_Keeper_take_in_e1 [2, 3])) (aVar 0))
  (aSetF "Keeper" "signs" (aSh (aLcN (aNZip (aCons (aUn (aFld "Keeper" "signs") (aVar 0)) (aCons (aUn (aFld "Keeper" "signs") (aVar 1)) aNil))) (agT 2 (agCons (agN 2) (agCons (agN 3) agNil))) aYes as_Keeper_take_in_e2 [2, 3])) (aVar 0))))
abbrev s_Keeper_letters : Stmt := inClass (top 13) 8
abbrev N_Keeper_letters : List Str := ["self", "one", "its"]
def as_Keeper_letters_e1 : AE := (aOp aIxS (aOp aIx (aC (.tup [.str "iz", .str "xy"])) (aVar 1)) (aVar 2))
def as_Keeper_letters : AS := (aRet (aTup (aCons (aOp (aI0 fun i j => .int (i - j)) (aC (.int 1)) (aOp (aIC CM fun i j => .int (i * j)) (aC (.int 2)) (aUn (aFld "Keeper" "minus") (aVar 0)))) (aCons (aJoin (aC (.str "")) (aLcN (aNZip (aCons (aUn (aFld "Keeper" "nots") (aVar 0)) (aCons (aUn (aFld "Keeper" "signs") (aVar 0)) aNil))) (agT 2 (agCons (agN 1) (agCons (agN 2) agNil))) aYes as_Keeper_letters_e1 [1, 2])) aNil))))
abbrev s_keepers_behind : Stmt := top 14
abbrev N_keepers_behind : List Str := ["circuit", "row", "many", "gates", "found", "gate", "keeper", "wire", "bit"]
def as_keepers_behind_e1 : AE := (aMake "Keeper" S_Keeper___init__ (aCons (aVar 2) (aCons (aVar 7) (aCons (aVar 8) aNil))))
def as_keepers_behind_b1 : AS := (aDrop (aMethO "Keeper" "after" S_Keeper_after (aVar 6) (aCons (aVar 5) aNil)))
def as_keepers_behind_b2 : AS := (aForM (aJSeq (aVar 4)) (agN 6) as_keepers_behind_b1)
def as_keepers_behind_t1 : AS := (aRet (aVar 4))
def as_keepers_behind : AS := (aSeq (aUnp (aVar 0) (agT 2 (agCons (agN 2) (agCons (agN 3) agNil))))
  (aSeq (aAsgF (aSh (aLc (aIenumT (aCons (aVar 1) aNil)) (agT 2 (agCons (agN 7) (agCons (agN 8) agNil))) aYes as_keepers_behind_e1 [7, 8])) 4)
  (aSeq (aFor (aITup (aVar 3)) (agN 5) as_keepers_behind_b2)
  as_keepers_behind_t1)))
abbrev s_swept : Stmt := top 15
abbrev N_swept : List Str := ["keepers", "begin", "columns", "at", "column", "lots", "some", "first", "chosen", "number", "keeper"]
def as_swept_e1 : AE := (aCol "Keeper" ["minus", "nots", "signs"] 4 (aCons (aVar 10) aNil))
def as_swept_e2 : AE := (aVar 9)
def as_swept_c1 : AT := (aTst (aOp (aEq id) (aOp aIx (aVar 5) (aVar 9)) (aC (.int 1))))
def as_swept_b1 : AS := (aIfS (aAnd (aTst (aOp (aEq not) (aVar 9) (aVar 3))) (aTst (aOp (aEq id) (aCol "Keeper" ["minus", "nots", "signs"] 4 (aCons (aVar 10) aNil)) (aC (.int 1))))) (aDrop (aMethO "Keeper" "take_in" S_Keeper_take_in (aVar 10) (aCons (aVar 8) aNil))) aNext)
def as_swept_t1 : AS := (aAugI 3 (fun i j => i + j) (aC (.int 1)))
def as_swept_b2 : AS := (aSeq (aAsgF (aLcM (aJSeq (aVar 0)) (agN 10) aYes as_swept_e1 [10]) 5)
  (aSeq (aAsgF (aLc (aRng2 (aCons (aVar 3) (aCons (aCall1 aLen (aVar 0)) aNil))) (agN 9) as_swept_c1 as_swept_e2 [9]) 6)
  (aIfS (aTst (aOp (aEqL0 not) (aVar 6) (aLst aNil))) (aSeq (aAsgF (aOp aIx (aVar 6) (aC (.int 0))) 7)
  (aSeq (aAsgF (aOp aIx (aVar 0) (aVar 7)) 8)
  (aSeq (aSetI2 (aCons (aOp aIx (aVar 0) (aVar 3)) (aCons (aVar 8) aNil)) (aVar 0) (aVar 7) (aVar 0) (aVar 3))
  (aSeq (aForN (aNEnum (aCons (aVar 0) aNil)) (agT 2 (agCons (agN 9) (agCons (agN 10) agNil))) as_swept_b1)
  as_swept_t1)))) aNext)))
def as_swept_t2 : AS := (aRet (aVar 3))
def as_swept : AS := (aSeq (aAsgF (aVar 1) 3)
  (aSeq (aFor (aISeq (aVar 2)) (agN 4) as_swept_b2)
  as_swept_t2))
abbrev s_not_at : Stmt := top 16
abbrev s_sign_at : Stmt := top 17
abbrev s_put_in_order : Stmt := top 18
abbrev N_put_in_order : List Str := ["keepers", "many", "nots", "wire"]
def as_put_in_order_e1 : AE := (aCall S_not_at (aCons (aVar 3) aNil))
def as_put_in_order_e2 : AE := (aCall S_sign_at (aCons (aVar 3) aNil))
def as_put_in_order : AS := (aSeq (aAsgF (aCall S_swept (aCons (aVar 0) (aCons (aC (.int 0)) (aCons (aLc (aRng1 (aCons (aVar 1) aNil)) (agN 3) aYes as_put_in_order_e1 [3]) aNil)))) 2)
  (aSeq (aDrop (aCall S_swept (aCons (aVar 0) (aCons (aVar 2) (aCons (aLc (aRng1 (aCons (aVar 1) aNil)) (agN 3) aYes as_put_in_order_e2 [3]) aNil)))))
  (aRet (aVar 2))))
abbrev s_look_short : Stmt := top 19
abbrev N_look_short : List Str := ["circuit"]
def as_look_short (xw : XW) : AS := (aIfS (aNot (aTst (aCall S_is_short (aCons (aVar 0) aNil)))) (aRaiseP xw "NoFit" (aC (.str "the circuit isn't short"))) aNext)
abbrev s_letters_of : Stmt := top 20
abbrev N_letters_of : List Str := ["circuit", "row", "keepers", "keeper"]
def as_letters_of (xw : XW) : AS := (aSeq (aDrop (aCallX xw S_look_short (aCons (aVar 0) aNil)))
  (aSeq (aAsgF (aCall S_keepers_behind (aCons (aVar 0) (aCons (aVar 1) aNil))) 2)
  (aSeq (aDrop (aCall S_put_in_order (aCons (aVar 2) (aCons (aOp aIx (aVar 0) (aC (.int 0))) aNil))))
  (aRet (aCall1 aTuple (aLcM (aJSeq (aVar 2)) (agN 3) aYes (aMethO "Keeper" "letters" S_Keeper_letters (aVar 3) aNil) [3]))))))
abbrev s_done_to : Stmt := top 21
abbrev N_done_to : List Str := ["letters", "mix", "sign", "text", "found", "row", "number", "signs", "power", "other", "bit", "letter"]
def as_done_to_e1 : AE := (aVar 10)
def as_done_to_c1 : AT := (aTst (aOp (aInSg id) (aVar 11) (aC (.str "zy"))))
def as_done_to_e2 : AE := (aIfE (aTst (aOp (aInSg id) (aVar 11) (aC (.str "xy")))) (aOp (aI0 fun i j => .int (i - j)) (aC (.int 1)) (aVar 10)) (aVar 10))
def as_done_to_b1 : AS := (aSeq (aAsgF (aLc (aIzipA (aCons (aVar 5) (aCons (aVar 3) aNil))) (agT 2 (agCons (agN 10) (agCons (agN 11) agNil))) as_done_to_c1 as_done_to_e1 [10, 11]) 7)
  (aSeq (aAsgF (aOp (aI0 fun i j => .int (i + j)) (aOp (aI0 fun i j => .int (i + j)) (aOp (aIC CM fun i j => .int (i * j)) (aC (.int 4)) (aCall1 aSumI (aVar 7))) (aOp (aIC CM fun i j => .int (i * j)) (aC (.int 2)) (aCntS (aVar 3) (aC (.str "y"))))) (aOp (aIC CM fun i j => .int (i * j)) (aC (.int 2)) (aOp (aI0 fun i j => .int (i - j)) (aC (.int 1)) (aVar 2)))) 8)
  (aSeq (aAsgF (aCall1 aTuple (aLc (aIzipA (aCons (aVar 5) (aCons (aVar 3) aNil))) (agT 2 (agCons (agN 10) (agCons (agN 11) agNil))) aYes as_done_to_e2 [10, 11])) 9)
  (aDrop (aMeth amApp (aVar 4) (aCons (aTup (aCons (aVar 9) (aCons (aCall S_times (aCons (aVar 6) (aCons (aCall S_root (aCons (aVar 8) aNil)) aNil))) aNil))) aNil))))))
def as_done_to_t1 : AS := (aRet (aCall1 aTuple (aCall1 aSortD (aVar 4))))
def as_done_to : AS := (aSeq (aUnp (aVar 0) (agT 2 (agCons (agN 2) (agCons (agN 3) agNil))))
  (aSeq (aAsg (aLst aNil) 4)
  (aSeq (aFor (aITup (aVar 1)) (agT 2 (agCons (agN 5) (agCons (agN 6) agNil))) as_done_to_b1)
  as_done_to_t1)))
abbrev s__law_hand : Stmt := top 23
abbrev N__law_hand : List Str := ["_law_script", "_law_k", "_law_cell", "_law_great"]
def as__law_hand_t1 : AS := (aSeq (aAsgF (aOp (aIC CM fun i j => .int (i * j)) (aOp (aIC (fun _ j => j ≠ 0) fun i j => .int (i.fmod j)) (aCall1 aAbs (aVar 2)) (aOp (aIC CPowW fun i j => .int (i ^ j.toNat)) (aOp (aIC CPowW fun i j => .int (i ^ j.toNat)) (aC (.int 10)) (aC (.int 60))) (aC (.int 5)))) (aCall1 aInt (aOp (aI0 fun i j => .bl (decide (j ≤ i))) (aCall1 aAbs (aVar 2)) (aOp (aIC CPowW fun i j => .int (i ^ j.toNat)) (aC (.int 10)) (aC (.int 18)))))) 3)
  (aRet (aSh (aLst (aCons (aVar 3) (aCons (aOp (aIC (fun _ j => j ≠ 0) fun i j => .int (i.fmod j)) (aOp (aIC CM fun i j => .int (i * j)) (aOp (aI0 fun i j => .int (i + j)) (aOp (aI0 fun i j => .int (i + j)) (aOp (aIC (fun _ j => j ≠ 0) fun i j => .int (i.fmod j)) (aVar 2) (aC (.int 2305843009213693951))) (aOp (aIC CM fun i j => .int (i * j)) (aOp (aIC CM fun i j => .int (i * j)) (aC (.int 7919)) (aVar 1)) (aVar 1))) (aC (.int 11))) (aC (.int 48271))) (aC (.int 2305843009213693951))) aNil))))))
def as__law_hand : AS := (aSeq (aAsgF (aOp (aI0 fun i j => .int (i + j)) (aOp (aIC CM fun i j => .int (i * j)) (aC (.int 3)) (aVar 1)) (aCall1 aLen (aVar 0))) 2)
  (aSeq (aIfS (aTst (aOp (aI0 fun i j => .bl (decide (i < j))) (aVar 1) (aCall1 aLen (aVar 0)))) (aAsgF (aOp aIx (aVar 0) (aVar 1)) 2) aNext)
  as__law_hand_t1))
abbrev s__law_take : Stmt := top 24
abbrev N__law_take : List Str := ["_law_hand_here", "_law_many", "_law_digit"]
def as__law_take_t1 : AS := (aSeq (aSetI (aOp (aIC (fun _ j => j ≠ 0) fun i j => .int (i.fmod j)) (aOp (aI0 fun i j => .int (i + j)) (aOp (aIC CM fun i j => .int (i * j)) (aOp aIx (aVar 0) (aC (.int 1))) (aC (.int 1181783497276652981))) (aC (.int 12345678910987))) (aC (.int 2305843009213693951))) (aVar 0) (aC (.int 1)))
  (aRet (aOp (aIC (fun _ j => j ≠ 0) fun i j => .int (i.fmod j)) (aOp (aIC CDivW fun i j => .int (i / j)) (aOp (aIC (fun _ j => j ≠ 0) fun i j => .int (i.fmod j)) (aOp (aIC CM fun i j => .int (i * j)) (aOp (aIC CDivW fun i j => .int (i / j)) (aOp aIx (aVar 0) (aC (.int 1))) (aC (.int 65537))) (aOp (aI0 fun i j => .int (i + j)) (aOp (aIC (fun _ j => j ≠ 0) fun i j => .int (i.fmod j)) (aOp aIx (aVar 0) (aC (.int 1))) (aC (.int 65537))) (aC (.int 3)))) (aC (.int 2305843009213693921))) (aC (.int 97))) (aVar 1))))
def as__law_take : AS := (aSeq (aIfS (aTst (aOp (aI0 fun i j => .bl (decide (j < i))) (aOp aIx (aVar 0) (aC (.int 0))) (aC (.int 0)))) (aSeq (aAsgF (aOp (aIC (fun _ j => j ≠ 0) fun i j => .int (i.fmod j)) (aOp aIx (aVar 0) (aC (.int 0))) (aVar 1)) 2)
  (aSeq (aSetI (aOp (aIC CDivW fun i j => .int (i / j)) (aOp aIx (aVar 0) (aC (.int 0))) (aVar 1)) (aVar 0) (aC (.int 0)))
  (aRet (aVar 2)))) aNext)
  as__law_take_t1)
abbrev s__law_pick : Stmt := top 25
abbrev N__law_pick : List Str := ["_law_hand_here", "_law_some"]
def as__law_pick : AS := (aRet (aOp aIxA (aVar 1) (aCall S__law_take (aCons (aVar 0) (aCons (aCall1 aLenA (aVar 1)) aNil)))))
abbrev s__law_controls : Stmt := top 26
abbrev N__law_controls : List Str := ["_law_hand_here", "_law_many", "_law_wire", "_law_most", "_law_some", "_law_found", "_law_turn", "_law_one"]
def as__law_controls_e1 : AE := (aVar 7)
def as__law_controls_c1 : AT := (aTst (aOp (aEq not) (aVar 7) (aVar 2)))
def as__law_controls_b1 : AS := (aDrop (aMeth amApp (aVar 5) (aCons (aMeth amPopAt (aVar 4) (aCons (aCall S__law_take (aCons (aVar 0) (aCons (aCall1 aLen (aVar 4)) aNil))) aNil)) aNil)))
def as__law_controls_t1 : AS := (aRet (aCall1 aTuple (aCall1 aSortI (aVar 5))))
def as__law_controls : AS := (aSeq (aAsg (aLc (aRng1 (aCons (aVar 1) aNil)) (agN 7) as__law_controls_c1 as__law_controls_e1 [7]) 4)
  (aSeq (aAsg (aLst aNil) 5)
  (aSeq (aFor (aRng1 (aCons (aCall2 (aI0 fun i j => .int (if j < i then j else i)) (aVar 3) (aCall1 aLen (aVar 4))) aNil)) (agN 6) as__law_controls_b1)
  as__law_controls_t1)))
abbrev s__law_short_gate : Stmt := top 27
abbrev N__law_short_gate : List Str := ["_law_hand_here", "_law_many", "_law_wire", "_law_lot", "_law_pair", "_law_one"]
def as__law_short_gate_e1 : AE := (aVar 5)
def as__law_short_gate_c1 : AT := (aTst (aOp (aEq not) (aVar 5) (aVar 2)))
def as__law_short_gate_t1 : AS := (aRet (aTup (aCons (aC (.str "not")) (aCons (aC (.int 0)) (aCons (aCall S__law_controls (aCons (aVar 0) (aCons (aVar 1) (aCons (aVar 2) (aCons (aCall1 aInt (aOp (aI0 fun i j => .bl (decide (j < i))) (aVar 3) (aC (.int 6)))) aNil))))) (aCons (aVar 2) aNil))))))
def as__law_short_gate_t2 : AS := (aSeq (aIfS (aTst (aOp (aEq id) (aVar 3) (aC (.int 5)))) (aRet (aTup (aCons (aC (.str "phase")) (aCons (aOp (aI0 fun i j => .int (i + j)) (aC (.int 1)) (aCall S__law_take (aCons (aVar 0) (aCons (aC (.int 7)) aNil)))) (aCons (aTup aNil) (aCons (aUn aNeg (aC (.int 1))) aNil)))))) aNext)
  as__law_short_gate_t1)
def as__law_short_gate_t3 : AS := (aSeq (aIfS (aAnd (aTst (aOp (aEq id) (aVar 3) (aC (.int 4)))) (aTst (aOp (aI0 fun i j => .bl (decide (j < i))) (aVar 1) (aC (.int 1))))) (aSeq (aAsgF (aCall1 aSortI (aLst (aCons (aVar 2) (aCons (aCall S__law_pick (aCons (aVar 0) (aCons (aLc (aRng1 (aCons (aVar 1) aNil)) (agN 5) as__law_short_gate_c1 as__law_short_gate_e1 [5]) aNil))) aNil)))) 4)
  (aRet (aTup (aCons (aC (.str "cross")) (aCons (aC (.int 0)) (aCons (aTup (aCons (aOp aIx (aVar 4) (aC (.int 0))) aNil)) (aCons (aOp aIx (aVar 4) (aC (.int 1))) aNil))))))) aNext)
  as__law_short_gate_t2)
def as__law_short_gate_t4 : AS := (aSeq (aIfS (aTst (aOp (aEq id) (aVar 3) (aC (.int 3)))) (aRet (aTup (aCons (aC (.str "turn")) (aCons (aCall S__law_pick (aCons (aVar 0) (aCons (aLst (aCons (aC (.int 2)) (aCons (aC (.int 4)) (aCons (aC (.int 6)) aNil)))) aNil))) (aCons (aTup aNil) (aCons (aVar 2) aNil)))))) aNext)
  as__law_short_gate_t3)
def as__law_short_gate : AS := (aSeq (aUnp (aTup (aCons (aCall S__law_take (aCons (aVar 0) (aCons (aVar 1) aNil))) (aCons (aCall S__law_take (aCons (aVar 0) (aCons (aC (.int 9)) aNil))) aNil))) (agT 2 (agCons (agN 2) (agCons (agN 3) agNil))))
  (aSeq (aIfS (aTst (aOp (aI0 fun i j => .bl (decide (i < j))) (aVar 3) (aC (.int 3)))) (aRet (aTup (aCons (aC (.str "half")) (aCons (aC (.int 0)) (aCons (aTup aNil) (aCons (aVar 2) aNil)))))) aNext)
  as__law_short_gate_t4))
abbrev s__law_short : Stmt := top 28
abbrev N__law_short : List Str := ["_law_hand_here", "_law_many", "_law_size", "_law_turn"]
def as__law_short_e1 : AE := (aCall S__law_short_gate (aCons (aVar 0) (aCons (aVar 1) aNil)))
def as__law_short : AS := (aRet (aTup (aCons (aVar 1) (aCons (aCall1 aTuple (aLc (aRng1 (aCons (aVar 2) aNil)) (agN 3) aYes as__law_short_e1 [3])) aNil))))
abbrev s__law_bits : Stmt := top 29
abbrev N__law_bits : List Str := ["_law_hand_here", "_law_many", "_law_wire"]
def as__law_bits_e1 : AE := (aCall S__law_take (aCons (aVar 0) (aCons (aC (.int 2)) aNil)))
def as__law_bits : AS := (aRet (aCall1 aTuple (aLc (aRng1 (aCons (aVar 1) aNil)) (agN 2) aYes as__law_bits_e1 [2])))
abbrev s__law_by_root : Stmt := top 30
abbrev N__law_by_root : List Str := ["_law_number", "_law_a", "_law_b", "_law_c", "_law_d", "_law_k"]
def as__law_by_root : AS := (aSeq (aUnp (aVar 0) (agT 5 (agCons (agN 1) (agCons (agN 2) (agCons (agN 3) (agCons (agN 4) (agCons (agN 5) agNil)))))))
  (aRet (aTup (aCons (aOp (aI0 fun i j => .int (i - j)) (aC (.int 0)) (aVar 4)) (aCons (aVar 1) (aCons (aVar 2) (aCons (aVar 3) (aCons (aVar 5) aNil))))))))
abbrev s__law_done : Stmt := top 31
abbrev N__law_done : List Str := ["_law_letters_here", "_law_mix_here", "_law_found", "_law_row", "_law_number", "_law_eighths", "_law_other", "_law_turn", "_law_bit", "_law_letter"]
def as__law_done_b1 : AS := (aSeq (aAsgF (aOp (aI0 fun i j => .int (i + j)) (aVar 5) (aDGet (aDisp (apCons (aC (.str "i")) (aC (.int 0)) (apCons (aC (.str "x")) (aC (.int 0)) (apCons (aC (.str "z")) (aOp (aIC CM fun i j => .int (i * j)) (aC (.int 4)) (aVar 8)) (apCons (aC (.str "y")) (aOp (aI0 fun i j => .int (i + j)) (aOp (aIC CM fun i j => .int (i * j)) (aC (.int 4)) (aVar 8)) (aC (.int 2))) apNil))))) (aVar 9))) 5)
  (aDrop (aMeth amApp (aVar 6) (aCons (aIfE (aTst (aOp (aInSg id) (aVar 9) (aC (.str "xy")))) (aOp (aI0 fun i j => .int (i - j)) (aC (.int 1)) (aVar 8)) (aVar 8)) aNil))))
def as__law_done_b2 : AS := (aAsgF (aCall S__law_by_root (aCons (aVar 4) aNil)) 4)
def as__law_done_t1 : AS := (aTPut (aVar 4) (aVar 2) (aCall1 aTuple (aVar 6)))
def as__law_done_t2 : AS := (aSeq (aFor (aRng1 (aCons (aOp (aIC (fun _ j => j ≠ 0) fun i j => .int (i.fmod j)) (aVar 5) (aC (.int 8))) aNil)) (agN 7) as__law_done_b2)
  as__law_done_t1)
def as__law_done_b3 : AS := (aSeq (aAsgF (aOp (aIC CM fun i j => .int (i * j)) (aC (.int 4)) (aCall1 aInt (aOp (aEq id) (aOp aIx (aVar 0) (aC (.int 0))) (aUn aNeg (aC (.int 1)))))) 5)
  (aSeq (aAsg (aLst aNil) 6)
  (aSeq (aFor (aIzipA (aCons (aVar 3) (aCons (aOp aIx (aVar 0) (aC (.int 1))) aNil))) (agT 2 (agCons (agN 8) (agCons (agN 9) agNil))) as__law_done_b1)
  as__law_done_t2)))
def as__law_done_t3 : AS := (aRet (aCall1 aTuple (aSortIt (aVar 2))))
def as__law_done : AS := (aSeq (aAsg aTNew 2)
  (aSeq (aFor (aITup (aVar 1)) (agT 2 (agCons (agN 3) (agCons (agN 4) agNil))) as__law_done_b3)
  as__law_done_t3))
abbrev s__law_letters : Stmt := top 32
abbrev N__law_letters : List Str := ["_law_hand_here", "_law_many", "_law_text", "_law_wire"]
def as__law_letters_e1 : AE := (aCall S__law_pick (aCons (aVar 0) (aCons (aC (.str "iixyz")) aNil)))
def as__law_letters : AS := (aSeq (aAsgF (aJoin (aC (.str "")) (aLc (aRng1 (aCons (aVar 1) aNil)) (agN 3) aYes as__law_letters_e1 [3])) 2)
  (aRet (aTup (aCons (aCall S__law_pick (aCons (aVar 0) (aCons (aLst (aCons (aC (.int 1)) (aCons (aUn aNeg (aC (.int 1))) aNil))) aNil))) (aCons (aVar 2) aNil)))))
abbrev s__law_mix : Stmt := top 33
abbrev N__law_mix : List Str := ["_law_hand_here", "_law_many", "_law_found", "_law_chance", "_law_turn", "_law_parts", "_law_number", "_law_part"]
def as__law_mix_e1 : AE := (aOp (aI0 fun i j => .int (i - j)) (aCall S__law_take (aCons (aVar 0) (aCons (aC (.int 7)) aNil))) (aC (.int 3)))
def as__law_mix_b1 : AS := (aSeq (aAsgF (aLc (aRng1 (aCons (aC (.int 4)) aNil)) (agN 7) aYes as__law_mix_e1 [7]) 5)
  (aSeq (aAsgF (aCall S_lowest (aCons (aOp aIx (aVar 5) (aC (.int 0))) (aCons (aOp aIx (aVar 5) (aC (.int 1))) (aCons (aOp aIx (aVar 5) (aC (.int 2))) (aCons (aOp aIx (aVar 5) (aC (.int 3))) (aCons (aCall S__law_take (aCons (aVar 0) (aCons (aOp (aI0 fun i j => .int (i + j)) (aVar 3) (aC (.int 2))) aNil))) aNil)))))) 6)
  (aIfS (aTst (aOp (aEq not) (aVar 6) (aTup (aCons (aC (.int 0)) (aCons (aC (.int 0)) (aCons (aC (.int 0)) (aCons (aC (.int 0)) (aCons (aC (.int 0)) aNil)))))))) (aTPut (aVar 6) (aVar 2) (aCall S__law_bits (aCons (aVar 0) (aCons (aVar 1) aNil)))) aNext)))
def as__law_mix_t1 : AS := (aRet (aCall1 aTuple (aSortIt (aVar 2))))
def as__law_mix : AS := (aSeq (aParO1 aTNew (aOp (aI0 fun i j => .int (i + j)) (aC (.int 1)) (aCall S__law_take (aCons (aVar 0) (aCons (aC (.int 4)) aNil)))) 2 3)
  (aSeq (aFor (aRng1 (aCons (aOp aIx (aLst (aCons (aC (.int 0)) (aCons (aC (.int 1)) (aCons (aC (.int 4)) (aCons (aOp (aIC CM fun i j => .int (i * j)) (aC (.int 3)) (aVar 1)) aNil))))) (aCall S__law_take (aCons (aVar 0) (aCons (aC (.int 4)) aNil)))) aNil)) (agN 4) as__law_mix_b1)
  as__law_mix_t1))
abbrev s__law_opposite : Stmt := top 34
abbrev N__law_opposite : List Str := ["_law_mix_here", "_law_found", "_law_row", "_law_a", "_law_b", "_law_c", "_law_d", "_law_k"]
def as__law_opposite_b1 : AS := (aDrop (aMeth amApp (aVar 1) (aCons (aTup (aCons (aVar 2) (aCons (aTup (aCons (aOp (aI0 fun i j => .int (i - j)) (aC (.int 0)) (aVar 3)) (aCons (aOp (aI0 fun i j => .int (i - j)) (aC (.int 0)) (aVar 4)) (aCons (aOp (aI0 fun i j => .int (i - j)) (aC (.int 0)) (aVar 5)) (aCons (aOp (aI0 fun i j => .int (i - j)) (aC (.int 0)) (aVar 6)) (aCons (aVar 7) aNil)))))) aNil))) aNil)))
def as__law_opposite_t1 : AS := (aRet (aCall1 aTuple (aVar 1)))
def as__law_opposite : AS := (aSeq (aAsg (aLst aNil) 1)
  (aSeq (aFor (aITup (aVar 0)) (agT 2 (agCons (agN 2) (agCons (agT 5 (agCons (agN 3) (agCons (agN 4) (agCons (agN 5) (agCons (agN 6) (agCons (agN 7) agNil)))))) agNil))) as__law_opposite_b1)
  as__law_opposite_t1))
abbrev s__law_two_right : Stmt := top 35
abbrev N__law_two_right : List Str := ["_law_one", "_law_other", "_law_mix_here", "_law_ahead", "_law_behind", "_law_unlike", "_law_a", "_law_b"]
def as__law_two_right_e1 : AE := (aVar 6)
def as__law_two_right_c1 : AT := (aAnd (aTst (aOp (aEqS not) (aVar 6) (aVar 7))) (aAnd (aTst (aOp (aEqS not) (aVar 6) (aC (.str "i")))) (aTst (aOp (aEqS not) (aVar 7) (aC (.str "i"))))))
def as__law_two_right : AS := (aSeq (aPar (aCons (aCall S_done_to (aCons (aVar 0) (aCons (aCall S_done_to (aCons (aVar 1) (aCons (aVar 2) aNil))) aNil))) (aCons (aCall S_done_to (aCons (aVar 1) (aCons (aCall S_done_to (aCons (aVar 0) (aCons (aVar 2) aNil))) aNil))) aNil)) 3 4)
  (aSeq (aAsgF (aLc (aIzipA (aCons (aOp aIx (aVar 0) (aC (.int 1))) (aCons (aOp aIx (aVar 1) (aC (.int 1))) aNil))) (agT 2 (agCons (agN 6) (agCons (agN 7) agNil))) as__law_two_right_c1 as__law_two_right_e1 [6, 7]) 5)
  (aRet (aOp (aEqS id) (aCall1 aReprN (aVar 3)) (aCall1 aReprN (aIfE (aTst (aOp (aEq id) (aOp (aIC (fun _ j => j ≠ 0) fun i j => .int (i.fmod j)) (aCall1 aLen (aVar 5)) (aC (.int 2))) (aC (.int 0)))) (aVar 4) (aCall S__law_opposite (aCons (aVar 4) aNil))))))))
abbrev s_law : Stmt := top 36
abbrev N_law : List Str := ["_law_script", "_law_k", "_law_hand_here", "_law_turn", "_law_many", "_law_short_here", "_law_lots", "_law_mix_here", "_law_kept", "_law_letters_here", "_law_told", "_law_other"]
def as_law_e1 : AE := (aCall S__law_two_right (aCons (aVar 9) (aCons (aVar 11) (aCons (aVar 7) aNil))))
def as_law_t1 : AS := (aIfS (aNot (aTst (aCall1 (aAllB (·.all id)) (aLc (aISeq (aVar 6)) (agN 11) aYes as_law_e1 [11])))) (aRet (aC (.bl false))) aNext)
def as_law_b1 : AS := (aSeq (aAsgF (aCall S_done_to (aCons (aVar 9) (aCons (aVar 7) aNil))) 10)
  (aSeq (aIfS (aOr (aTst (aOp (aEqS not) (aCall1 aReprN (aVar 10)) (aCall1 aReprN (aCall S__law_done (aCons (aVar 9) (aCons (aVar 7) aNil)))))) (aTst (aOp (aEqS not) (aCall1 aReprN (aCall S_done_to (aCons (aVar 9) (aCons (aVar 10) aNil)))) (aCall1 aReprN (aVar 7))))) (aRet (aC (.bl false))) aNext)
  as_law_t1))
def as_law_t2 : AS := (aIfS (aTst (aOp (aEqS not) (aCall1 aReprN (aTup (aCons (aVar 6) (aCons (aVar 7) aNil)))) (aVar 8))) (aRet (aC (.bl false))) aNext)
def as_law_b2 : AS := (aSeq (aAsgF (aOp (aI0 fun i j => .int (i + j)) (aC (.int 1)) (aCall S__law_take (aCons (aVar 2) (aCons (aC (.int 8)) aNil)))) 4)
  (aSeq (aAsgF (aCall S__law_short (aCons (aVar 2) (aCons (aVar 4) (aCons (aCall S__law_take (aCons (aVar 2) (aCons (aC (.int 9)) aNil))) aNil)))) 5)
  (aSeq (aAsg (aLst (aCons (aCall S__law_letters (aCons (aVar 2) (aCons (aVar 4) aNil))) (aCons (aCall S__law_letters (aCons (aVar 2) (aCons (aVar 4) aNil))) aNil))) 6)
  (aSeq (aDrop (aMeth amApp (aVar 6) (aCons (aCall S__law_pick (aCons (aVar 2) (aCons (aCallX (fun _ _ _ => False) S_letters_of (aCons (aVar 5) (aCons (aCall S__law_bits (aCons (aVar 2) (aCons (aVar 4) aNil))) aNil))) aNil))) aNil)))
  (aSeq (aAsgF (aCall S__law_mix (aCons (aVar 2) (aCons (aVar 4) aNil))) 7)
  (aSeq (aAsgF (aCall1 aReprN (aTup (aCons (aVar 6) (aCons (aVar 7) aNil)))) 8)
  (aSeq (aFor (aISeq (aVar 6)) (agN 9) as_law_b1)
  as_law_t2)))))))
def as_law_b3 : AS := (aSeq (aAsgF (aCall S__law_hand (aCons (aVar 0) (aCons (aVar 1) aNil))) 2)
  (aFor (aRng1 (aCons (aC (.int 4)) aNil)) (agN 3) as_law_b2))
def as_law_t3 : AS := (aRet (aC (.bl true)))
def as_law : AS := (aSeq (aFor (aRng1 (aCons (aOp (aI0 fun i j => .int (i + j)) (aC (.int 1)) (aCall2 (aI0 fun i j => .int (if j < i then j else i)) (aC (.int 3)) (aCall1 aLen (aVar 0)))) aNil)) (agN 1) as_law_b3)
  as_law_t3)
local macro_rules | `(tactic| walk_at "gw") => `(tactic| simp (config := { dsimp := false }) only [↓e_aCatS, ↓e_aSlS, ↓e_aStr, ↓e_aEq0, ↓e_aLtT, ↓e_aSortSet, ↓e_aRepT, ↓e_aRevT, ↓e_aIB, ↓e_aStrB, ↓e_aEqL0, ↓e_aLc2, ↓e_aSortRows, ↓e_aTNew, ↓e_aTGet, ↓e_aTGet2, ↓e_aTPut, ↓e_aTItems, ↓e_aTIn, ↓e_aSortT, ↓e_dcTOf, ↓e_aDictT, ↓e_aDcR, ↓e_aOneR, ↓e_aPutI, ↓e_aSetI2, ↓e_aIAny, ↓e_aIsB, ↓e_aSortIt, ↓e_aListRg, ↓e_aLenSetT, ↓e_aSortSc, ↓e_aSortRowsT, ↓e_aLenSetI, ↓e_aParOO, ↓e_aCallX, ↓e_aRaise, ↓e_aTry, ↓e_aIsX, ↓e_aXf, ↓e_aSortRowsD, ↓e_aIenumT, ↓e_aCallPX, ↓e_aRaiseP, ↓e_aSortIT, ↓e_aMk, ↓e_aMkK, ↓e_aMkP, ↓e_aIzipS, ↓e_aIStr, ↓e_aDUpd, ↓e_aGGet, ↓e_aGIn, ↓e_aIenumA, ↓e_aLenSetS, ↓e_aLeS, ↓e_aInSg, ↓e_aSumI, ↓e_aSplit, ↓e_aUpper, ↓e_aCallD, ↓e_aRepN, ↓e_aListRg2, ↓e_aMulS, ↓e_aIsi3, ↓e_aLenTx, ↓e_aFld, ↓e_aSetF, ↓e_aMethO, ↓e_aMake, ↓e_aFz, ↓e_aIKeys, ↓e_aSDef, ↓e_aDcK, ↓e_aPar3O, ↓e_aMaxDf, ↓e_aSortTB, ↓e_aIdx, ↓e_aCount, ↓e_aIntS, ↓e_aPar5O, ↓e_aMaxT, ↓e_aPar3OO, ↓e_aOrD, ↓e_aTupRg, ↓e_aPar4O, ↓e_aLenSetIT, ↓e_aJSeq, ↓e_aJRev, ↓e_aForM, ↓e_aLenD, ↓e_aMinD, ↓e_aDPop, ↓e_aListRev, ↓e_aMinL, ↓e_aMinV, ↓e_aPutR, ↓e_aSetR2, ↓e_aUnpF, ↓e_aUnpSL, ↓e_aParO1, ↓e_aListIt, ↓e_aITKeys, ↓e_aListTK, ↓e_aCallXD, ↓e_aNNew, ↓e_aNGet, ↓e_aNPut, ↓e_dcNOf, ↓e_aDcN, ↓e_aIzipM, ↓e_aJoin, ↓e_aLcM, ↓e_aAugF, ↓e_aReplC, ↓e_aStrW, ↓e_aParG, ↓e_atN, ↓e_atL, ↓e_atD, ↓e_atF, ↓e_aListS, ↓e_aCol, ↓e_aAugFI, ↓e_aAugXI, ↓e_aIxS, ↓e_aNEnum, ↓e_aNZip, ↓e_aForN, ↓e_aLcN, ↓e_aRetN, ↓e_aIzipA, ↓e_aCntS, ↓e_aIxA, ↓e_aLenA, ↓e_aSeq, ↓e_aIsi, ↓e_kdOf, ↓isD, ↓e_aInT, ↓e_aRevL, ↓e_aMaxI, ↓e_aUnpS, ↓e_aLk, ↓e_aDNew, ↓e_aDisp, ↓e_apNil, ↓e_apCons, ↓e_aDGet, ↓e_aDGet2, ↓e_aDIn, ↓e_aDPut, ↓keyD, ↓e_dctOf, ↓e_cget, ↓e_cput, ↓e_aIItems, ↓e_aLItems, ↓e_aDictP, ↓e_aDictEnum, ↓e_aLast, ↓e_aLink, ↓e_aChainN, ↓e_agTL, ↓e_aUnp, ↓e_aVar, ↓e_aC, ↓e_aOp, ↓e_aI0, ↓e_aIC, ↓e_aEq, ↓e_aEqS, ↓e_aIn, ↓e_aIsN, ↓e_aIx, ↓e_aCat, ↓e_aRep, ↓e_aCatT, ↓e_aSl, ↓e_aON, ↓e_aOS, ↓e_aCall1, ↓e_aCall2, ↓e_aLen, ↓e_aAllB, ↓e_aTuple, ↓e_aList, ↓e_aAbs, ↓e_aInt, ↓e_aSortI, ↓e_aI3, ↓e_aCons, ↓e_aNil, ↓e_aTup, ↓e_aLst, ↓e_aTst, ↓e_aAnd, ↓e_aOr, ↓e_aNot, ↓e_aAndV, ↓e_aOrV, ↓e_aNotV, ↓e_aIfE, ↓e_aUn, ↓e_aNeg, ↓e_aChain, ↓e_aNext, ↓e_aBrk, ↓e_aCnt, ↓e_aDrop, ↓e_aRet, ↓e_aIfS, ↓e_aAsg, ↓e_aAsgF, ↓e_agN, ↓e_agNil, ↓e_agCons, ↓e_agT, ↓e_aPar, ↓e_aParO, ↓e_aSetI, ↓e_aAugI, ↓e_aAugL, ↓e_aMeth, ↓e_aMeth0, ↓e_amApp, ↓e_amExt, ↓e_amPop, ↓e_amPopAt, ↓e_amIns, ↓e_lget, ↓e_lput, ↓e_frz, ↓e_sqOf, ↓sqD, ↓Sq.ds, ↓e_dOf, ↓e_aCall, ↓e_aCallP, ↓e_aPar3, ↓e_aAugC, ↓e_aAugX, ↓e_aIzip, ↓e_aIrev, ↓e_aIenum, ↓permL, ↓e_aISeq, ↓e_aITup, ↓e_aRng1, ↓e_aRng2, ↓e_aFor, ↓e_aLc, ↓e_aYes, ↓e_aSh, ↓e_aShV, ↓e_aRepr, ↓e_aReprN, ↓wipeS, ↓ends_d, ↓ends_t, ↓ends_n, ↓id, size_val, Nat.zero_le, List.set_cons_zero, List.set_cons_succ, List.getElem?_cons_zero, List.getElem?_cons_succ, List.length_cons, List.length_nil, Option.isSome_some, not_true_eq_false, not_false_eq_true, true_and, and_true, ite_true, ite_false, Bool.false_eq_true, if_true, if_false, Bool.not_true, Bool.not_false, lk_self, lk_ne, at0, at1, at2, at3, at4, ix0, ix1, ix2, sx0, List.map_cons, List.map_nil, List.filterMap_cons, List.filterMap_nil, List.cons_append, List.nil_append, cmp_int, cmp_nil_l, cmp_nil_t, eqD_int, eqD_l00, eqD_l10, eqD_t00, eqD_t10])
local macro_rules | `(tactic| walk_at "gs") => `(tactic| simp (config := { dsimp := false }) only [↓e_aCatS, ↓e_aSlS, ↓e_aStr, ↓e_aEq0, ↓e_aLtT, ↓e_aSortSet, ↓e_aRepT, ↓e_aRevT, ↓e_aIB, ↓e_aStrB, ↓e_aEqL0, ↓e_aLc2, ↓e_aSortRows, ↓e_aTNew, ↓e_aTGet, ↓e_aTGet2, ↓e_aTPut, ↓e_aTItems, ↓e_aTIn, ↓e_aSortT, ↓e_dcTOf, ↓e_aDictT, ↓e_aDcR, ↓e_aOneR, ↓e_aPutI, ↓e_aSetI2, ↓e_aIAny, ↓e_aIsB, ↓e_aSortIt, ↓e_aListRg, ↓e_aLenSetT, ↓e_aSortSc, ↓e_aSortRowsT, ↓e_aLenSetI, ↓e_aParOO, ↓e_aCallX, ↓e_aRaise, ↓e_aTry, ↓e_aIsX, ↓e_aXf, ↓e_aSortRowsD, ↓e_aIenumT, ↓e_aCallPX, ↓e_aRaiseP, ↓e_aSortIT, ↓e_aMk, ↓e_aMkK, ↓e_aMkP, ↓e_aIzipS, ↓e_aIStr, ↓e_aDUpd, ↓e_aGGet, ↓e_aGIn, ↓e_aIenumA, ↓e_aLenSetS, ↓e_aLeS, ↓e_aInSg, ↓e_aSumI, ↓e_aSplit, ↓e_aUpper, ↓e_aCallD, ↓e_aRepN, ↓e_aListRg2, ↓e_aMulS, ↓e_aIsi3, ↓e_aLenTx, ↓e_aFld, ↓e_aSetF, ↓e_aMethO, ↓e_aMake, ↓e_aFz, ↓e_aIKeys, ↓e_aSDef, ↓e_aDcK, ↓e_aPar3O, ↓e_aMaxDf, ↓e_aSortTB, ↓e_aIdx, ↓e_aCount, ↓e_aIntS, ↓e_aPar5O, ↓e_aMaxT, ↓e_aPar3OO, ↓e_aOrD, ↓e_aTupRg, ↓e_aPar4O, ↓e_aLenSetIT, ↓e_aJSeq, ↓e_aJRev, ↓e_aForM, ↓e_aLenD, ↓e_aMinD, ↓e_aDPop, ↓e_aListRev, ↓e_aMinL, ↓e_aMinV, ↓e_aPutR, ↓e_aSetR2, ↓e_aUnpF, ↓e_aUnpSL, ↓e_aParO1, ↓e_aListIt, ↓e_aITKeys, ↓e_aListTK, ↓e_aCallXD, ↓e_aNNew, ↓e_aNGet, ↓e_aNPut, ↓e_dcNOf, ↓e_aDcN, ↓e_aIzipM, ↓e_aJoin, ↓e_aLcM, ↓e_aAugF, ↓e_aReplC, ↓e_aStrW, ↓e_aParG, ↓e_atN, ↓e_atL, ↓e_atD, ↓e_atF, ↓e_aListS, ↓e_aCol, ↓e_aAugFI, ↓e_aAugXI, ↓e_aIxS, ↓e_aNEnum, ↓e_aNZip, ↓e_aForN, ↓e_aLcN, ↓e_aRetN, ↓e_aIzipA, ↓e_aCntS, ↓e_aIxA, ↓e_aLenA, ↓e_aSeq, ↓e_aIsi, ↓e_kdOf, ↓isD, ↓e_aInT, ↓e_aRevL, ↓e_aMaxI, ↓e_aUnpS, ↓e_aLk, ↓e_aDNew, ↓e_aDisp, ↓e_apNil, ↓e_apCons, ↓e_aDGet, ↓e_aDGet2, ↓e_aDIn, ↓e_aDPut, ↓keyD, ↓e_dctOf, ↓e_cget, ↓e_cput, ↓e_aIItems, ↓e_aLItems, ↓e_aDictP, ↓e_aDictEnum, ↓e_aLast, ↓e_aLink, ↓e_aChainN, ↓e_agTL, ↓e_aUnp, ↓e_aVar, ↓e_aC, ↓e_aOp, ↓e_aI0, ↓e_aIC, ↓e_aEq, ↓e_aEqS, ↓e_aIn, ↓e_aIsN, ↓e_aIx, ↓e_aCat, ↓e_aRep, ↓e_aCatT, ↓e_aSl, ↓e_aON, ↓e_aOS, ↓e_aCall1, ↓e_aCall2, ↓e_aLen, ↓e_aAllB, ↓e_aTuple, ↓e_aList, ↓e_aAbs, ↓e_aInt, ↓e_aSortI, ↓e_aI3, ↓e_aCons, ↓e_aNil, ↓e_aTup, ↓e_aLst, ↓e_aTst, ↓e_aAnd, ↓e_aOr, ↓e_aNot, ↓e_aAndV, ↓e_aOrV, ↓e_aNotV, ↓e_aIfE, ↓e_aUn, ↓e_aNeg, ↓e_aChain, ↓e_aNext, ↓e_aBrk, ↓e_aCnt, ↓e_aDrop, ↓e_aRet, ↓e_aIfS, ↓e_aAsg, ↓e_aAsgF, ↓e_agN, ↓e_agNil, ↓e_agCons, ↓e_agT, ↓e_aPar, ↓e_aParO, ↓e_aSetI, ↓e_aAugI, ↓e_aAugL, ↓e_aMeth, ↓e_aMeth0, ↓e_amApp, ↓e_amExt, ↓e_amPop, ↓e_amPopAt, ↓e_amIns, ↓e_lget, ↓e_lput, ↓e_frz, ↓e_sqOf, ↓sqD, ↓Sq.ds, ↓e_dOf, ↓e_aCall, ↓e_aCallP, ↓e_aPar3, ↓e_aAugC, ↓e_aAugX, ↓e_aIzip, ↓e_aIrev, ↓e_aIenum, ↓permL, ↓e_aISeq, ↓e_aITup, ↓e_aRng1, ↓e_aRng2, ↓e_aFor, ↓e_aLc, ↓e_aYes, ↓e_aSh, ↓e_aShV, ↓e_aRepr, ↓e_aReprN, ↓wipeS, ↓ends_d, ↓ends_t, ↓ends_n, ↓id, size_val, Nat.zero_le, List.set_cons_zero, List.set_cons_succ, List.getElem?_cons_zero, List.getElem?_cons_succ, List.length_cons, List.length_nil, Option.isSome_some, not_true_eq_false, not_false_eq_true, true_and, and_true, ite_true, ite_false, Bool.false_eq_true, if_true, if_false, Bool.not_true, Bool.not_false, lk_self, lk_ne, at0, at1, at2, at3, at4, ix0, ix1, ix2, sx0, List.map_cons, List.map_nil, List.filterMap_cons, List.filterMap_nil, List.cons_append, List.nil_append, cmp_int, cmp_nil_l, cmp_nil_t, eqD_int, eqD_l00, eqD_l10, eqD_t00, eqD_t10, Nat.zero_add, Nat.reduceAdd, Nat.reduceSub, Nat.reduceLeDiff, Nat.reduceLT, List.take_succ_cons, List.take_zero, List.drop_succ_cons, List.drop_zero])
local macro_rules | `(tactic| walk_at "gq") => `(tactic| simp (config := { dsimp := false }) only [↓e_aCatS, ↓e_aSlS, ↓e_aStr, ↓e_aEq0, ↓e_aLtT, ↓e_aSortSet, ↓e_aRepT, ↓e_aRevT, ↓e_aIB, ↓e_aStrB, ↓e_aEqL0, ↓e_aLc2, ↓e_aSortRows, ↓e_aTNew, ↓e_aTGet, ↓e_aTGet2, ↓e_aTPut, ↓e_aTItems, ↓e_aTIn, ↓e_aSortT, ↓e_dcTOf, ↓e_aDictT, ↓e_aDcR, ↓e_aOneR, ↓e_aPutI, ↓e_aSetI2, ↓e_aIAny, ↓e_aIsB, ↓e_aSortIt, ↓e_aListRg, ↓e_aLenSetT, ↓e_aSortSc, ↓e_aSortRowsT, ↓e_aLenSetI, ↓e_aParOO, ↓e_aCallX, ↓e_aRaise, ↓e_aTry, ↓e_aIsX, ↓e_aXf, ↓e_aSortRowsD, ↓e_aIenumT, ↓e_aCallPX, ↓e_aRaiseP, ↓e_aSortIT, ↓e_aMk, ↓e_aMkK, ↓e_aMkP, ↓e_aIzipS, ↓e_aIStr, ↓e_aDUpd, ↓e_aGGet, ↓e_aGIn, ↓e_aIenumA, ↓e_aLenSetS, ↓e_aLeS, ↓e_aInSg, ↓e_aSumI, ↓e_aSplit, ↓e_aUpper, ↓e_aCallD, ↓e_aRepN, ↓e_aListRg2, ↓e_aMulS, ↓e_aIsi3, ↓e_aLenTx, ↓e_aFld, ↓e_aSetF, ↓e_aMethO, ↓e_aMake, ↓e_aFz, ↓e_aIKeys, ↓e_aSDef, ↓e_aDcK, ↓e_aPar3O, ↓e_aMaxDf, ↓e_aSortTB, ↓e_aIdx, ↓e_aCount, ↓e_aIntS, ↓e_aPar5O, ↓e_aMaxT, ↓e_aPar3OO, ↓e_aOrD, ↓e_aTupRg, ↓e_aPar4O, ↓e_aLenSetIT, ↓e_aJSeq, ↓e_aJRev, ↓e_aForM, ↓e_aLenD, ↓e_aMinD, ↓e_aDPop, ↓e_aListRev, ↓e_aMinL, ↓e_aMinV, ↓e_aPutR, ↓e_aSetR2, ↓e_aUnpF, ↓e_aUnpSL, ↓e_aParO1, ↓e_aListIt, ↓e_aITKeys, ↓e_aListTK, ↓e_aCallXD, ↓e_aNNew, ↓e_aNGet, ↓e_aNPut, ↓e_dcNOf, ↓e_aDcN, ↓e_aIzipM, ↓e_aJoin, ↓e_aLcM, ↓e_aAugF, ↓e_aReplC, ↓e_aStrW, ↓e_aParG, ↓e_atN, ↓e_atL, ↓e_atD, ↓e_atF, ↓e_aListS, ↓e_aCol, ↓e_aAugFI, ↓e_aAugXI, ↓e_aIxS, ↓e_aNEnum, ↓e_aNZip, ↓e_aForN, ↓e_aLcN, ↓e_aRetN, ↓e_aIzipA, ↓e_aCntS, ↓e_aIxA, ↓e_aLenA, ↓e_aSeq, ↓e_aRevL, ↓e_aMaxI, ↓e_aUnpS, ↓e_aLk, ↓e_aDNew, ↓e_aDisp, ↓e_apNil, ↓e_apCons, ↓e_aDGet, ↓e_aDGet2, ↓e_aDIn, ↓e_aDPut, ↓keyD, ↓e_dctOf, ↓e_cget, ↓e_cput, ↓e_aIItems, ↓e_aLItems, ↓e_aDictP, ↓e_aDictEnum, ↓e_aLast, ↓e_aLink, ↓e_aChainN, ↓e_agTL, ↓e_aUnp, ↓e_aVar, ↓e_aC, ↓e_aOp, ↓e_aI0, ↓e_aIC, ↓e_aEqS, ↓e_aIn, ↓e_aIsN, ↓e_aIx, ↓e_aCat, ↓e_aRep, ↓e_aCatT, ↓e_aSl, ↓e_aON, ↓e_aOS, ↓e_aCall1, ↓e_aCall2, ↓e_aLen, ↓e_aAllB, ↓e_aTuple, ↓e_aList, ↓e_aAbs, ↓e_aInt, ↓e_aSortI, ↓e_aI3, ↓e_aCons, ↓e_aNil, ↓e_aTup, ↓e_aLst, ↓e_aTst, ↓e_aAnd, ↓e_aOr, ↓e_aNot, ↓e_aAndV, ↓e_aOrV, ↓e_aNotV, ↓e_aIfE, ↓e_aUn, ↓e_aNeg, ↓e_aChain, ↓e_aNext, ↓e_aBrk, ↓e_aCnt, ↓e_aDrop, ↓e_aRet, ↓e_aIfS, ↓e_aAsg, ↓e_aAsgF, ↓e_agN, ↓e_agNil, ↓e_agCons, ↓e_agT, ↓e_aPar, ↓e_aParO, ↓e_aSetI, ↓e_aAugI, ↓e_aAugL, ↓e_aMeth, ↓e_aMeth0, ↓e_amApp, ↓e_amExt, ↓e_amPop, ↓e_amPopAt, ↓e_amIns, ↓e_lget, ↓e_lput, ↓e_frz, ↓e_sqOf, ↓sqD, ↓Sq.ds, ↓e_aCall, ↓e_aCallP, ↓e_aPar3, ↓e_aAugC, ↓e_aAugX, ↓e_aIzip, ↓e_aIrev, ↓e_aIenum, ↓permL, ↓e_aISeq, ↓e_aITup, ↓e_aRng1, ↓e_aRng2, ↓e_aFor, ↓e_aLc, ↓e_aYes, ↓e_aSh, ↓e_aShV, ↓wipeS, ↓ends_d, ↓ends_t, ↓ends_n, ↓id, size_val, Nat.zero_le, List.set_cons_zero, List.set_cons_succ, List.getElem?_cons_zero, List.getElem?_cons_succ, List.length_cons, List.length_nil, Option.isSome_some, not_true_eq_false, not_false_eq_true, true_and, and_true, ite_true, ite_false, Bool.false_eq_true, if_true, if_false, Bool.not_true, Bool.not_false, lk_self, lk_ne, at0, at1, at2, at3, at4, ix0, ix1, ix2, sx0, List.map_cons, List.map_nil, List.filterMap_cons, List.filterMap_nil, List.cons_append, List.nil_append, ↓aEq_w, ↓aInT_w, ↓aRepr_w, ↓aReprX_w, ↓aReprN_w, ↓aSortD_w, ↓aIsi_w, ↓hold_ii, ↓hold_bb, decide_true, decide_false, Nat.zero_add, Nat.reduceAdd, Nat.reduceSub, Nat.reduceLeDiff, Nat.reduceLT, List.take_succ_cons, List.take_zero, List.drop_succ_cons, List.drop_zero])
local macro_rules | `(tactic| walk_at "gwx") => `(tactic| simp (config := { dsimp := false }) only [*, ↓e_aCatS, ↓e_aSlS, ↓e_aStr, ↓e_aEq0, ↓e_aLtT, ↓e_aSortSet, ↓e_aRepT, ↓e_aRevT, ↓e_aIB, ↓e_aStrB, ↓e_aEqL0, ↓e_aLc2, ↓e_aSortRows, ↓e_aTNew, ↓e_aTGet, ↓e_aTGet2, ↓e_aTPut, ↓e_aTItems, ↓e_aTIn, ↓e_aSortT, ↓e_dcTOf, ↓e_aDictT, ↓e_aDcR, ↓e_aOneR, ↓e_aPutI, ↓e_aSetI2, ↓e_aIAny, ↓e_aIsB, ↓e_aSortIt, ↓e_aListRg, ↓e_aLenSetT, ↓e_aSortSc, ↓e_aSortRowsT, ↓e_aLenSetI, ↓e_aParOO, ↓e_aCallX, ↓e_aRaise, ↓e_aTry, ↓e_aIsX, ↓e_aXf, ↓e_aSortRowsD, ↓e_aIenumT, ↓e_aCallPX, ↓e_aRaiseP, ↓e_aSortIT, ↓e_aMk, ↓e_aMkK, ↓e_aMkP, ↓e_aIzipS, ↓e_aIStr, ↓e_aDUpd, ↓e_aGGet, ↓e_aGIn, ↓e_aIenumA, ↓e_aLenSetS, ↓e_aLeS, ↓e_aInSg, ↓e_aSumI, ↓e_aSplit, ↓e_aUpper, ↓e_aCallD, ↓e_aRepN, ↓e_aListRg2, ↓e_aMulS, ↓e_aIsi3, ↓e_aLenTx, ↓e_aFld, ↓e_aSetF, ↓e_aMethO, ↓e_aMake, ↓e_aFz, ↓e_aIKeys, ↓e_aSDef, ↓e_aDcK, ↓e_aPar3O, ↓e_aMaxDf, ↓e_aSortTB, ↓e_aIdx, ↓e_aCount, ↓e_aIntS, ↓e_aPar5O, ↓e_aMaxT, ↓e_aPar3OO, ↓e_aOrD, ↓e_aTupRg, ↓e_aPar4O, ↓e_aLenSetIT, ↓e_aJSeq, ↓e_aJRev, ↓e_aForM, ↓e_aLenD, ↓e_aMinD, ↓e_aDPop, ↓e_aListRev, ↓e_aMinL, ↓e_aMinV, ↓e_aPutR, ↓e_aSetR2, ↓e_aUnpF, ↓e_aUnpSL, ↓e_aParO1, ↓e_aListIt, ↓e_aITKeys, ↓e_aListTK, ↓e_aCallXD, ↓e_aNNew, ↓e_aNGet, ↓e_aNPut, ↓e_dcNOf, ↓e_aDcN, ↓e_aIzipM, ↓e_aJoin, ↓e_aLcM, ↓e_aAugF, ↓e_aReplC, ↓e_aStrW, ↓e_aParG, ↓e_atN, ↓e_atL, ↓e_atD, ↓e_atF, ↓e_aListS, ↓e_aCol, ↓e_aAugFI, ↓e_aAugXI, ↓e_aIxS, ↓e_aNEnum, ↓e_aNZip, ↓e_aForN, ↓e_aLcN, ↓e_aRetN, ↓e_aIzipA, ↓e_aCntS, ↓e_aIxA, ↓e_aLenA, ↓e_aSeq, ↓e_aIsi, ↓e_kdOf, ↓isD, ↓e_aInT, ↓e_aRevL, ↓e_aMaxI, ↓e_aUnpS, ↓e_aLk, ↓e_aDNew, ↓e_aDisp, ↓e_apNil, ↓e_apCons, ↓e_aDGet, ↓e_aDGet2, ↓e_aDIn, ↓e_aDPut, ↓keyD, ↓e_dctOf, ↓e_cget, ↓e_cput, ↓e_aIItems, ↓e_aLItems, ↓e_aDictP, ↓e_aDictEnum, ↓e_aLast, ↓e_aLink, ↓e_aChainN, ↓e_agTL, ↓e_aUnp, ↓e_aVar, ↓e_aC, ↓e_aOp, ↓e_aI0, ↓e_aIC, ↓e_aEq, ↓e_aEqS, ↓e_aIn, ↓e_aIsN, ↓e_aIx, ↓e_aCat, ↓e_aRep, ↓e_aCatT, ↓e_aSl, ↓e_aON, ↓e_aOS, ↓e_aCall1, ↓e_aCall2, ↓e_aLen, ↓e_aAllB, ↓e_aTuple, ↓e_aList, ↓e_aAbs, ↓e_aInt, ↓e_aSortI, ↓e_aI3, ↓e_aCons, ↓e_aNil, ↓e_aTup, ↓e_aLst, ↓e_aTst, ↓e_aAnd, ↓e_aOr, ↓e_aNot, ↓e_aAndV, ↓e_aOrV, ↓e_aNotV, ↓e_aIfE, ↓e_aUn, ↓e_aNeg, ↓e_aChain, ↓e_aNext, ↓e_aBrk, ↓e_aCnt, ↓e_aDrop, ↓e_aRet, ↓e_aIfS, ↓e_aAsg, ↓e_aAsgF, ↓e_agN, ↓e_agNil, ↓e_agCons, ↓e_agT, ↓e_aPar, ↓e_aParO, ↓e_aSetI, ↓e_aAugI, ↓e_aAugL, ↓e_aMeth, ↓e_aMeth0, ↓e_amApp, ↓e_amExt, ↓e_amPop, ↓e_amPopAt, ↓e_amIns, ↓e_lget, ↓e_lput, ↓e_frz, ↓e_sqOf, ↓sqD, ↓Sq.ds, ↓e_dOf, ↓e_aCall, ↓e_aCallP, ↓e_aPar3, ↓e_aAugC, ↓e_aAugX, ↓e_aIzip, ↓e_aIrev, ↓e_aIenum, ↓permL, ↓e_aISeq, ↓e_aITup, ↓e_aRng1, ↓e_aRng2, ↓e_aFor, ↓e_aLc, ↓e_aYes, ↓e_aSh, ↓e_aShV, ↓e_aRepr, ↓e_aReprN, ↓wipeS, ↓ends_d, ↓ends_t, ↓ends_n, ↓id, size_val, Nat.zero_le, List.set_cons_zero, List.set_cons_succ, List.getElem?_cons_zero, List.getElem?_cons_succ, List.length_cons, List.length_nil, Option.isSome_some, not_true_eq_false, not_false_eq_true, true_and, and_true, ite_true, ite_false, Bool.false_eq_true, if_true, if_false, Bool.not_true, Bool.not_false, lk_self, lk_ne, at0, at1, at2, at3, at4, ix0, ix1, ix2, sx0, List.map_cons, List.map_nil, List.filterMap_cons, List.filterMap_nil, List.cons_append, List.nil_append, cmp_int, cmp_nil_l, cmp_nil_t, eqD_int, eqD_l00, eqD_l10, eqD_t00, eqD_t10])
local macro_rules | `(tactic| walk_at "gsx") => `(tactic| simp (config := { dsimp := false }) only [*, ↓e_aCatS, ↓e_aSlS, ↓e_aStr, ↓e_aEq0, ↓e_aLtT, ↓e_aSortSet, ↓e_aRepT, ↓e_aRevT, ↓e_aIB, ↓e_aStrB, ↓e_aEqL0, ↓e_aLc2, ↓e_aSortRows, ↓e_aTNew, ↓e_aTGet, ↓e_aTGet2, ↓e_aTPut, ↓e_aTItems, ↓e_aTIn, ↓e_aSortT, ↓e_dcTOf, ↓e_aDictT, ↓e_aDcR, ↓e_aOneR, ↓e_aPutI, ↓e_aSetI2, ↓e_aIAny, ↓e_aIsB, ↓e_aSortIt, ↓e_aListRg, ↓e_aLenSetT, ↓e_aSortSc, ↓e_aSortRowsT, ↓e_aLenSetI, ↓e_aParOO, ↓e_aCallX, ↓e_aRaise, ↓e_aTry, ↓e_aIsX, ↓e_aXf, ↓e_aSortRowsD, ↓e_aIenumT, ↓e_aCallPX, ↓e_aRaiseP, ↓e_aSortIT, ↓e_aMk, ↓e_aMkK, ↓e_aMkP, ↓e_aIzipS, ↓e_aIStr, ↓e_aDUpd, ↓e_aGGet, ↓e_aGIn, ↓e_aIenumA, ↓e_aLenSetS, ↓e_aLeS, ↓e_aInSg, ↓e_aSumI, ↓e_aSplit, ↓e_aUpper, ↓e_aCallD, ↓e_aRepN, ↓e_aListRg2, ↓e_aMulS, ↓e_aIsi3, ↓e_aLenTx, ↓e_aFld, ↓e_aSetF, ↓e_aMethO, ↓e_aMake, ↓e_aFz, ↓e_aIKeys, ↓e_aSDef, ↓e_aDcK, ↓e_aPar3O, ↓e_aMaxDf, ↓e_aSortTB, ↓e_aIdx, ↓e_aCount, ↓e_aIntS, ↓e_aPar5O, ↓e_aMaxT, ↓e_aPar3OO, ↓e_aOrD, ↓e_aTupRg, ↓e_aPar4O, ↓e_aLenSetIT, ↓e_aJSeq, ↓e_aJRev, ↓e_aForM, ↓e_aLenD, ↓e_aMinD, ↓e_aDPop, ↓e_aListRev, ↓e_aMinL, ↓e_aMinV, ↓e_aPutR, ↓e_aSetR2, ↓e_aUnpF, ↓e_aUnpSL, ↓e_aParO1, ↓e_aListIt, ↓e_aITKeys, ↓e_aListTK, ↓e_aCallXD, ↓e_aNNew, ↓e_aNGet, ↓e_aNPut, ↓e_dcNOf, ↓e_aDcN, ↓e_aIzipM, ↓e_aJoin, ↓e_aLcM, ↓e_aAugF, ↓e_aReplC, ↓e_aStrW, ↓e_aParG, ↓e_atN, ↓e_atL, ↓e_atD, ↓e_atF, ↓e_aListS, ↓e_aCol, ↓e_aAugFI, ↓e_aAugXI, ↓e_aIxS, ↓e_aNEnum, ↓e_aNZip, ↓e_aForN, ↓e_aLcN, ↓e_aRetN, ↓e_aIzipA, ↓e_aCntS, ↓e_aIxA, ↓e_aLenA, ↓e_aSeq, ↓e_aIsi, ↓e_kdOf, ↓isD, ↓e_aInT, ↓e_aRevL, ↓e_aMaxI, ↓e_aUnpS, ↓e_aLk, ↓e_aDNew, ↓e_aDisp, ↓e_apNil, ↓e_apCons, ↓e_aDGet, ↓e_aDGet2, ↓e_aDIn, ↓e_aDPut, ↓keyD, ↓e_dctOf, ↓e_cget, ↓e_cput, ↓e_aIItems, ↓e_aLItems, ↓e_aDictP, ↓e_aDictEnum, ↓e_aLast, ↓e_aLink, ↓e_aChainN, ↓e_agTL, ↓e_aUnp, ↓e_aVar, ↓e_aC, ↓e_aOp, ↓e_aI0, ↓e_aIC, ↓e_aEq, ↓e_aEqS, ↓e_aIn, ↓e_aIsN, ↓e_aIx, ↓e_aCat, ↓e_aRep, ↓e_aCatT, ↓e_aSl, ↓e_aON, ↓e_aOS, ↓e_aCall1, ↓e_aCall2, ↓e_aLen, ↓e_aAllB, ↓e_aTuple, ↓e_aList, ↓e_aAbs, ↓e_aInt, ↓e_aSortI, ↓e_aI3, ↓e_aCons, ↓e_aNil, ↓e_aTup, ↓e_aLst, ↓e_aTst, ↓e_aAnd, ↓e_aOr, ↓e_aNot, ↓e_aAndV, ↓e_aOrV, ↓e_aNotV, ↓e_aIfE, ↓e_aUn, ↓e_aNeg, ↓e_aChain, ↓e_aNext, ↓e_aBrk, ↓e_aCnt, ↓e_aDrop, ↓e_aRet, ↓e_aIfS, ↓e_aAsg, ↓e_aAsgF, ↓e_agN, ↓e_agNil, ↓e_agCons, ↓e_agT, ↓e_aPar, ↓e_aParO, ↓e_aSetI, ↓e_aAugI, ↓e_aAugL, ↓e_aMeth, ↓e_aMeth0, ↓e_amApp, ↓e_amExt, ↓e_amPop, ↓e_amPopAt, ↓e_amIns, ↓e_lget, ↓e_lput, ↓e_frz, ↓e_sqOf, ↓sqD, ↓Sq.ds, ↓e_dOf, ↓e_aCall, ↓e_aCallP, ↓e_aPar3, ↓e_aAugC, ↓e_aAugX, ↓e_aIzip, ↓e_aIrev, ↓e_aIenum, ↓permL, ↓e_aISeq, ↓e_aITup, ↓e_aRng1, ↓e_aRng2, ↓e_aFor, ↓e_aLc, ↓e_aYes, ↓e_aSh, ↓e_aShV, ↓e_aRepr, ↓e_aReprN, ↓wipeS, ↓ends_d, ↓ends_t, ↓ends_n, ↓id, size_val, Nat.zero_le, List.set_cons_zero, List.set_cons_succ, List.getElem?_cons_zero, List.getElem?_cons_succ, List.length_cons, List.length_nil, Option.isSome_some, not_true_eq_false, not_false_eq_true, true_and, and_true, ite_true, ite_false, Bool.false_eq_true, if_true, if_false, Bool.not_true, Bool.not_false, lk_self, lk_ne, at0, at1, at2, at3, at4, ix0, ix1, ix2, sx0, List.map_cons, List.map_nil, List.filterMap_cons, List.filterMap_nil, List.cons_append, List.nil_append, cmp_int, cmp_nil_l, cmp_nil_t, eqD_int, eqD_l00, eqD_l10, eqD_t00, eqD_t10, Nat.zero_add, Nat.reduceAdd, Nat.reduceSub, Nat.reduceLeDiff, Nat.reduceLT, List.take_succ_cons, List.take_zero, List.drop_succ_cons, List.drop_zero])
local macro_rules | `(tactic| walk_at "sz") => `(tactic| simp only [Nat.zero_add, Nat.reduceAdd, Nat.reduceLT, Nat.reduceLeDiff, List.length_append, List.length_cons, List.length_nil, true_and, and_true])
theorem hp_lk {P : Mem} {a : Addr} {M0 : Mem} (h : a ∉ dom P) (g s : Int) : (HP P a g s M0).lookup a = some (.lst [.int g, .int s]) := by
  unfold HP
  induction P with
  | nil => simp [List.lookup]
  | cons q P ih =>
    have n1 : a ≠ q.1 := fun e => h (by rw [e]; exact List.mem_cons_self)
    have n2 : a ∉ dom P := fun e => h (List.mem_cons_of_mem _ e)
    rw [List.cons_append, List.lookup_cons, show (a == q.1) = false from by simpa using n1]
    exact ih n2
theorem mput_no {M : Mem} {a : Addr} {c : Cell} (h : a ∉ dom M) : mput M a c = M := by
  unfold mput
  refine (List.map_congr_left fun x hx => ?_).trans (List.map_id _)
  rw [if_neg fun e => h (by rw [← e]; exact List.mem_map_of_mem hx)]
  rfl
theorem hp_put {P : Mem} {a : Addr} {M0 : Mem} (h : HA P a M0) (g s x y : Int) : mput (HP P a g s M0) a (.lst [.int x, .int y]) = HP P a x y M0 := by
  unfold HP
  have e : mput (P ++ (a, Cell.lst [.int g, .int s]) :: M0) a (.lst [.int x, .int y]) = mput P a (.lst [.int x, .int y]) ++ mput ((a, Cell.lst [.int g, .int s]) :: M0) a (.lst [.int x, .int y]) := List.map_append
  rw [e, mput_no h.p, mput_self h.m]
theorem div_w {i j : Int} (h0 : 0 < j) (h1 : j < 2 ^ 900) : CDivW i j := ⟨h0, by
  have : j.natAbs < 2 ^ 900 := by omega
  have h2 : j.natAbs.log2 < 900 := (Nat.log2_lt (by omega)).mpr this
  omega⟩
theorem rd__law_take : ∀ ds M Q, S__law_take ds M Q → as__law_take (endsOf Q) (slots N__law_take.length ds) M := by
  rintro ds M Q ⟨P, a, g, s, M0, m, rfl, rfl, ha, hs, m0, m1, h⟩
  show as__law_take (endsOf Q) [.dat _, .dat _, .non] _
  have hm : m ≠ 0 := by omega
  have dv : ∀ i, CDivW i m := fun i => div_w m0 (by omega)
  have put := hp_put ha
  have lk := hp_lk (M0 := M0) ha.p
  unfold as__law_take
  by_cases hg : 0 < g
  · walk_at "gwx"
    simp only [decide_true, if_true]
    refine ⟨hm, ?_⟩
    exact h _ _ _ (fmod_lo m0) (fmod_hi m0) ⟨hs.s0, hs.s1⟩
  · walk_at "gwx"
    simp only [decide_false, Bool.false_eq_true, if_false]
    unfold as__law_take_t1
    walk_at "gwx"
    have q0 := fmod_lo (a := s * 1181783497276652981 + 12345678910987) (b := 2305843009213693951) (by decide)
    have q1 := fmod_hi (a := s * 1181783497276652981 + 12345678910987) (b := 2305843009213693951) (by decide)
    have r0 := fmod_lo (a := (s * 1181783497276652981 + 12345678910987).fmod 2305843009213693951) (b := 65537) (by decide)
    have r1 := fmod_hi (a := (s * 1181783497276652981 + 12345678910987).fmod 2305843009213693951) (b := 65537) (by decide)
    refine ⟨mul_r (by decide) (by decide), by decide, div_ok (by decide) (by decide), by decide, mul_r (by omega) (by omega), by decide, div_ok (by decide) (by decide), hm, ?_⟩
    exact h _ _ _ (fmod_lo m0) (fmod_hi m0) ⟨q0, q1⟩
theorem rd__law_hand : ∀ ds M Q, S__law_hand ds M Q → as__law_hand (endsOf Q) (slots N__law_hand.length ds) M := by
  rintro ds M Q ⟨ns, k, rfl, k0, k1, h⟩
  show as__law_hand (endsOf Q) [.dat _, .dat _, .non, .non] _
  have rest : ∀ c : Int, as__law_hand_t1 (endsOf Q) [.dat (.scr (ns.map .int)), .dat (.int k), .dat (.int c), .non] M := by
    intro c
    unfold as__law_hand_t1
    walk_at "gw"
    refine ⟨by unfold CPowW; decide, by unfold CPowW; decide, by decide, by unfold CPowW; decide, mul_r (by (repeat' split) <;> omega) (by (repeat' split) <;> omega), by decide, mul_l (by decide) (by decide), mul_r (by omega) (by omega), mul_r (by decide) (by decide), by decide, by decide, fun p hp => ?_⟩
    exact h _ _ _ hp ⟨fmod_lo (by decide), fmod_hi (by decide)⟩
  unfold as__law_hand
  walk_at "gw"
  refine ⟨mul_l (by decide) (by decide), ?_⟩
  by_cases hk : k < ((ns.map D.int).length : Int)
  · obtain ⟨d, e1, e2⟩ := atI_in (xs := ns.map D.int) k0 hk
    rw [List.getElem?_map, Option.map_eq_some_iff] at e2
    obtain ⟨c, _, rfl⟩ := e2
    simp only [hk, decide_true, if_true, e1]
    exact rest c
  · simp only [hk, decide_false, Bool.false_eq_true, if_false]
    exact rest _
theorem mul_w {i j : Int} (h0 : i.natAbs < 2 ^ 2000) (h1 : j.natAbs < 2 ^ 2000) : CM i j := .inr (by
  unfold CMulW
  have l : ∀ n : Nat, n < 2 ^ 2000 → n.log2 < 2000 := fun n h => by
    by_cases e : n = 0
    · subst e; decide
    · exact (Nat.log2_lt e).mpr h
  have := l _ h0
  have := l _ h1
  omega)

theorem Z4.eq {x y : Z4} (h1 : x.a = y.a) (h2 : x.b = y.b) (h3 : x.c = y.c) (h4 : x.d = y.d) : x = y := by
  cases x; cases y; simp at *; exact ⟨h1, h2, h3, h4⟩
instance : Add Z4 := ⟨Z4.add⟩
instance : Mul Z4 := ⟨Z4.mul⟩
instance : Neg Z4 := ⟨fun x => ⟨-x.a, -x.b, -x.c, -x.d⟩⟩
instance : Sub Z4 := ⟨fun x y => ⟨x.a - y.a, x.b - y.b, x.c - y.c, x.d - y.d⟩⟩
instance : NatCast Z4 := ⟨fun n => ⟨n, 0, 0, 0⟩⟩
instance : IntCast Z4 := ⟨fun n => ⟨n, 0, 0, 0⟩⟩
instance z4n (n : Nat) : OfNat Z4 n := ⟨⟨n, 0, 0, 0⟩⟩
instance : SMul Nat Z4 := ⟨fun n x => Z4.mul ⟨n, 0, 0, 0⟩ x⟩
instance : SMul Int Z4 := ⟨fun n x => Z4.mul ⟨n, 0, 0, 0⟩ x⟩
def Z4.pow (x : Z4) : Nat → Z4
  | 0 => ⟨1, 0, 0, 0⟩
  | n + 1 => Z4.mul (Z4.pow x n) x
instance : HPow Z4 Nat Z4 := ⟨Z4.pow⟩
theorem Z4.add_d (x y : Z4) : x + y = ⟨x.a + y.a, x.b + y.b, x.c + y.c, x.d + y.d⟩ := rfl
theorem Z4.mul_d (x y : Z4) : x * y = ⟨x.a * y.a - x.b * y.d - x.c * y.c - x.d * y.b, x.a * y.b + x.b * y.a - x.c * y.d - x.d * y.c, x.a * y.c + x.b * y.b + x.c * y.a - x.d * y.d, x.a * y.d + x.b * y.c + x.c * y.b + x.d * y.a⟩ := rfl
theorem Z4.neg_d (x : Z4) : -x = ⟨-x.a, -x.b, -x.c, -x.d⟩ := rfl
theorem Z4.sub_d (x y : Z4) : x - y = ⟨x.a - y.a, x.b - y.b, x.c - y.c, x.d - y.d⟩ := rfl
theorem Z4.zero_d : (0 : Z4) = ⟨0, 0, 0, 0⟩ := rfl
theorem Z4.one_d : (1 : Z4) = ⟨1, 0, 0, 0⟩ := rfl
instance : Lean.Grind.CommRing Z4 where
  add_zero x := by apply Z4.eq <;> simp only [Z4.add_d, Z4.zero_d] <;> grind
  add_comm x y := by apply Z4.eq <;> simp only [Z4.add_d] <;> grind
  add_assoc x y z := by apply Z4.eq <;> simp only [Z4.add_d] <;> grind
  mul_assoc x y z := by apply Z4.eq <;> simp only [Z4.mul_d] <;> grind
  mul_comm x y := by apply Z4.eq <;> simp only [Z4.mul_d] <;> grind
  mul_one x := by apply Z4.eq <;> simp only [Z4.mul_d, Z4.one_d] <;> grind
  one_mul x := by apply Z4.eq <;> simp only [Z4.mul_d, Z4.one_d] <;> grind
  mul_zero x := by apply Z4.eq <;> simp only [Z4.mul_d, Z4.zero_d] <;> grind
  right_distrib x y z := by apply Z4.eq <;> simp only [Z4.mul_d, Z4.add_d] <;> grind
  left_distrib x y z := by apply Z4.eq <;> simp only [Z4.mul_d, Z4.add_d] <;> grind
  zero_mul x := by apply Z4.eq <;> simp only [Z4.mul_d, Z4.zero_d] <;> grind
  pow_zero x := rfl
  pow_succ x n := rfl
  ofNat_succ n := by
    show (⟨((n + 1 : Nat) : Int), 0, 0, 0⟩ : Z4) = (⟨(n : Int), 0, 0, 0⟩ : Z4) + ⟨((1 : Nat) : Int), 0, 0, 0⟩
    apply Z4.eq <;> simp only [Z4.add_d] <;> omega
  neg_add_cancel x := by apply Z4.eq <;> simp only [Z4.add_d, Z4.neg_d, Z4.zero_d] <;> grind
  sub_eq_add_neg x y := by apply Z4.eq <;> simp only [Z4.add_d, Z4.neg_d, Z4.sub_d] <;> grind
  neg_zsmul i x := by
    show Z4.mul _ _ = - Z4.mul _ _
    apply Z4.eq <;> simp only [Z4.mul, Z4.neg_d] <;> grind
  intCast_neg i := by
    show (⟨-i, 0, 0, 0⟩ : Z4) = - ⟨i, 0, 0, 0⟩
    apply Z4.eq <;> simp only [Z4.neg_d] <;> omega
theorem pow_le {i j : Nat} (h : i ≤ j) : (2 : Int) ^ i ≤ 2 ^ j := by
  have := Nat.pow_le_pow_right (n := 2) (by decide) h
  have e : ∀ n : Nat, ((2 ^ n : Nat) : Int) = (2 : Int) ^ n := fun n => by rw [Int.natCast_pow]; rfl
  rw [← e, ← e]; exact Int.ofNat_le.mpr this
theorem pow_pos' (n : Nat) : (0 : Int) < 2 ^ n := Int.pow_pos (by decide)
theorem abs_lt {z : Int} {n k : Nat} (h0 : -(2 ^ n) ≤ z) (h1 : z ≤ 2 ^ n) (h : n < k) : z.natAbs < 2 ^ k := by
  have e : ((2 ^ k : Nat) : Int) = (2 : Int) ^ k := by rw [Int.natCast_pow]; rfl
  have h2 : (2 : Int) ^ n * 2 ≤ 2 ^ k := by rw [← Int.pow_succ]; exact pow_le h
  have h3 := pow_pos' n
  omega
theorem Z4.B.mono {x : Z4} {n k : Nat} (h : x.B n) (hk : n ≤ k) : x.B k := by
  have := pow_le hk
  constructor <;> first | exact Int.le_trans (Int.neg_le_neg this) (by first | exact h.a0 | exact h.b0 | exact h.c0 | exact h.d0) | exact Int.le_trans (by first | exact h.a1 | exact h.b1 | exact h.c1 | exact h.d1) this
theorem Z4.B.m {x : Z4} {n : Nat} (h : x.B n) : x.m.B (n + 1) := by
  obtain ⟨a0, a1, b0, b1, c0, c1, d0, d1⟩ := h
  have e : (2 : Int) ^ (n + 1) = 2 ^ n * 2 := Int.pow_succ ..
  constructor <;> dsimp only [Z4.m] <;> rw [e] <;> omega
theorem Z4.B.mp {x : Z4} : ∀ {k n : Nat}, x.B n → (Z4.mp k x).B (n + k)
  | 0, n, h => h
  | k + 1, n, h => by
    show (Z4.mp k x.m).B (n + (k + 1))
    rw [show n + (k + 1) = n + 1 + k by omega]
    exact Z4.B.mp h.m
theorem Z4.low_stop {k : Nat} {x : Z4} (h : ¬ (0 < k ∧ x.ev = true)) : Z4.low k x = (x, k) := by
  cases k with
  | zero => rfl
  | succ k => unfold Z4.low; rw [if_neg]; intro e; exact h ⟨Nat.succ_pos k, e⟩
theorem rt_mod (j : Int) : ∃ n : Nat, (j.fmod 8).toNat = n ∧ n < 8 ∧ j.fmod 8 = n := by
  have h0 := fmod_lo (a := j) (b := 8) (by decide)
  have h1 := fmod_hi (a := j) (b := 8) (by decide)
  exact ⟨_, rfl, by omega, by omega⟩
theorem rd_can_be_less : ∀ ds M Q, S_can_be_less ds M Q → as_can_be_less (endsOf Q) (slots N_can_be_less.length ds) M := by
  rintro ds M Q ⟨x, rfl, h⟩
  show as_can_be_less (endsOf Q) [.dat _, .dat _, .dat _, .dat _] _
  unfold as_can_be_less
  walk_at "gw"
  unfold Z4.ev at h
  refine ⟨by decide, ?_⟩
  by_cases e : (x.a + x.c).fmod 2 = 0
  · simp only [e, decide_true, Bool.true_and, if_true] at h ⊢
    exact ⟨by decide, h⟩
  · simp only [e, decide_false, Bool.false_and, Bool.false_eq_true, if_false] at h ⊢
    exact h
theorem rd_lowest : ∀ ds M Q, S_lowest ds M Q → as_lowest (endsOf Q) (slots N_lowest.length ds) M := by
  rintro ds M Q ⟨x, k, rfl, h⟩
  show as_lowest (endsOf Q) [.dat _, .dat _, .dat _, .dat _, .dat _] _
  unfold as_lowest
  have rest : x ≠ Z4.zero → as_lowest_t2 (endsOf Q) [.dat (.int x.a), .dat (.int x.b), .dat (.int x.c), .dat (.int x.d), .dat (.int k)] M := by
    intro hx
    unfold Low at h
    rw [if_neg hx] at h
    unfold as_lowest_t2
    simp only [aSeq]
    refine ⟨fun n Γ M' => ∃ (y : Z4), Z4.low k x = Z4.low n y ∧ Γ = [.dat (.int y.a), .dat (.int y.b), .dat (.int y.c), .dat (.int y.d), .dat (.int (n : Int))] ∧ M' = M, ⟨k, x, rfl, rfl, rfl⟩, ?_⟩
    rintro n Γ M' ⟨y, e, rfl, rfl⟩
    have fin : ¬ (0 < n ∧ y.ev = true) → as_lowest_t1 (endsOf Q) [.dat (.int y.a), .dat (.int y.b), .dat (.int y.c), .dat (.int y.d), .dat (.int (n : Int))] M' := by
      intro hn
      rw [e, Z4.low_stop hn] at h
      unfold as_lowest_t1
      walk_at "gw"
      exact ⟨by decide, h⟩
    unfold as_lowest_c1
    walk_at "gw"
    by_cases hn : 0 < n
    · have hn' : (0 : Int) < n := by omega
      simp only [hn', decide_true, if_true]
      refine ⟨y, rfl, ?_⟩
      walk_at "gw"
      by_cases hy : y.ev = true
      · simp only [hy, if_true]
        unfold as_lowest_b1
        walk_at "gw"
        have dv : ∀ i : Int, CDivW i 2 := fun i => div_ok (by decide) (by decide)
        refine ⟨dv _, dv _, dv _, dv _, by decide, n - 1, by omega, y.hf, ?_, ?_⟩
        · rw [e]
          obtain ⟨n', rfl⟩ : ∃ n', n = n' + 1 := ⟨n - 1, by omega⟩
          show (if y.ev = true then _ else _) = _
          rw [if_pos hy]; rfl
        · rw [show ((n - 1 : Nat) : Int) = (n : Int) - 1 by omega]; rfl
      · simp only [hy, Bool.false_eq_true, if_false]
        exact fin fun z => hy z.2
    · have hn' : ¬ (0 : Int) < n := by omega
      simp only [hn', decide_false, Bool.false_eq_true, if_false]
      exact fin fun z => hn z.1
  walk_at "gw"
  by_cases e1 : x.a = x.b
  · by_cases e2 : x.b = x.c
    · by_cases e3 : x.c = x.d
      · by_cases e4 : x.d = 0
        · have hx : x = Z4.zero := Z4.eq (by rw [e1, e2, e3, e4]; rfl) (by rw [e2, e3, e4]; rfl) (by rw [e3, e4]; rfl) (by rw [e4]; rfl)
          unfold Low at h
          rw [if_pos hx] at h
          simp only [e1, e2, e3, e4, decide_true, if_true]
          exact h
        · simp only [e1, e2, e3, e4, decide_true, decide_false, Bool.false_eq_true, if_false, if_true]
          have := rest (fun z => e4 (by rw [z]; rfl))
          simpa only [e1, e2, e3] using this
      · simp only [e1, e2, e3, decide_true, decide_false, Bool.false_eq_true, if_false, if_true]
        have := rest (fun z => e3 (by rw [z]; rfl))
        simpa only [e1, e2] using this
    · simp only [e1, e2, decide_true, decide_false, Bool.false_eq_true, if_false, if_true]
      have := rest (fun z => e2 (by rw [z]; rfl))
      simpa only [e1] using this
  · simp only [e1, decide_false, Bool.false_eq_true, if_false]
    exact rest (fun z => e1 (by rw [z]; rfl))
theorem natAbs_le {z : Int} {n : Nat} (h0 : -(2 ^ n) ≤ z) (h1 : z ≤ 2 ^ n) (hn : n < 2000) : z.natAbs < 2 ^ 2000 := abs_lt h0 h1 hn
theorem natAbs_pow {q : Nat} (hq : q < 2000) : ((2 : Int) ^ q).natAbs < 2 ^ 2000 := abs_lt (n := q) (by have := pow_pos' q; omega) (Int.le_refl _) hq
theorem Z4.B.cm {x : Z4} {n q : Nat} (h : x.B n) (hn : n < 2000) (hq : q < 2000) : CM (2 ^ q) x.a ∧ CM (2 ^ q) x.b ∧ CM (2 ^ q) x.c ∧ CM (2 ^ q) x.d :=
  ⟨mul_w (natAbs_pow hq) (natAbs_le h.a0 h.a1 hn), mul_w (natAbs_pow hq) (natAbs_le h.b0 h.b1 hn), mul_w (natAbs_pow hq) (natAbs_le h.c0 h.c1 hn), mul_w (natAbs_pow hq) (natAbs_le h.d0 h.d1 hn)⟩
theorem Z4.B.nat {x : Z4} {n : Nat} (h : x.B n) (hn : n < 2000) : x.a.natAbs < 2 ^ 2000 ∧ x.b.natAbs < 2 ^ 2000 ∧ x.c.natAbs < 2 ^ 2000 ∧ x.d.natAbs < 2 ^ 2000 :=
  ⟨natAbs_le h.a0 h.a1 hn, natAbs_le h.b0 h.b1 hn, natAbs_le h.c0 h.c1 hn, natAbs_le h.d0 h.d1 hn⟩
theorem rd_times : ∀ ds M Q, S_times ds M Q → as_times (endsOf Q) (slots N_times.length ds) M := by
  rintro ds M Q ⟨x, y, k, l, rfl, hx, hy, h⟩
  show as_times (endsOf Q) [.dat (.tup [_, _, _, _, _]), .dat (.tup [_, _, _, _, _]), .non, .non, .non, .non, .non, .non, .non, .non, .non, .non] _
  obtain ⟨x1, x2, x3, x4⟩ := hx.nat (by decide)
  obtain ⟨y1, y2, y3, y4⟩ := hy.nat (by decide)
  unfold as_times
  walk_at "gw"
  refine ⟨mul_w x1 y1, mul_w x2 y4, mul_w x3 y3, mul_w x4 y2, mul_w x1 y2, mul_w x2 y1, mul_w x3 y4, mul_w x4 y3, mul_w x1 y3, mul_w x2 y2, mul_w x3 y1, mul_w x4 y4, mul_w x1 y4, mul_w x2 y3, mul_w x3 y2, mul_w x4 y1, ?_⟩
  exact ⟨Z4.mul x y, k + l, rfl, h⟩
theorem rd_root : ∀ ds M Q, S_root ds M Q → as_root (endsOf Q) (slots N_root.length ds) M := by
  rintro ds M Q ⟨j, rfl, h⟩
  show as_root (endsOf Q) [.dat _, .non] _
  obtain ⟨n, e, hn, e2⟩ := rt_mod j
  rw [e] at h
  have e4 : j.fmod 4 = ((n % 4 : Nat) : Int) := by
    rw [Int.fmod_eq_emod_of_nonneg _ (by decide)] at e2 ⊢; omega
  unfold as_root
  walk_at "gw"
  simp only [e2, e4]
  refine ⟨by decide, by decide, ?_⟩
  have cases8 : n = 0 ∨ n = 1 ∨ n = 2 ∨ n = 3 ∨ n = 4 ∨ n = 5 ∨ n = 6 ∨ n = 7 := by omega
  rcases cases8 with e | e | e | e | e | e | e | e <;> subst e
  · rw [if_pos (by decide)]; exact ⟨by decide, by decide, h⟩
  · rw [if_pos (by decide)]; exact ⟨by decide, by decide, h⟩
  · rw [if_pos (by decide)]; exact ⟨by decide, by decide, h⟩
  · rw [if_pos (by decide)]; exact ⟨by decide, by decide, h⟩
  · rw [if_neg (by decide)]; exact ⟨by decide, by decide, h⟩
  · rw [if_neg (by decide)]; exact ⟨by decide, by decide, h⟩
  · rw [if_neg (by decide)]; exact ⟨by decide, by decide, h⟩
  · rw [if_neg (by decide)]; exact ⟨by decide, by decide, h⟩

def addKV : List (Int × Int) → Int → Int → List (Int × Int)
  | [], k, z => [(k, z)]
  | p :: kv, k, z => if p.1 = k then (k, p.2 + z) :: kv else p :: addKV kv k z
theorem keys_add (kv : List (Int × Int)) (k z : Int) : ∀ j, j ∈ (addKV kv k z).map (·.1) → j = k ∨ j ∈ kv.map (·.1) := by
  induction kv with
  | nil => intro j h; simp [addKV] at h; exact .inl h
  | cons p kv ih =>
    intro j h
    rw [addKV] at h
    split at h
    · rename_i e
      rw [List.map_cons, List.mem_cons] at h
      rcases h with h | h
      · exact .inl h
      · exact .inr (List.mem_cons_of_mem _ h)
    · rw [List.map_cons, List.mem_cons] at h
      rcases h with h | h
      · exact .inr (by rw [List.map_cons, h]; exact List.mem_cons_self)
      · rcases ih j h with h | h
        · exact .inl h
        · exact .inr (List.mem_cons_of_mem _ h)
theorem nd_add (kv : List (Int × Int)) (k z : Int) (h : (kv.map (·.1)).Nodup) : ((addKV kv k z).map (·.1)).Nodup := by
  induction kv with
  | nil => simp [addKV]
  | cons p kv ih =>
    rw [List.map_cons, List.nodup_cons] at h
    rw [addKV]
    split
    · rename_i e
      rw [List.map_cons, List.nodup_cons]; exact ⟨e ▸ h.1, h.2⟩
    · rename_i e
      rw [List.map_cons, List.nodup_cons]
      refine ⟨fun q => ?_, ih h.2⟩
      rcases keys_add kv k z _ q with q | q
      · exact e q
      · exact h.1 q
theorem W.add {kv : List (Int × Int)} {k z : Int} (h : W kv) (h0 : 0 ≤ k) (h1 : k < 8) : W (addKV kv k z) := ⟨nd_add kv k z h.nd, fun p hp => by
  rcases keys_add kv k z p.1 (List.mem_map.mpr ⟨p, hp, rfl⟩) with e | e
  · rw [e]; exact ⟨h0, h1⟩
  · obtain ⟨q, q1, q2⟩ := List.mem_map.mp e
    have := h.r q q1
    rw [← (show q.1 = p.1 from q2)]; exact this⟩
theorem W.nil : W [] := ⟨by simp, by simp⟩
theorem W.tail {p : Int × Int} {kv : List (Int × Int)} (h : W (p :: kv)) : W kv := ⟨(List.nodup_cons.mp h.nd).2, fun q hq => h.r q (List.mem_cons_of_mem _ hq)⟩
theorem fmod2 (i : Int) : i.fmod 2 = i % 2 := Int.fmod_eq_emod_of_nonneg _ (by decide)
theorem Z4.B.hf {x : Z4} {n : Nat} (h : x.B n) : x.hf.B n := by
  obtain ⟨a0, a1, b0, b1, c0, c1, d0, d1⟩ := h
  constructor <;> dsimp only [Z4.hf] <;> omega
theorem low_odd : ∀ {k : Nat} {x : Z4}, 0 < (Z4.low k x).2 → (Z4.low k x).1.ev = false
  | 0, x, h => absurd h (Nat.lt_irrefl 0)
  | k + 1, x, h => by
    unfold Z4.low at h ⊢
    split
    · rename_i e; rw [if_pos e] at h; exact low_odd h
    · rename_i e; simpa using e
theorem sq_le {a b : Int} (h0 : 0 ≤ a) (h : a ≤ b) : a * a ≤ b * b := Int.mul_le_mul h h h0 (by omega)
theorem sq_add (a c : Int) : (a + c) * (a + c) = a * a + 2 * (a * c) + c * c := by rw [Int.add_mul, Int.mul_add, Int.mul_add, Int.mul_comm c a]; omega
theorem sq_lt {a b : Int} (h0 : 0 ≤ a) (h : a < b) : a * a < b * b := by
  have h1 := sq_le (a := a + 1) (b := b) (by omega) (by omega)
  rw [sq_add] at h1
  omega
theorem cross_le {a b c d : Int} (b0 : 0 ≤ b) (d0 : 0 ≤ d) (h1 : a * a ≤ 2 * (b * b)) (h2 : c * c ≤ 2 * (d * d)) : a * c ≤ 2 * (b * d) := by
  apply Decidable.byContradiction
  intro hn
  have bd := Int.mul_nonneg b0 d0
  have h3 := sq_lt (a := 2 * (b * d)) (b := a * c) (by omega) (by omega)
  have e1 : a * c * (a * c) = a * a * (c * c) := by rw [Int.mul_assoc, Int.mul_left_comm c a c, ← Int.mul_assoc]
  have e2 : 2 * (b * d) * (2 * (b * d)) = 2 * (b * b) * (2 * (d * d)) := by
    simp only [Int.mul_comm, Int.mul_left_comm, Int.mul_assoc]
  have c0 : 0 ≤ c * c := by
    rcases Int.le_total 0 c with h | h
    · exact Int.mul_nonneg h h
    · exact Int.mul_nonneg_of_nonpos_of_nonpos h h
  have bb := Int.mul_nonneg b0 b0
  have h4 : a * a * (c * c) ≤ 2 * (b * b) * (2 * (d * d)) := Int.mul_le_mul h1 h2 c0 (by omega)
  omega
theorem cross_ge {a b c d : Int} (a0 : 0 ≤ a) (b0 : 0 ≤ b) (c0 : 0 ≤ c) (d0 : 0 ≤ d) (h1 : 2 * (b * b) ≤ a * a) (h2 : 2 * (d * d) ≤ c * c) : 2 * (b * d) ≤ a * c := by
  apply Decidable.byContradiction
  intro hn
  have ac := Int.mul_nonneg a0 c0
  have h3 := sq_lt (a := a * c) (b := 2 * (b * d)) ac (by omega)
  have e1 : a * c * (a * c) = a * a * (c * c) := by rw [Int.mul_assoc, Int.mul_left_comm c a c, ← Int.mul_assoc]
  have e2 : 2 * (b * d) * (2 * (b * d)) = 2 * (b * b) * (2 * (d * d)) := by
    simp only [Int.mul_comm, Int.mul_left_comm, Int.mul_assoc]
  have bb := Int.mul_nonneg b0 b0
  have dd := Int.mul_nonneg d0 d0
  have aa := Int.mul_nonneg a0 a0
  have h4 : 2 * (b * b) * (2 * (d * d)) ≤ a * a * (c * c) := Int.mul_le_mul h1 h2 (by omega) aa
  omega
theorem s1 {a b c d : Int} (b0 : 0 ≤ b) (d0 : 0 ≤ d) (h1 : a * a ≤ 2 * (b * b)) (h2 : c * c < 2 * (d * d)) : (a + c) * (a + c) < 2 * ((b + d) * (b + d)) := by
  have := cross_le b0 d0 h1 (Int.le_of_lt h2)
  rw [sq_add, sq_add]; omega
theorem s2 {a b c d : Int} (a0 : 0 ≤ a) (b0 : 0 ≤ b) (c0 : 0 ≤ c) (d0 : 0 ≤ d) (h1 : 2 * (b * b) ≤ a * a) (h2 : 2 * (d * d) < c * c) : 2 * ((b + d) * (b + d)) < (a + c) * (a + c) := by
  have := cross_ge a0 b0 c0 d0 h1 (Int.le_of_lt h2)
  rw [sq_add, sq_add]; omega
theorem ev {p x : Int} (h : p * p = 2 * x) : ∃ m, p = 2 * m := by
  refine ⟨p / 2, ?_⟩
  apply Decidable.byContradiction
  intro hn
  have e : p = 2 * (p / 2) + 1 := by omega
  generalize p / 2 = m at e
  subst e
  rw [sq_add] at h
  have : 2 * m * (2 * m) = 2 * (2 * (m * m)) := by simp only [Int.mul_comm, Int.mul_left_comm, Int.mul_assoc]
  omega
theorem irr : ∀ (n : Nat) (p q : Int), q.natAbs ≤ n → p * p = 2 * (q * q) → q = 0
  | 0, p, q, h, _ => by omega
  | n + 1, p, q, h, e => by
    obtain ⟨m, rfl⟩ := ev e
    have e1 : 2 * m * (2 * m) = 2 * (2 * (m * m)) := by simp only [Int.mul_comm, Int.mul_left_comm, Int.mul_assoc]
    have e2 : q * q = 2 * (m * m) := by omega
    obtain ⟨l, rfl⟩ := ev e2
    have e3 : 2 * l * (2 * l) = 2 * (2 * (l * l)) := by simp only [Int.mul_comm, Int.mul_left_comm, Int.mul_assoc]
    have e4 : m * m = 2 * (l * l) := by omega
    by_cases hl : l = 0
    · omega
    · have := irr n m l (by omega) e4; omega
inductive Pz (p q : Int) : Prop
  | both (a : 0 ≤ p) (b : 0 ≤ q) (c : 0 < p ∨ 0 < q)
  | left (a : 0 < p) (b : q < 0) (c : 2 * (q * q) < p * p)
  | right (a : p < 0) (b : 0 < q) (c : p * p < 2 * (q * q))
theorem sq2_iq2 : sq2 * iq2 = 1 := by apply Q4.eq <;> simp only [sq2, iq2, Q4.mul_d, Q4.one_d] <;> grind
theorem ofZ_m (x : Z4) : ofZ x.m = ofZ x * sq2 := by
  apply Q4.eq <;> simp only [ofZ, Q4.mul_d, Z4.m, sq2] <;> grind
theorem ofZ_zero : ofZ Z4.zero = 0 := by apply Q4.eq <;> simp [ofZ, Z4.zero, Q4.zero_d]
theorem ofZ_inj {x y : Z4} (h : ofZ x = ofZ y) : x = y := by
  have h1 := congrArg Q4.a h
  have h2 := congrArg Q4.b h
  have h3 := congrArg Q4.c h
  have h4 := congrArg Q4.d h
  simp only [ofZ] at h1 h2 h3 h4
  exact Z4.eq (by exact_mod_cast h1) (by exact_mod_cast h2) (by exact_mod_cast h3) (by exact_mod_cast h4)
theorem VL_m (x : Z4) (k : Nat) : VL x.m (k + 1) = VL x k := by
  unfold VL
  rw [ofZ_m, Lean.Grind.Semiring.pow_succ]
  have := sq2_iq2
  grind
theorem VL_mp (n : Nat) : ∀ (x : Z4) (k : Nat), VL (Z4.mp n x) (k + n) = VL x k := by
  induction n with
  | zero => intro x k; rfl
  | succ n ih => intro x k; show VL (Z4.mp n x.m) (k + (n + 1)) = _; rw [show k + (n + 1) = k + 1 + n by omega, ih, VL_m]
theorem hf_m {x : Z4} (h : x.ev = true) : x.hf.m = x := by
  unfold Z4.ev at h
  rw [Bool.and_eq_true, decide_eq_true_eq, decide_eq_true_eq, Int.fmod_eq_emod_of_nonneg _ (by decide), Int.fmod_eq_emod_of_nonneg _ (by decide)] at h
  apply Z4.eq <;> simp only [Z4.hf, Z4.m] <;> omega
theorem m_ev (x : Z4) : x.m.ev = true := by
  unfold Z4.ev
  rw [Bool.and_eq_true, decide_eq_true_eq, decide_eq_true_eq, Int.fmod_eq_emod_of_nonneg _ (by decide), Int.fmod_eq_emod_of_nonneg _ (by decide)]
  simp only [Z4.m]; omega
theorem VL_low : ∀ (k : Nat) (x : Z4), VL (Z4.low k x).1 (Z4.low k x).2 = VL x k
  | 0, x => rfl
  | k + 1, x => by
    unfold Z4.low
    split
    · rename_i e
      rw [VL_low k x.hf, ← VL_m, hf_m e]
    · rfl
theorem VL_zero (k : Nat) : VL Z4.zero k = 0 := by unfold VL; rw [ofZ_zero]; grind
theorem pow_inv (k : Nat) : sq2 ^ k * iq2 ^ k = 1 := by
  induction k with
  | zero => rw [Lean.Grind.Semiring.pow_zero, Lean.Grind.Semiring.pow_zero]; grind
  | succ k ih =>
    rw [Lean.Grind.Semiring.pow_succ, Lean.Grind.Semiring.pow_succ]
    have := sq2_iq2
    grind
theorem VL_inj {x y : Z4} {k : Nat} (h : VL x k = VL y k) : x = y := by
  apply ofZ_inj
  have h1 : ofZ x * iq2 ^ k * sq2 ^ k = ofZ y * iq2 ^ k * sq2 ^ k := by unfold VL at h; rw [h]
  have := pow_inv k
  grind
theorem mp_succ' (n : Nat) : ∀ x : Z4, Z4.mp (n + 1) x = (Z4.mp n x).m := by
  induction n with
  | zero => intro x; rfl
  | succ n ih => intro x; show Z4.mp (n + 1) x.m = (Z4.mp (n + 1) x).m; rw [ih x.m]; rfl
theorem red_uniq' {x y : Z4} {k l : Nat} (hkl : k ≤ l) (hy : Red y l) (h : VL x k = VL y l) : x = y ∧ k = l := by
  have h1 : Z4.mp (l - k) x = y := by
    apply VL_inj (k := l)
    rw [← h, ← VL_mp (l - k) x k, show k + (l - k) = l by omega]
  rcases Nat.lt_or_ge k l with hlt | hge
  · exfalso
    obtain ⟨n, hn⟩ : ∃ n, l - k = n + 1 := ⟨l - k - 1, by omega⟩
    rw [hn, mp_succ'] at h1
    have := hy.2 (by omega)
    rw [← h1, m_ev] at this
    cases this
  · have e : k = l := by omega
    subst e
    rw [Nat.sub_self] at h1
    exact ⟨h1, rfl⟩
theorem red_uniq {x y : Z4} {k l : Nat} (hx : Red x k) (hy : Red y l) (h : VL x k = VL y l) : x = y ∧ k = l := by
  rcases Nat.le_total k l with e | e
  · exact red_uniq' e hy h
  · obtain ⟨a, b⟩ := red_uniq' e hx h.symm
    exact ⟨a.symm, b.symm⟩
def Q4.conj (x : Q4) : Q4 := ⟨x.a, -x.d, -x.c, -x.b⟩
theorem nrm4 (x : Z4) : (x.a * x.a + x.b * x.b + x.c * x.c + x.d * x.d) * (x.a * x.a + x.b * x.b + x.c * x.c + x.d * x.d) - 2 * ((x.a * x.b + x.b * x.c + x.c * x.d - x.d * x.a) * (x.a * x.b + x.b * x.c + x.c * x.d - x.d * x.a)) =
    (x.a * x.a - x.c * x.c + 2 * (x.b * x.d)) * (x.a * x.a - x.c * x.c + 2 * (x.b * x.d)) + (2 * (x.a * x.c) - x.b * x.b + x.d * x.d) * (2 * (x.a * x.c) - x.b * x.b + x.d * x.d) := by grind
theorem sq_nn (a : Int) : 0 ≤ a * a := by
  rcases Int.le_total 0 a with h | h
  · exact Int.mul_nonneg h h
  · exact Int.mul_nonneg_of_nonpos_of_nonpos h h
theorem sq_z {a : Int} (h : a * a = 0) : a = 0 := by
  rcases Int.mul_eq_zero.mp h with h | h <;> exact h
theorem nP_zero {x : Z4} (h : nP x = 0) : x = Z4.zero := by
  unfold nP at h
  have a := sq_nn x.a
  have b := sq_nn x.b
  have c := sq_nn x.c
  have d := sq_nn x.d
  exact Z4.eq (sq_z (by omega)) (sq_z (by omega)) (sq_z (by omega)) (sq_z (by omega))
theorem nQ_le (x : Z4) : 2 * (nQ x * nQ x) ≤ nP x * nP x := by
  have h := nrm4 x
  have a := sq_nn (x.a * x.a - x.c * x.c + 2 * (x.b * x.d))
  have b := sq_nn (2 * (x.a * x.c) - x.b * x.b + x.d * x.d)
  unfold nP nQ
  omega
theorem nrm_ne {x : Z4} (h : x ≠ Z4.zero) : 2 * (nQ x * nQ x) < nP x * nP x := by
  have h1 := nQ_le x
  apply Decidable.byContradiction
  intro hn
  have e : nP x * nP x = 2 * (nQ x * nQ x) := by omega
  have e2 := irr _ _ _ (Nat.le_refl _) e
  rw [e2] at e
  exact h (nP_zero (sq_z (by omega)))
theorem adj_eq (x : Z4) : x * (x.conj * ⟨nP x, -nQ x, 0, nQ x⟩) = ⟨nP x * nP x - 2 * (nQ x * nQ x), 0, 0, 0⟩ := by
  apply Z4.eq <;> simp only [Z4.mul_d, Z4.conj, nP, nQ] <;> grind
theorem Z4.dom {x y : Z4} (h : x * y = 0) (hx : x ≠ Z4.zero) : y = Z4.zero := by
  have h1 : (⟨nP x * nP x - 2 * (nQ x * nQ x), 0, 0, 0⟩ : Z4) * y = 0 := by
    rw [← adj_eq]; grind
  have hn : nP x * nP x - 2 * (nQ x * nQ x) ≠ 0 := by have := nrm_ne hx; omega
  generalize nP x * nP x - 2 * (nQ x * nQ x) = n at h1 hn
  have f : ∀ z : Int, n * z = 0 → z = 0 := fun z e => (Int.mul_eq_zero.mp e).resolve_left hn
  have g := fun (π : Z4 → Int) => congrArg π h1
  exact Z4.eq (f _ (by have := g Z4.a; simp only [Z4.mul_d, Z4.zero_d] at this; omega)) (f _ (by have := g Z4.b; simp only [Z4.mul_d, Z4.zero_d] at this; omega)) (f _ (by have := g Z4.c; simp only [Z4.mul_d, Z4.zero_d] at this; omega)) (f _ (by have := g Z4.d; simp only [Z4.mul_d, Z4.zero_d] at this; omega))
theorem Z4.B.add {x y : Z4} {n : Nat} (hx : x.B n) (hy : y.B n) : (Z4.add x y).B (n + 1) := by
  obtain ⟨a0, a1, b0, b1, c0, c1, d0, d1⟩ := hx
  obtain ⟨e0, e1, f0, f1, g0, g1, h0, h1⟩ := hy
  have e : (2 : Int) ^ (n + 1) = 2 ^ n * 2 := Int.pow_succ ..
  constructor <;> dsimp only [Z4.add] <;> rw [e] <;> omega
theorem mul_bd {x y : Int} {n m : Nat} (x0 : -(2 ^ n) ≤ x) (x1 : x ≤ 2 ^ n) (y0 : -(2 ^ m) ≤ y) (y1 : y ≤ 2 ^ m) : -(2 ^ (n + m)) ≤ x * y ∧ x * y ≤ 2 ^ (n + m) := by
  have e : (2 : Int) ^ (n + m) = 2 ^ n * 2 ^ m := Int.pow_add ..
  have p := pow_pos' n
  have q := pow_pos' m
  rw [e]
  generalize (2 : Int) ^ n = u at *
  generalize (2 : Int) ^ m = w at *
  have h : (x * y).natAbs ≤ u.natAbs * w.natAbs := by rw [Int.natAbs_mul]; exact Nat.mul_le_mul (by omega) (by omega)
  have h2 : ((u.natAbs * w.natAbs : Nat) : Int) = u * w := by rw [← Int.natAbs_mul, Int.natAbs_of_nonneg (Int.mul_nonneg (by omega) (by omega))]
  omega
theorem Z4.B.mul {x y : Z4} {n m : Nat} (hx : x.B n) (hy : y.B m) : (Z4.mul x y).B (n + m + 2) := by
  obtain ⟨a0, a1, b0, b1, c0, c1, d0, d1⟩ := hx
  obtain ⟨e0, e1, f0, f1, g0, g1, h0, h1⟩ := hy
  have e : (2 : Int) ^ (n + m + 2) = 2 ^ (n + m) * 4 := by rw [Int.pow_succ, Int.pow_succ, Int.mul_assoc]; rfl
  have t1 := mul_bd a0 a1 e0 e1
  have t2 := mul_bd a0 a1 f0 f1
  have t3 := mul_bd a0 a1 g0 g1
  have t4 := mul_bd a0 a1 h0 h1
  have t5 := mul_bd b0 b1 e0 e1
  have t6 := mul_bd b0 b1 f0 f1
  have t7 := mul_bd b0 b1 g0 g1
  have t8 := mul_bd b0 b1 h0 h1
  have t9 := mul_bd c0 c1 e0 e1
  have ta := mul_bd c0 c1 f0 f1
  have tb := mul_bd c0 c1 g0 g1
  have tc := mul_bd c0 c1 h0 h1
  have td := mul_bd d0 d1 e0 e1
  have te := mul_bd d0 d1 f0 f1
  have tf := mul_bd d0 d1 g0 g1
  have tg := mul_bd d0 d1 h0 h1
  constructor <;> dsimp only [Z4.mul] <;> rw [e] <;> omega
theorem Z4.B.conj {x : Z4} {n : Nat} (h : x.B n) : x.conj.B n := by
  obtain ⟨a0, a1, b0, b1, c0, c1, d0, d1⟩ := h
  constructor <;> dsimp only [Z4.conj] <;> omega
theorem conj_ev (x : Z4) : x.conj.ev = x.ev := by
  unfold Z4.ev Z4.conj
  simp only [Int.fmod_eq_emod_of_nonneg _ (show (0 : Int) ≤ 2 by decide)]
  congr 1 <;> congr 1 <;> apply propext <;> omega
theorem Red.conj {x : Z4} {k : Nat} (h : Red x k) : Red x.conj k := ⟨fun z => h.1 (by
  have e1 : x.conj.a = 0 := by rw [z]; rfl
  have e2 : x.conj.b = 0 := by rw [z]; rfl
  have e3 : x.conj.c = 0 := by rw [z]; rfl
  have e4 : x.conj.d = 0 := by rw [z]; rfl
  simp only [Z4.conj] at e1 e2 e3 e4
  exact Z4.eq (by show _ = (0 : Int); omega) (by show _ = (0 : Int); omega) (by show _ = (0 : Int); omega) (by show _ = (0 : Int); omega)), fun z => by rw [conj_ev]; exact h.2 z⟩
theorem Low_N (x : Z4) (k : Nat) : Low x k = nD (lowN (x, k)) := by
  unfold Low lowN nD
  dsimp only
  split <;> rfl
theorem key_row (r : List Int) : keyT (rowD r) = some r := intsD_map r
theorem putT_new {k : List Int} {d : D} : ∀ {ks : List (List Int)} {ds : List D}, k ∉ ks → ks.length = ds.length → putT ks ds k d = (ks ++ [k], ds ++ [d])
  | [], [], _, _ => rfl
  | x :: ks, e :: ds, h, hl => by
    simp only [List.mem_cons, not_or] at h
    rw [putT, if_neg (fun z => h.1 z.symm), putT_new h.2 (by simpa using hl)]
    rfl
  | [], _ :: _, _, hl => by simp at hl
  | _ :: _, [], _, hl => by simp at hl
def tabP (ps : List (List Int × Nm)) : List (List Int) × List D := (ps.map (·.1), ps.map fun p => nD p.2)
theorem VN_low (n : Nm) : VN (lowN n) = VN n := by
  unfold lowN VN
  split
  · rename_i e
    rw [e, VL_zero, VL_zero]
  · exact VL_low n.2 n.1
theorem lex_trans {n : Int} {a b c : List Int} (ha : (a.length : Int) = n ∧ ∀ z ∈ a, 0 ≤ z ∧ z < 2) (hb : (b.length : Int) = n ∧ ∀ z ∈ b, 0 ≤ z ∧ z < 2) (hc : (c.length : Int) = n ∧ ∀ z ∈ c, 0 ≤ z ∧ z < 2) (h1 : HT.lexLt a b = true) (h2 : HT.lexLt b c = true) : HT.lexLt a c = true := by
  have l1 : a.length = b.length := by omega
  have l2 : b.length = c.length := by omega
  have x1 := (lex_code (B := 2) l1 ha.2 hb.2).mp h1
  have x2 := (lex_code (B := 2) l2 hb.2 hc.2).mp h2
  exact (lex_code (B := 2) (l1.trans l2) ha.2 hc.2).mpr (by omega)
theorem lex_not {a b : List Int} (hl : a.length = b.length) (ha : TS.Bd 2 a) (hb : TS.Bd 2 b) (h1 : HT.lexLt a b = true) (h2 : HT.lexLt b a = true) : False := by
  have x1 := (lex_code hl ha hb).mp h1
  have x2 := (lex_code hl.symm hb ha).mp h2
  omega
theorem NB8.mono {b k c l : Nat} {n : Nm} (h : NB8 b k n) (hb : b ≤ c) (hk : k ≤ l) : NB8 c l n := ⟨h.1.mono hb, Nat.le_trans h.2 hk⟩
theorem lowN_red (n : Nm) : Red (lowN n).1 (lowN n).2 := by
  unfold lowN
  split
  · exact ⟨fun _ => rfl, fun z => absurd z (by decide)⟩
  · refine ⟨fun z => ?_, low_odd⟩
    rcases Nat.eq_zero_or_pos (Z4.low n.2 n.1).2 with e | e
    · exact e
    · have := low_odd e; rw [z] at this; exact absurd this (by decide)
theorem red_eq {m n : Nm} (hm : Red m.1 m.2) (hn : Red n.1 n.2) (h : VN m = VN n) : m = n := by
  obtain ⟨a, b⟩ := red_uniq hm hn h
  exact Prod.ext a b
theorem lowN_id {n : Nm} (h : Red n.1 n.2) : lowN n = n := red_eq (lowN_red n) h (VN_low n)
theorem ord_eq {w : Nat} : ∀ {os qs : List (List Int × Nm)}, (∀ p ∈ os, p.1.length = w ∧ ∀ z ∈ p.1, 0 ≤ z ∧ z < 2) → os.Perm qs → Ord os → Ord qs → os = qs
  | [], qs, _, pm, _, _ => (List.nil_perm.mp pm).symm
  | p :: os, [], _, pm, _, _ => absurd pm.length_eq (by simp)
  | p :: os, q :: qs, w', pm, ho, hq => by
    have ho' := ho
    have hq' := hq
    unfold Ord at ho' hq'
    rw [List.map_cons, List.pairwise_cons] at ho' hq'
    have e : p = q := by
      rcases List.mem_cons.mp (pm.mem_iff.mp List.mem_cons_self : p ∈ q :: qs) with e | m
      · exact e
      · rcases List.mem_cons.mp (pm.mem_iff.mpr List.mem_cons_self : q ∈ p :: os) with e | m'
        · exact e.symm
        · have wp := w' p List.mem_cons_self
          have wq := w' q (List.mem_cons_of_mem _ m')
          exact (lex_not (wq.1.trans wp.1.symm) wq.2 wp.2 (hq'.1 p.1 (List.mem_map.mpr ⟨p, m, rfl⟩)) (ho'.1 q.1 (List.mem_map.mpr ⟨q, m', rfl⟩))).elim
    subst e
    rw [ord_eq (fun r hr => w' r (List.mem_cons_of_mem _ hr)) ((List.perm_cons p).mp pm) ho'.2 hq'.2]
theorem sh_n {n : Nm} (h : NB8 1000 1000 n) : fine (nD n) = true ∧ wid (nD n) ≤ 6100 ∧ dep (nD n) = 1 ∧ safeS (nD n) = true := by
  obtain ⟨⟨y, l⟩, hl⟩ : ∃ p : Nm, p = n := ⟨n, rfl⟩
  subst hl
  obtain ⟨h, hl⟩ := h
  have hl : l ≤ 1000 := hl
  have lg : ∀ z : Int, -(2 ^ 1000) ≤ z → z ≤ 2 ^ 1000 → z.natAbs.log2 < 1200 := fun z h0 h1 => log2_le (abs_lt h0 h1 (by decide)) (by decide)
  have a := lg _ h.a0 h.a1
  have b := lg _ h.b0 h.b1
  have c := lg _ h.c0 h.c1
  have d := lg _ h.d0 h.d1
  have e : ((l : Nat) : Int).natAbs.log2 < 1200 := log2_le (Nat.lt_of_le_of_lt (by omega : _ ≤ 1000) (Nat.lt_of_lt_of_le (by decide : 1000 < 2 ^ 10) (Nat.pow_le_pow_right (by decide) (by decide)))) (by decide)
  simp only at a b c d
  refine ⟨?_, ?_, ?_, ?_⟩
  · simp only [nD, D5, fine, fineL, Bool.and_true, Bool.and_eq_true, decide_eq_true_eq]
    omega
  · simp only [nD, D5, wid, widL]
    omega
  · simp [nD, D5, dep, depL]
  · simp [nD, D5, safeS, safeSL]
theorem sh_p {p : List Int × Nm} (hr : p.1.length ≤ 10 ∧ ∀ z ∈ p.1, 0 ≤ z ∧ z < 2) (h : NB8 1000 1000 p.2) : fine (pD p) = true ∧ wid (pD p) ≤ 6200 ∧ dep (pD p) = 2 ∧ safeS (pD p) = true := by
  obtain ⟨a, b, c, d⟩ := sh_n h
  have hb : ∀ z ∈ p.1, z.natAbs < 2 ^ 1 := fun z hz' => by have := hr.2 z hz'; omega
  have w := wid_ints (k := 1) hb (by decide)
  have f := fine_ints (k := 1) hb (by decide) (by decide)
  have g := dep_ints p.1
  have s := safeS_ints p.1
  refine ⟨?_, ?_, ?_, ?_⟩
  · simp only [pD, fine, fineL, rowD, f, a]; rfl
  · simp only [pD, wid, widL, rowD]; omega
  · simp only [pD, dep, depL, rowD, g, c]; rfl
  · simp only [pD, safeS, safeSL, rowD, s, d]; rfl
theorem sh_ps : ∀ {ps : List (List Int × Nm)}, (∀ p ∈ ps, (p.1.length ≤ 10 ∧ ∀ z ∈ p.1, 0 ≤ z ∧ z < 2) ∧ NB8 1000 1000 p.2) → fineL (ps.map pD) = true ∧ widL (ps.map pD) ≤ 6202 * ps.length ∧ depL (ps.map pD) ≤ 2 ∧ safeSL (ps.map pD) = true
  | [], _ => ⟨rfl, by simp [widL], by simp [depL], rfl⟩
  | p :: ps, h => by
    obtain ⟨a, b, c, d⟩ := sh_ps (ps := ps) fun q hq => h q (List.mem_cons_of_mem _ hq)
    obtain ⟨h1, h2⟩ := h p List.mem_cons_self
    obtain ⟨e, f, g, i⟩ := sh_p h1 h2
    refine ⟨?_, ?_, ?_, ?_⟩
    · simp only [List.map_cons, fineL, e, a]; rfl
    · simp only [List.map_cons, widL, List.length_cons]; omega
    · simp only [List.map_cons, depL]; omega
    · simp only [List.map_cons, safeSL, i, d]; rfl
structure Shw (ps : List (List Int × Nm)) : Prop where
  row : ∀ p ∈ ps, (p.1.length ≤ 10 ∧ ∀ z ∈ p.1, 0 ≤ z ∧ z < 2) ∧ NB8 1000 1000 p.2
  len : ps.length ≤ 64
theorem Shw.mix {ps : List (List Int × Nm)} (h : Shw ps) : fine (mixD ps) = true ∧ wid (mixD ps) ≤ 400000 ∧ dep (mixD ps) ≤ 3 ∧ safeS (mixD ps) = true := by
  obtain ⟨a, b, c, d⟩ := sh_ps h.row
  have := h.len
  refine ⟨?_, ?_, ?_, ?_⟩
  · simp only [mixD, fine, a]
  · simp only [mixD, wid]; omega
  · simp only [mixD, dep]; omega
  · simp only [mixD, safeS, d]
theorem Shw.sh {ps : List (List Int × Nm)} (h : Shw ps) : shOk (mixD ps) = true := by
  obtain ⟨a, b, c, d⟩ := h.mix
  exact sh_of a (by omega) (by omega)
theorem Shw.ok {ps : List (List Int × Nm)} (h : Shw ps) : PyData.strOk (shD (mixD ps)) = true := ok_shown h.mix.2.2.2
theorem Mix.mono {w b k c l : Nat} {ps : List (List Int × Nm)} (h : Mix w b k ps) (hb : b ≤ c) (hk : k ≤ l) : Mix w c l ps := ⟨h.row, h.nd, fun p hp => (h.num p hp).mono hb hk, h.few⟩

/-! ### pairs of rows and numbers, sorted -/
open PySem.W PyProof.Rows in
theorem alike_row (r q : List Int) : alike (toPy (rowD r)) (toPy (rowD q)) = true := by
  rw [rowD, rowD, toPy, toPy, toPyL_ints, toPyL_ints, alike, alike_ints]
open PySem.W PyProof.Rows in
theorem alike_n (m n : Nm) : alike (toPy (nD m)) (toPy (nD n)) = true := alike_row [m.1.a, m.1.b, m.1.c, m.1.d, (m.2 : Int)] [n.1.a, n.1.b, n.1.c, n.1.d, (n.2 : Int)]
open PySem.W PyProof.Rows in
theorem alike_p (p q : List Int × Nm) : alike (toPy (pD p)) (toPy (pD q)) = true := by
  rw [pD, pD, toPy, toPy, toPyL, toPyL, toPyL, toPyL, toPyL, toPyL, alike, alikeAll, alike_row, alikeAll, alike_n, alikeAll]
  rfl
open PySem.W PyProof.Rows in
theorem lt_p {p q : List Int × Nm} (h : p.1 ≠ q.1) : dataLt (toPy (pD p)) (toPy (pD q)) = HT.lexLt p.1 q.1 := by
  have e : PyData.eqv (toPy (rowD p.1)) (toPy (rowD q.1)) = false := by
    have := eqD_ints_t p.1 q.1
    unfold eqD at this
    unfold rowD
    rw [this, decide_eq_false h]
  rw [pD, pD, toPy, toPy, toPyL, toPyL, toPyL, toPyL, toPyL, toPyL, dataLt_pair (alike_row _ _) (alike_n _ _), e, if_neg (by decide), rowD, rowD, toPy, toPy, dataLt_tuple, lt_ints]
theorem sorted_ps {ps : List (List Int × Nm)} (nd : (ps.map (·.1)).Nodup) : ∃ os, sortD (ps.map pD) = os.map pD ∧ os.Perm ps ∧ Ord os := by
  refine ⟨ps.mergeSort fun p q => leD (pD p) (pD q), ?_, List.mergeSort_perm _ _, ?_⟩
  · unfold sortD
    rw [List.map_mergeSort (s := leD) fun _ _ _ _ => rfl]
  · have pw := List.pairwise_mergeSort (le := fun p q => leD (pD p) (pD q)) (fun a b c => leD_trans _ _ _) (fun a b => leD_total _ _) ps
    have pm := List.mergeSort_perm ps fun p q => leD (pD p) (pD q)
    generalize hos : ps.mergeSort (fun p q => leD (pD p) (pD q)) = os at pw pm
    have nd' : (os.map (·.1)).Nodup := (pm.map _).nodup_iff.mpr nd
    unfold Ord
    rw [List.pairwise_map]
    have nd2 := List.pairwise_map.mp nd'
    refine (pw.and nd2).imp fun {p q} ⟨h, ne⟩ => ?_
    unfold leD at h
    rw [lt_p ne.symm] at h
    simp only [Bool.not_eq_true'] at h
    cases e : HT.lexLt p.1 q.1 with
    | true => rfl
    | false =>
      exact absurd (lex_conn e h) ne
open PySem.W PyProof.Rows in
theorem all_alike (ps : List (List Int × Nm)) : AllAlike ((ps.map pD).map toPy) := by
  rw [List.map_map]
  exact AllAlike.of fun p q => alike_p p q
open PySem.W PyProof.Rows in
theorem all_sortable (ps : List (List Int × Nm)) : Sortable ((ps.map pD).map toPy) := by
  rw [List.map_map]
  refine Sortable.tuples fun p => ⟨toPy (rowD p.1), [toPy (nD p.2)], ?_⟩
  show toPy (pD p) = _
  rw [pD, toPy, toPyL, toPyL, toPyL]

structure Nice (d : D) (k w : Nat) : Prop where
  pl : plainN d = true
  sh : (toPyN d).showable = true
  dep : depN d ≤ k
  wid : widN d ≤ w
theorem Nice.ok {d : D} {k w : Nat} (h : Nice d k w) (hk : k ≤ 90) (hw : w ≤ 16777216) : shOkN d = true := by
  have l1 := dep_pyN d
  have l2 := shown_widN d
  have l3 : sizeLine = 16777216 := size_val
  have := h.dep
  have := h.wid
  simp only [shOkN, Bool.and_eq_true, decide_eq_true_eq]
  exact ⟨⟨⟨h.pl, h.sh⟩, by omega⟩, by omega⟩
theorem nice_int {i : Int} (h0 : -128 < i) (h1 : i < 128) : Nice (.int i) 0 10 := by
  have l : i.natAbs.log2 < 7 := by
    rcases Nat.eq_zero_or_pos i.natAbs with e | e
    · rw [e]; decide
    · exact (Nat.log2_lt (by omega)).mpr (by omega)
  refine ⟨rfl, ?_, Nat.le_refl _, ?_⟩
  · rw [toPyN, PyData.showable]; exact decide_eq_true (by omega)
  · rw [widN]; omega
theorem niceL {k w : Nat} : ∀ {ds : List D}, (∀ d ∈ ds, Nice d k w) → plainNL ds = true ∧ PyData.showableAll (toPyNL ds) = true ∧ depNL ds ≤ k ∧ widNL ds ≤ ds.length * (w + 2)
  | [], _ => ⟨rfl, by rw [toPyNL, PyData.showableAll], Nat.zero_le _, by rw [widNL]; omega⟩
  | d :: ds, h => by
    obtain ⟨a, b, c, e⟩ := niceL fun x hx => h x (List.mem_cons_of_mem _ hx)
    have n := h d List.mem_cons_self
    have := n.dep
    have := n.wid
    refine ⟨by rw [plainNL, n.pl, a]; rfl, by rw [toPyNL, PyData.showableAll, n.sh, b]; rfl, by rw [depNL]; omega, ?_⟩
    rw [widNL, List.length_cons, Nat.succ_mul]
    omega
theorem nice_tup {k w n : Nat} {ds : List D} (h : ∀ d ∈ ds, Nice d k w) (hn : ds.length ≤ n) : Nice (.tup ds) (k + 1) (n * (w + 2) + 3) := by
  obtain ⟨a, b, c, e⟩ := niceL h
  have := Nat.mul_le_mul_right (w + 2) hn
  refine ⟨by rw [plainN]; exact a, by rw [toPyN, PyData.showable]; exact b, by rw [depN]; omega, by rw [widN]; omega⟩
theorem nice_row {r : List Int} {n : Nat} (h : ∀ z ∈ r, -128 < z ∧ z < 128) (hn : r.length ≤ n) : Nice (rowD r) 1 (n * 12 + 3) := nice_tup (fun d hd => by
  obtain ⟨z, hz, rfl⟩ := List.mem_map.mp hd
  exact nice_int (h z hz).1 (h z hz).2) (by rw [List.length_map]; exact hn)
theorem Nice.mono {d : D} {k w k' w' : Nat} (h : Nice d k w) (hk : k ≤ k') (hw : w ≤ w') : Nice d k' w' := ⟨h.pl, h.sh, Nat.le_trans h.dep hk, Nat.le_trans h.wid hw⟩

theorem xor_bI (a b : Bool) : PySem.Builtin.bitXor (bI a) (bI b) = bI (a ^^ b) := by cases a <;> cases b <;> decide
theorem and_bI (a b : Bool) : PySem.Builtin.bitAnd (bI a) (bI b) = bI (a && b) := by cases a <;> cases b <;> decide
theorem not_bI (a : Bool) : 1 - bI a = bI (!a) := by cases a <;> decide
theorem bI_one (a : Bool) : decide (bI a = 1) = a := by cases a <;> decide
theorem bsD_get {l : List Bool} {i : Nat} (h : i < l.length) : (bsD l)[i]? = some (bD (gB l i)) := by
  unfold bsD gB
  rw [List.getElem?_map, List.getElem?_eq_getElem h]
  rfl
theorem bsD_set (l : List Bool) (i : Nat) (b : Bool) : (bsD l).set i (bD b) = bsD (l.set i b) := by
  unfold bsD
  rw [List.map_set]
theorem bsD_len (l : List Bool) : (bsD l).length = l.length := by unfold bsD; rw [List.length_map]
theorem ixN_nat {n i : Nat} (h : i < n) : ixN n (i : Int) = some i := by
  unfold ixN
  rw [if_pos (by omega), if_pos (by omega)]
  simp
theorem atI_nat {α : Type} {l : List α} {i : Nat} (h : i < l.length) : atI l (i : Int) = l[i]? := by
  unfold atI
  rw [ixN_nat h]
  rfl
theorem lkP_same {M : Mem} {a : Addr} {c c0 : Cell} (h : M.lookup a = some c0) : (mput M a c).lookup a = some c := by
  induction M with
  | nil => cases h
  | cons p M ih =>
    show List.lookup a ((if p.1 = a then (a, c) else p) :: mput M a c) = _
    by_cases e : p.1 = a
    · rw [if_pos e, List.lookup_cons]; simp
    · rw [if_neg e, List.lookup_cons, show (a == p.1) = false from by simpa using fun z => e z.symm]
      rw [List.lookup_cons, show (a == p.1) = false from by simpa using fun z => e z.symm] at h
      exact ih h
theorem lkP_ne {M : Mem} {a b : Addr} {c : Cell} (h : b ≠ a) : (mput M a c).lookup b = M.lookup b := by
  induction M with
  | nil => rfl
  | cons p M ih =>
    show List.lookup b ((if p.1 = a then (a, c) else p) :: mput M a c) = _
    rw [List.lookup_cons, List.lookup_cons]
    by_cases e : p.1 = a
    · rw [if_pos e, show (b == a) = false from by simpa using h, show (b == p.1) = false from by rw [e]; simpa using h]
      exact ih
    · rw [if_neg e]
      cases (b == p.1) with
      | true => rfl
      | false => exact ih
theorem lkN_ne {M : Mem} {a b : Addr} {c : Cell} (h : b ≠ a) : List.lookup b ((a, c) :: M) = M.lookup b := by
  rw [List.lookup_cons, show (b == a) = false from by simpa using h]
theorem lkN_same {M : Mem} {a : Addr} {c : Cell} : List.lookup a ((a, c) :: M) = some c := by rw [List.lookup_cons]; simp
theorem lk_dom {M : Mem} {a : Addr} {c : Cell} (h : M.lookup a = some c) : a ∈ dom M := List.mem_map.mpr ⟨_, lookup_mem h, rfl⟩
theorem dom_put (M : Mem) (a : Addr) (c : Cell) : dom (mput M a c) = dom M := by
  induction M with
  | nil => rfl
  | cons p M ih =>
    show (if p.1 = a then (a, c) else p).1 :: dom (mput M a c) = p.1 :: dom M
    rw [ih]
    by_cases e : p.1 = a
    · rw [if_pos e, e]
    · rw [if_neg e]
theorem Wr.dom {S : List Addr} {M M1 : Mem} (w : Wr S M M1) {b : Addr} (h : b ∈ Gw.dom M) : b ∈ Gw.dom M1 := by
  induction w with
  | refl => exact h
  | put w _ ih => rw [dom_put]; exact ih
  | new w _ ih => exact List.mem_cons_of_mem _ ih
theorem Wr.trans {S : List Addr} {M M1 M2 : Mem} (w : Wr S M M1) (v : Wr S M1 M2) : Wr S M M2 := by
  induction v with
  | refl => exact w
  | put v h ih => exact .put ih (h.imp id fun z y => z (w.dom y))
  | new v h ih => exact .new ih h
theorem Wr.mono {S S' : List Addr} {M M1 : Mem} (w : Wr S M M1) (h : ∀ b ∈ S, b ∈ S' ∨ b ∉ Gw.dom M) : Wr S' M M1 := by
  induction w with
  | refl => exact .refl
  | put v z ih => exact .put ih (z.elim (fun q => h _ q) .inr)
  | new v z ih => exact .new ih z
theorem Wr.lk {S : List Addr} {M M1 : Mem} (w : Wr S M M1) {b : Addr} (h : b ∈ Gw.dom M) (n : b ∉ S) : M1.lookup b = M.lookup b := by
  induction w with
  | refl => rfl
  | @put M1 a c v z ih =>
    have ne : b ≠ a := fun e => by
      subst e
      rcases z with z | z
      · exact n z
      · exact z h
    rw [lkP_ne ne]
    exact ih
  | @new M1 a c v z ih =>
    have ne : b ≠ a := fun e => by
      subst e
      exact z (v.dom h)
    rw [lkN_ne ne]
    exact ih
theorem Wr.app {S : List Addr} {M M1 M0 : Mem} (w : Wr S M M1) (h : ∃ N, M = N ++ M0) (n : ∀ b ∈ S, b ∉ Gw.dom M0) : ∃ N, M1 = N ++ M0 := by
  induction w with
  | refl => exact h
  | @put M1 a c v z ih =>
    obtain ⟨N, e⟩ := ih
    obtain ⟨N0, e0⟩ := h
    have na : a ∉ Gw.dom M0 := fun y => by
      rcases z with z | z
      · exact n a z y
      · refine z ?_
        rw [e0]
        unfold Gw.dom
        rw [List.map_append]
        exact List.mem_append_right _ y
    refine ⟨mput N a c, ?_⟩
    rw [e]
    show List.map _ (N ++ M0) = _
    rw [List.map_append]
    congr 1
    exact mput_no na
  | @new M1 a c v z ih =>
    obtain ⟨N, e⟩ := ih
    exact ⟨(a, c) :: N, by rw [e]; rfl⟩
theorem KAt.apq {M : Mem} {X : KA} (h : KAt M X) : X.a ≠ X.p ∧ X.a ≠ X.q := by
  constructor
  · intro e
    have := h.a
    rw [e, h.p] at this
    cases this
  · intro e
    have := h.a
    rw [e, h.q] at this
    cases this
theorem fld1 (a b c : D) : fldD "minus" kF [a, b, c] = some a := rfl
theorem fld2 (a b c : D) : fldD "nots" kF [a, b, c] = some b := rfl
theorem fld3 (a b c : D) : fldD "signs" kF [a, b, c] = some c := rfl
theorem put1 (a b c d : D) : putO "minus" d kF [a, b, c] = [d, b, c] := rfl
theorem put2 (a b c d : D) : putO "nots" d kF [a, b, c] = [a, d, c] := rfl
theorem put3 (a b c d : D) : putO "signs" d kF [a, b, c] = [a, b, d] := rfl
theorem putN1 : putN "minus" kF = kF := rfl
theorem putN2 : putN "nots" kF = kF := rfl
theorem putN3 : putN "signs" kF = kF := rfl
theorem atB {l : List Bool} {i : Nat} (h : i < l.length) : atI (bsD l) (i : Int) = some (.int (bI (gB l i))) := by
  rw [atI_nat (by rw [bsD_len]; exact h), bsD_get h]
  rfl
theorem ixB {l : List Bool} {i : Nat} (h : i < l.length) : ixN (bsD l).length (i : Int) = some i := ixN_nat (by rw [bsD_len]; exact h)
theorem kSet (l : List Bool) (i : Nat) (b : Bool) : (bsD l).set i (.int (bI b)) = bsD (l.set i b) := bsD_set l i b
theorem kFl : kF.length < 1000 := by decide
theorem kupA {M : Mem} {X : KA} {k' : Kp} {Q : Ret → Mem → Prop} (at_ : KAt M X) (hq : kUp X k' M Q) (en : k'.n = X.k.n) (es : k'.s = X.k.s) : Q (.dat .non) (mput M X.a (.ins "Keeper" kF [.int (bI k'.m), .ref X.p, .ref X.q])) := by
  obtain ⟨ap, aq⟩ := at_.apq
  refine hq _ ⟨lkP_same at_.a, ?_, ?_, at_.pq⟩ (.put .refl (.inl (by simp [KA.ads])))
  · rw [lkP_ne ap.symm]; show _ = some (Cell.lst (bsD k'.n)); rw [en]; exact at_.p
  · rw [lkP_ne aq.symm]; show _ = some (Cell.lst (bsD k'.s)); rw [es]; exact at_.q
theorem kupAQ {M : Mem} {X : KA} {k' : Kp} {Q : Ret → Mem → Prop} (at_ : KAt M X) (hq : kUp X k' M Q) (en : k'.n = X.k.n) : Q (.dat .non) (mput (mput M X.a (.ins "Keeper" kF [.int (bI k'.m), .ref X.p, .ref X.q])) X.q (.lst (bsD k'.s))) := by
  obtain ⟨ap, aq⟩ := at_.apq
  refine hq _ ⟨?_, ?_, ?_, at_.pq⟩ (.put (.put .refl (.inl (by simp [KA.ads]))) (.inl (by simp [KA.ads])))
  · rw [lkP_ne aq]; exact lkP_same at_.a
  · rw [lkP_ne at_.pq, lkP_ne ap.symm]; show _ = some (Cell.lst (bsD k'.n)); rw [en]; exact at_.p
  · exact lkP_same (c0 := .lst (bsD X.k.s)) (by rw [lkP_ne aq.symm]; exact at_.q)
theorem kup3 {M : Mem} {X : KA} {k' : Kp} {Q : Ret → Mem → Prop} (at_ : KAt M X) (hq : kUp X k' M Q) : Q (.dat .non) (mput (mput (mput M X.a (.ins "Keeper" kF [.int (bI k'.m), .ref X.p, .ref X.q])) X.p (.lst (bsD k'.n))) X.q (.lst (bsD k'.s))) := by
  obtain ⟨ap, aq⟩ := at_.apq
  refine hq _ ⟨?_, ?_, ?_, at_.pq⟩ (.put (.put (.put .refl (.inl (by simp [KA.ads]))) (.inl (by simp [KA.ads]))) (.inl (by simp [KA.ads])))
  · rw [lkP_ne aq, lkP_ne ap]; exact lkP_same at_.a
  · rw [lkP_ne at_.pq]; exact lkP_same (c0 := .lst (bsD X.k.n)) (by rw [lkP_ne ap.symm]; exact at_.p)
  · exact lkP_same (c0 := .lst (bsD X.k.s)) (by rw [lkP_ne at_.pq.symm, lkP_ne aq.symm]; exact at_.q)
theorem geB {l : List Bool} {i : Nat} (h : i < l.length) : (bsD l)[(i : Int).toNat]? = some (.int (bI (gB l i))) := bsD_get h
theorem mput_two (M : Mem) (a : Addr) (c d : Cell) : mput (mput M a c) a d = mput M a d := by
  induction M with
  | nil => rfl
  | cons p M ih =>
    show (if (if p.1 = a then (a, c) else p).1 = a then (a, d) else (if p.1 = a then (a, c) else p)) :: mput (mput M a c) a d = (if p.1 = a then (a, d) else p) :: mput M a d
    rw [ih]
    by_cases e : p.1 = a
    · simp [e]
    · simp [e]
theorem kupPQ {M : Mem} {X : KA} {k' : Kp} {Q : Ret → Mem → Prop} (at_ : KAt M X) (hq : kUp X k' M Q) (em : k'.m = X.k.m) : Q (.dat .non) (mput (mput M X.p (.lst (bsD k'.n))) X.q (.lst (bsD k'.s))) := by
  obtain ⟨ap, aq⟩ := at_.apq
  refine hq _ ⟨?_, ?_, ?_, at_.pq⟩ (.put (.put .refl (.inl (by simp [KA.ads]))) (.inl (by simp [KA.ads])))
  · rw [lkP_ne aq, lkP_ne ap]; show _ = some (Cell.ins "Keeper" kF [bD k'.m, .ref X.p, .ref X.q]); rw [em]; exact at_.a
  · rw [lkP_ne at_.pq]; exact lkP_same (c0 := .lst (bsD X.k.n)) at_.p
  · exact lkP_same (c0 := .lst (bsD X.k.s)) (by rw [lkP_ne at_.pq.symm]; exact at_.q)
theorem rd_Keeper_after_half : ∀ ds M Q, S_Keeper_after_half ds M Q → as_Keeper_after_half (endsOf Q) (slots N_Keeper_after_half.length ds) M := by
  rintro ds M Q ⟨X, n, w, rfl, at_, ok, hw, hn, hq⟩
  show as_Keeper_after_half (endsOf Q) [.dat (.ref X.a), .dat (.int w)] M
  obtain ⟨ap, aq⟩ := at_.apq
  have pq := at_.pq
  have wn : w < X.k.n.length := by rw [ok.n]; exact hw
  have ws : w < X.k.s.length := by rw [ok.s]; exact hw
  unfold as_Keeper_after_half
  walk_at "gs"
  simp only [at_.a, fld1, fld2, fld3, at_.p, at_.q, bD, atB wn, atB ws, and_bI, xor_bI, putN1, put1, lkP_same at_.a, lkP_ne ap.symm, lkP_ne aq.symm, ixB wn, ixB ws, kSet, lkP_ne ap, lkP_ne pq.symm]
  refine ⟨trivial, trivial, trivial, trivial, kFl, trivial, trivial, trivial, trivial, ?_⟩
  exact kup3 at_ hq
theorem rd_Keeper_after_turn : ∀ ds M Q, S_Keeper_after_turn ds M Q → as_Keeper_after_turn (endsOf Q) (slots N_Keeper_after_turn.length ds) M := by
  rintro ds M Q ⟨X, n, w, j, rfl, at_, ok, hw, hn, hq⟩
  show as_Keeper_after_turn (endsOf Q) [.dat (.ref X.a), .dat (.int j), .dat (.int w)] M
  obtain ⟨ap, aq⟩ := at_.apq
  have pq := at_.pq
  have wn : w < X.k.n.length := by rw [ok.n]; exact hw
  have ws : w < X.k.s.length := by rw [ok.s]; exact hw
  have fin : ∀ m' : Bool, m' = (tK j w X.k).m → as_Keeper_after_turn_t1 (endsOf Q) [.dat (.ref X.a), .dat (.int j), .dat (.int w)] (mput M X.a (.ins "Keeper" kF [.int (bI m'), .ref X.p, .ref X.q])) := by
    intro m' em
    subst em
    unfold as_Keeper_after_turn_t1
    walk_at "gs"
    by_cases e4 : j = 4
    · subst e4
      walk_at "gs"
      exact kupA at_ hq rfl (by simp [tK])
    · simp only [e4, decide_false, Bool.not_false, if_true]
      simp only [lkP_same at_.a, lkP_ne ap.symm, lkP_ne aq.symm, fld1, fld2, fld3, at_.p, at_.q, atB wn, atB ws, xor_bI, ixB ws, kSet, geB ws]
      refine ⟨trivial, by omega, trivial, ?_⟩
      have es : (tK j w X.k).s = X.k.s.set w (gB X.k.s w ^^ gB X.k.n w) := by simp [tK, e4]
      rw [← es]
      exact kupAQ at_ hq rfl
  unfold as_Keeper_after_turn
  walk_at "gs"
  by_cases e2 : j = 2
  · subst e2
    walk_at "gs"
    simp only [at_.a, fld1, fld2, fld3, at_.p, at_.q, bD, atB wn, atB ws, and_bI, xor_bI, putN1, put1]
    refine ⟨trivial, trivial, trivial, trivial, kFl, fin _ ?_⟩
    simp [tK]
  · by_cases e6 : j = 6
    · subst e6
      walk_at "gs"
      simp only [at_.a, fld1, fld2, fld3, at_.p, at_.q, bD, atB wn, atB ws, and_bI, xor_bI, not_bI, putN1, put1]
      refine ⟨trivial, trivial, trivial, trivial, kFl, fin _ ?_⟩
      simp [tK]
    · simp only [e2, e6, decide_false, Bool.false_eq_true, if_false]
      simp only [at_.a, fld1, fld2, fld3, at_.p, at_.q, bD, atB wn, atB ws, and_bI, xor_bI, putN1, put1]
      refine ⟨trivial, trivial, trivial, kFl, fin _ ?_⟩
      simp [tK, e2, e6]
theorem rd_Keeper_after_not : ∀ ds M Q, S_Keeper_after_not ds M Q → as_Keeper_after_not (endsOf Q) (slots N_Keeper_after_not.length ds) M := by
  rintro ds M Q ⟨X, n, w, cs, rfl, at_, ok, hw, hc, hl, hn, hq⟩
  show as_Keeper_after_not (endsOf Q) [.dat (.ref X.a), .dat (.tup (cs.map fun c => .int (c : Nat))), .dat (.int w), .non] M
  obtain ⟨ap, aq⟩ := at_.apq
  have pq := at_.pq
  have wn : w < X.k.n.length := by rw [ok.n]; exact hw
  have ws : w < X.k.s.length := by rw [ok.s]; exact hw
  unfold as_Keeper_after_not
  match cs, hc, hl, hq with
  | [], hc, hl, hq =>
    walk_at "gs"
    simp only [List.map_nil, List.length_nil, at_.a, fld1, fld2, fld3, at_.p, at_.q, bD, atB wn, atB ws, and_bI, xor_bI, putN1, put1]
    rw [if_pos (by decide)]
    exact ⟨trivial, trivial, trivial, kFl, kupA at_ hq rfl rfl⟩
  | [o], hc, hl, hq =>
    obtain ⟨ho, ne⟩ := hc o (by simp)
    have on : o < X.k.n.length := by rw [ok.n]; exact ho
    have os : o < X.k.s.length := by rw [ok.s]; exact ho
    walk_at "gs"
    rw [if_neg (by decide)]
    unfold as_Keeper_after_not_t1
    walk_at "gs"
    simp only [at_.a, fld1, fld2, fld3, at_.p, at_.q, bD, atB wn, atB ws, atB on, atB os, and_bI, xor_bI, not_bI, putN1, put1, lkP_same at_.a, lkP_ne ap.symm, lkP_ne aq.symm, ixB wn, ixB ws, ixB os, kSet, lkP_ne ap, lkP_ne pq.symm, geB wn, geB ws, geB on, geB os]
    refine ⟨trivial, trivial, trivial, trivial, trivial, trivial, kFl, trivial, by omega, trivial, trivial, by omega, trivial, ?_⟩
    exact kup3 at_ hq
theorem rd_Keeper_after_cross : ∀ ds M Q, S_Keeper_after_cross ds M Q → as_Keeper_after_cross (endsOf Q) (slots N_Keeper_after_cross.length ds) M := by
  rintro ds M Q ⟨X, n, w, o, rfl, at_, ok, hw, ho, ne, hn, hq⟩
  show as_Keeper_after_cross (endsOf Q) [.dat (.ref X.a), .dat (.int o), .dat (.int w), .non] M
  obtain ⟨ap, aq⟩ := at_.apq
  have pq := at_.pq
  have wn : w < X.k.n.length := by rw [ok.n]; exact hw
  have ws : w < X.k.s.length := by rw [ok.s]; exact hw
  have on : o < X.k.n.length := by rw [ok.n]; exact ho
  have os : o < X.k.s.length := by rw [ok.s]; exact ho
  unfold as_Keeper_after_cross
  walk_at "gs"
  simp only [at_.a, fld1, fld2, fld3]
  refine ⟨trivial, trivial, ?_⟩
  unfold forW aForL as_Keeper_after_cross_b1
  walk_at "gs"
  simp only [at_.p, atB wn, atB on, ixB on, ixB wn, kSet, lkP_same at_.p, mput_two, ixB (l := X.k.n.set o (gB X.k.n w)) (i := w) (by rw [List.length_set]; exact wn)]
  unfold aForL
  walk_at "gs"
  simp only [lkP_ne pq.symm, at_.q, atB ws, atB os, ixB os, kSet, lkP_same (c0 := .lst (bsD X.k.s)) (show (mput M X.p (.lst (bsD ((X.k.n.set o (gB X.k.n w)).set w (gB X.k.n o))))).lookup X.q = some (.lst (bsD X.k.s)) by rw [lkP_ne pq.symm]; exact at_.q), mput_two, ixB (l := X.k.s.set o (gB X.k.s w)) (i := w) (by rw [List.length_set]; exact ws)]
  unfold aForL
  exact kupPQ (k' := cK o w X.k) at_ hq rfl
theorem rd_Keeper_after : ∀ ds M Q, S_Keeper_after ds M Q → as_Keeper_after (endsOf Q) (slots N_Keeper_after.length ds) M := by
  rintro ds M Q ⟨X, n, g, rfl, at_, ok, gok, sh, hn, hq⟩
  show as_Keeper_after (endsOf Q) [.dat (.ref X.a), .dat (.tup [.str g.w, .int g.j, .tup (g.cs.map .int), .int g.t]), .non, .non, .non, .non] M
  unfold as_Keeper_after
  walk_at "gs"
  have nx : ∀ (Γ : Sl) (M3 : Mem), Q (.dat .non) M3 → (endsOf Q).nx Γ M3 := fun Γ M3 h => h
  have wt : g.w ≠ "phase" → ∃ t : Nat, g.t = (t : Int) ∧ t < n ∧ g.t.toNat = t := fun h => by
    obtain ⟨h1, h2⟩ := gok.wire h
    exact ⟨g.t.toNat, by omega, by omega, rfl⟩
  rcases gok.word with e | e | e | e | e
  · obtain ⟨t, et, tn, e2⟩ := wt (by rw [e]; decide)
    have eg : gK g X.k = nK (g.cs.map Int.toNat) t X.k := by unfold gK; rw [e, e2]; simp (decide := true)
    rw [eg] at hq
    rw [e, et]
    rw [if_neg (by decide), if_neg (by decide), if_pos (by decide)]
    simp only [at_.a]
    refine ⟨trivial, by decide, X, n, t, g.cs.map Int.toNat, ?_, at_, ok, tn, ?_, ?_, hn, fun M1 h1 h2 => nx _ _ (hq M1 h1 h2)⟩
    · rw [List.map_map]
      congr 3
      refine List.map_congr_left fun c hc => ?_
      show D.int c = D.int (c.toNat : Int)
      rw [Int.toNat_of_nonneg (gok.cs c hc).1]
    · intro c hc
      obtain ⟨c', hc', rfl⟩ := List.mem_map.mp hc
      obtain ⟨c0, c1, c2⟩ := gok.cs c' hc'
      exact ⟨by omega, by omega⟩
    · rw [List.length_map]
      unfold shG at sh
      rw [e] at sh
      simpa (decide := true) using sh
  · obtain ⟨t, et, tn, e2⟩ := wt (by rw [e]; decide)
    have eg : gK g X.k = hK t X.k := by unfold gK; rw [e, e2]; simp (decide := true)
    rw [eg] at hq
    rw [e, et]
    rw [if_pos (by decide)]
    simp only [at_.a]
    exact ⟨trivial, by decide, X, n, t, rfl, at_, ok, tn, hn, fun M1 h1 h2 => nx _ _ (hq M1 h1 h2)⟩
  · obtain ⟨t, et, tn, e2⟩ := wt (by rw [e]; decide)
    have eg : gK g X.k = tK g.j t X.k := by unfold gK; rw [e, e2]; simp (decide := true)
    rw [eg] at hq
    rw [e, et]
    rw [if_neg (by decide), if_pos (by decide)]
    simp only [at_.a]
    exact ⟨trivial, by decide, X, n, t, g.j, rfl, at_, ok, tn, hn, fun M1 h1 h2 => nx _ _ (hq M1 h1 h2)⟩
  · have eg : gK g X.k = X.k := by unfold gK; rw [e]; simp (decide := true)
    rw [eg] at hq
    rw [e]
    rw [if_neg (by decide), if_neg (by decide), if_neg (by decide), if_neg (by decide)]
    exact hq M at_ .refl
  · obtain ⟨t, et, tn, e2⟩ := wt (by rw [e]; decide)
    obtain ⟨c, ec⟩ := gok.cr e
    obtain ⟨c0, c1, c2⟩ := gok.cs c (by rw [ec]; simp)
    have eg : gK g X.k = cK c.toNat t X.k := by unfold gK; rw [e, e2, ec]; simp (decide := true)
    rw [eg] at hq
    rw [e, et, ec]
    rw [if_neg (by decide), if_neg (by decide), if_neg (by decide), if_pos (by decide)]
    simp only [at_.a]
    refine ⟨trivial, by decide, X, n, t, c.toNat, ?_, at_, ok, tn, by omega, by omega, hn, fun M1 h1 h2 => nx _ _ (hq M1 h1 h2)⟩
    rw [Int.toNat_of_nonneg c0]
theorem flat0 (n : Nat) : (List.replicate (n : Int).toNat [D.int 0]).flatten = bsD (List.replicate n false) := by
  rw [Int.toNat_natCast]
  unfold bsD
  rw [List.map_replicate]
  induction n with
  | zero => rfl
  | succ n ih =>
    rw [List.replicate_succ, List.flatten_cons, ih, List.replicate_succ]
    rfl
theorem rd_Keeper___init__ : ∀ ds M Q, S_Keeper___init__ ds M Q → as_Keeper___init__ (endsOf Q) (slots N_Keeper___init__.length ds) M := by
  rintro ds M Q ⟨a, M0, n, w, b, rfl, rfl, ha, hw, hn, hQ⟩
  show as_Keeper___init__ (endsOf Q) [.dat (.ref a), .dat (.int n), .dat (.int w), .dat (bD b)] _
  unfold as_Keeper___init__
  walk_at "gs"
  refine ⟨⟨by omega, by omega, by omega⟩, fun p hp => ?_⟩
  rw [dom_put] at hp
  have pa : p ≠ a := fun e => hp (by rw [e]; exact List.mem_cons_self)
  have e1 : putN "minus" [] = ([("minus" : Str)] : List Str) := rfl
  have e2 : putO "minus" (bD b) [] [] = [bD b] := rfl
  have e3 : ∀ d : D, putN "nots" [("minus" : Str)] = ([("minus" : Str), ("nots" : Str)] : List Str) ∧ putO "nots" d [("minus" : Str)] [bD b] = [bD b, d] := fun d => ⟨rfl, rfl⟩
  have e4 : ∀ d e : D, putN "signs" [("minus" : Str), ("nots" : Str)] = kF ∧ putO "signs" e [("minus" : Str), ("nots" : Str)] [bD b, d] = [bD b, d, e] := fun d e => ⟨rfl, rfl⟩
  simp only [e1, e2]
  simp only [lkN_ne pa.symm, lkP_same (lkN_same (M := M0) (a := a) (c := .ins "Keeper" [] [])), (e3 (.ref p)).1, (e3 (.ref p)).2]
  refine ⟨trivial, by decide, ⟨by omega, by omega, by omega⟩, fun q hq => ?_⟩
  have hq' : q ∉ dom ((p, Cell.lst (List.replicate (n : Int).toNat [D.int 0]).flatten) :: (a, Cell.ins "Keeper" [] []) :: M0) := fun z => hq (by
    rw [dom_put]
    rcases List.mem_cons.mp z with z | z
    · exact List.mem_cons.mpr (.inl z)
    · refine List.mem_cons_of_mem _ ?_
      show q ∈ dom _
      rw [dom_put]
      exact z)
  have qp : q ≠ p := fun e => hq' (by rw [e]; exact List.mem_cons_self)
  have hqa : q ∉ dom ((a, Cell.ins "Keeper" [] []) :: M0) := fun z => hq' (List.mem_cons_of_mem _ z)
  have qa : q ≠ a := fun e => hqa (by rw [e]; exact List.mem_cons_self)
  generalize hM1 : mput ((a, Cell.ins "Keeper" [] []) :: M0) a (Cell.ins "Keeper" [("minus" : Str)] [bD b]) = M1 at *
  have w1 : Wr [a] ((a, Cell.ins "Keeper" [] []) :: M0) M1 := by rw [← hM1]; exact .put .refl (.inl (by simp))
  have l1 : M1.lookup a = some (.ins "Keeper" [("minus" : Str)] [bD b]) := by rw [← hM1]; exact lkP_same lkN_same
  have d1 : dom M1 = dom ((a, Cell.ins "Keeper" [] []) :: M0) := by rw [← hM1, dom_put]
  rw [flat0] at hq ⊢
  have w2 : Wr [a] ((a, Cell.ins "Keeper" [] []) :: M0) ((p, Cell.lst (bsD (List.replicate n false))) :: M1) := .new w1 (by rw [d1]; exact hp)
  generalize hM2 : mput ((p, Cell.lst (bsD (List.replicate n false))) :: M1) a (Cell.ins "Keeper" [("minus" : Str), ("nots" : Str)] [bD b, .ref p]) = M2 at *
  have w3 : Wr [a] ((a, Cell.ins "Keeper" [] []) :: M0) M2 := by rw [← hM2]; exact .put w2 (.inl (by simp))
  have l2 : M2.lookup a = some (.ins "Keeper" [("minus" : Str), ("nots" : Str)] [bD b, .ref p]) := by rw [← hM2]; exact lkP_same (c0 := .ins "Keeper" [("minus" : Str)] [bD b]) (by rw [lkN_ne pa.symm]; exact l1)
  have lp2 : M2.lookup p = some (.lst (bsD (List.replicate n false))) := by rw [← hM2, lkP_ne pa]; exact lkN_same
  have w4 : Wr [a] ((a, Cell.ins "Keeper" [] []) :: M0) ((q, Cell.lst (bsD (List.replicate n false))) :: M2) := .new w3 hq
  simp only [lkN_ne qa.symm, l2, (e4 (.ref p) (.ref q)).1, (e4 (.ref p) (.ref q)).2]
  generalize hM3 : mput ((q, Cell.lst (bsD (List.replicate n false))) :: M2) a (Cell.ins "Keeper" kF [bD b, .ref p, .ref q]) = M3 at *
  have w5 : Wr [a] ((a, Cell.ins "Keeper" [] []) :: M0) M3 := by rw [← hM3]; exact .put w4 (.inl (by simp))
  have l3 : M3.lookup a = some (.ins "Keeper" kF [bD b, .ref p, .ref q]) := by rw [← hM3]; exact lkP_same (c0 := .ins "Keeper" [("minus" : Str), ("nots" : Str)] [bD b, .ref p]) (by rw [lkN_ne qa.symm]; exact l2)
  have lp3 : M3.lookup p = some (.lst (bsD (List.replicate n false))) := by rw [← hM3, lkP_ne pa, lkN_ne qp.symm]; exact lp2
  have lq3 : M3.lookup q = some (.lst (bsD (List.replicate n false))) := by rw [← hM3, lkP_ne qa]; exact lkN_same
  simp only [l3, fld3, lq3, ixB (l := List.replicate n false) (i := w) (by simpa using hw)]
  refine ⟨trivial, by decide, trivial, ?_⟩
  refine hQ p q _ ⟨?_, ?_, ?_, qp.symm⟩ (.put w5 (.inr hqa)) hp hqa
  · rw [lkP_ne qa.symm]; exact l3
  · rw [lkP_ne qp.symm]; exact lp3
  · have e := lkP_same (c := .lst ((bsD (List.replicate n false)).set w (.int 1))) lq3
    rw [e]
    show some (Cell.lst ((bsD (List.replicate n false)).set w (bD true))) = some (Cell.lst (bsD ((List.replicate n false).set w true)))
    rw [bsD_set]
theorem enumD_at : ∀ (l : List D) (k i : Nat), (enumD k l)[i]? = l[i]?.map fun x => D.tup [.int (k + i : Nat), x]
  | [], k, i => by simp [enumD]
  | b :: l, k, 0 => by simp [enumD]
  | b :: l, k, i + 1 => by
    show (enumD (k + 1) l)[i]? = l[i]?.map _
    rw [enumD_at l (k + 1) i, show k + 1 + i = k + (i + 1) by omega]
theorem enumD_rng (l : List Bool) : enumD 0 (bsD l) = (List.range l.length).map fun i => D.tup [.int (i : Nat), .int (bI (gB l i))] := by
  refine List.ext_getElem? fun i => ?_
  rw [enumD_at, List.getElem?_map]
  by_cases h : i < l.length
  · rw [bsD_get h, List.getElem?_range h]
    simp [bD]
  · rw [List.getElem?_eq_none (by rw [bsD_len]; omega), List.getElem?_eq_none (by rw [List.length_range]; omega)]
    rfl
theorem forNR {st : Stay} {g : AG} {body : AS} {A : AEnds} (f : Nat → D) (n : Nat) (I : Nat → Sl → Mem → Prop) (hs : ∀ i Γ M, I i Γ M → StayM st M) (hn : ∀ Γ M, I n Γ M → A.nx Γ M)
    (hc : ∀ i Γ M (K : Sl → Mem → Prop), i < n → I i Γ M → (∀ Γ' M', I (i + 1) Γ' M' → K Γ' M') → g (f i) Γ fun Γ1 => body { A with nx := K, ct := K, bk := A.nx } Γ1 M) {Γ : Sl} {M : Mem} (h : I 0 Γ M) : aForNL st g body ((List.range n).map f) A Γ M := by
  have go : ∀ k i Γ M, i + k = n → I i Γ M → aForNL st g body ((List.range' i k).map f) A Γ M := by
    intro k
    induction k with
    | zero => exact fun i Γ M e h => ⟨hs _ _ _ h, hn _ _ (by rw [show n = i by omega]; exact h)⟩
    | succ k ih =>
      intro i Γ M e h
      rw [List.range'_succ, List.map_cons]
      exact ⟨hs _ _ _ h, hc i Γ M _ (by omega) h fun Γ' M' h' => ih (i + 1) Γ' M' (by omega) h'⟩
  rw [List.range_eq_range']
  exact go n 0 Γ M (by omega) h
theorem qSum_succ (x y : Kp) (i : Nat) : qSum x y (i + 1) = qSum x y i + qAt (gB x.n i) (gB x.s i) (gB y.n i) (gB y.s i) := by
  unfold qSum
  rw [List.range_succ, List.map_append, List.sum_append]
  simp
theorem CM_small {i j : Int} (h : -1000 ≤ i ∧ i ≤ 1000) (h2 : -1000 ≤ j ∧ j ≤ 1000) : CM i j := by
  left
  unfold CMul
  omega
theorem bI_bd (b : Bool) : 0 ≤ bI b ∧ bI b ≤ 1 := by cases b <;> decide
theorem rd_Keeper_quarters_with : ∀ ds M Q, S_Keeper_quarters_with ds M Q → as_Keeper_quarters_with (endsOf Q) (slots N_Keeper_quarters_with.length ds) M := by
  rintro ds M Q ⟨X, Y, n, rfl, ax, ay, ox, oy, hn, hq⟩
  show as_Keeper_quarters_with (endsOf Q) [.dat (.ref X.a), .dat (.ref Y.a), .non, .non, .non, .non, .non, .non] M
  unfold as_Keeper_quarters_with
  walk_at "gs"
  simp only [ax.a, ay.a, fld1, fld2, ax.p, bD, forNW_eq]
  have b1 := bI_bd X.k.m
  have b2 := bI_bd Y.k.m
  refine ⟨trivial, trivial, CM_small (by omega) (by omega), trivial, ?_⟩
  rw [enumD_rng]
  refine forNR _ X.k.n.length (fun i Γ M' => M' = M ∧ ∃ s3 s4 s5 s6 s7, Γ = [.dat (.ref X.a), .dat (.ref Y.a), .dat (.int (2 * (bI X.k.m + bI Y.k.m) + qSum X.k Y.k i)), s3, s4, s5, s6, s7]) ?_ ?_ ?_ ⟨rfl, .non, .non, .non, .non, .non, by simp [qSum]⟩
  · rintro i Γ M' ⟨rfl, _⟩ q hq
    cases List.mem_singleton.mp hq
    exact ax.p
  · rintro Γ M' ⟨rfl, s3, s4, s5, s6, s7, rfl⟩
    unfold as_Keeper_quarters_with_t1
    walk_at "gs"
    exact hq
  · rintro i Γ M' K hi ⟨rfl, s3, s4, s5, s6, s7, rfl⟩ hK
    have xs : i < X.k.s.length := by rw [ox.s, ← ox.n]; exact hi
    have yn : i < Y.k.n.length := by rw [oy.n, ← ox.n]; exact hi
    have ys : i < Y.k.s.length := by rw [oy.s, ← ox.n]; exact hi
    have fin : ∀ z : Int, z = qAt (gB X.k.n i) (gB X.k.s i) (gB Y.k.n i) (gB Y.k.s i) → K [.dat (.ref X.a), .dat (.ref Y.a), .dat (.int (2 * (bI X.k.m + bI Y.k.m) + qSum X.k Y.k i + z)), .dat (.int i), .dat (.int (bI (gB X.k.n i))), .dat (.int (bI (gB X.k.s i))), .dat (.int (bI (gB Y.k.n i))), .dat (.int (bI (gB Y.k.s i)))] M' := by
      intro z ez
      have e : 2 * (bI X.k.m + bI Y.k.m) + qSum X.k Y.k i + z = 2 * (bI X.k.m + bI Y.k.m) + qSum X.k Y.k (i + 1) := by rw [ez, qSum_succ, Int.add_assoc]
      rw [e]
      exact hK _ _ ⟨rfl, _, _, _, _, _, rfl⟩
    unfold as_Keeper_quarters_with_b1
    walk_at "gs"
    simp only [ax.a, ay.a, fld1, fld2, fld3, ax.q, ay.p, ay.q, atB xs, atB yn, atB ys, bI_one]
    refine ⟨trivial, trivial, trivial, ?_⟩
    have c1 := bI_bd (gB Y.k.n i)
    have c2 := bI_bd (gB Y.k.s i)
    cases en : gB X.k.n i <;> cases es : gB X.k.s i
    · simp only [cmp_int, eqD_int, bI_one, Bool.false_eq_true, if_false, true_and]
      have := fin 0 (by rw [en, es]; simp [qAt])
      rw [Int.add_zero, en, es] at this
      exact this
    · simp only [cmp_int, eqD_int, bI_one, Bool.false_eq_true, if_false, if_true, true_and]
      refine ⟨CM_small (by omega) (by omega), CM_small (by omega) (by omega), ?_⟩
      have := fin (bI (gB Y.k.n i) * (1 - 2 * bI (gB Y.k.s i))) (by rw [en, es]; simp [qAt])
      rw [en, es] at this
      exact this
    · simp only [cmp_int, eqD_int, bI_one, Bool.false_eq_true, if_false, if_true, true_and]
      refine ⟨CM_small (by omega) (by omega), CM_small (by omega) (by omega), ?_⟩
      have := fin (bI (gB Y.k.s i) * (2 * bI (gB Y.k.n i) - 1)) (by rw [en, es]; simp [qAt])
      rw [en, es] at this
      exact this
    · simp only [cmp_int, eqD_int, bI_one, if_true, true_and]
      have := fin (bI (gB Y.k.s i) - bI (gB Y.k.n i)) (by rw [en, es]; simp [qAt])
      rw [en, es] at this
      exact this
theorem lcNMapA {α : Type} (enc f : α → D) {st : Stay} {g : AG} {ae : AE} {vs : List Nat} {k : List D → Sl → Mem → Prop} {Γ : Sl} {M : Mem} (hst : StayM st M) : ∀ (xs : List α) (acc : List D), acc.length + xs.length ≤ 16777216 →
    (∀ x ∈ xs, ∀ P : D → Sl → Mem → Prop, P (f x) Γ M → g (enc x) Γ fun Γ1 => ae Γ1 M fun r Γ3 M3 => frz r Γ3 fun y Γ4 => P y (wipeS Γ4 vs) M3) → k (acc ++ xs.map f) Γ M → aLcNL st g aYes ae vs k (xs.map enc) acc Γ M
  | [], acc, _, _, h => by
    refine ⟨hst, ?_⟩
    simpa using h
  | x :: xs, acc, hl, hs, h => by
    rw [List.map_cons]
    unfold aLcNL
    simp only [aYes, if_true]
    refine ⟨hst, hs x List.mem_cons_self (fun y Γ' M' => acc.length < sizeLine ∧ aLcNL st g aYes ae vs k (xs.map enc) (acc ++ [y]) Γ' M') ⟨by rw [size_val]; simp at hl; omega, ?_⟩⟩
    exact lcNMapA enc f hst xs (acc ++ [f x]) (by simp at hl ⊢; omega) (fun y hy => hs y (List.mem_cons_of_mem _ hy)) (by simpa using h)
theorem zipD_bs : ∀ a b : List Bool, zipD (bsD a) (bsD b) = (a.zip b).map fun p => D.tup [.int (bI p.1), .int (bI p.2)]
  | [], _ => by simp [zipD, bsD]
  | _ :: _, [] => by simp [zipD, bsD]
  | x :: a, y :: b => by
    have := zipD_bs a b
    unfold zipD bsD at this ⊢
    rw [List.map_cons, List.map_cons, List.zipWith_cons_cons, this]
    rfl
theorem half4 (i : Int) : i.fmod 4 / 2 = bI (decide (i.fmod 4 / 2 = 1)) := by
  have h0 := Int.fmod_nonneg_of_pos i (b := 4) (by decide)
  have h1 := Int.fmod_lt_of_pos i (b := 4) (by decide)
  by_cases e : i.fmod 4 / 2 = 1
  · rw [decide_eq_true e, e]; rfl
  · rw [decide_eq_false e]; show _ = (0 : Int); omega
theorem rd_Keeper_take_in : ∀ ds M Q, S_Keeper_take_in ds M Q → as_Keeper_take_in (endsOf Q) (slots N_Keeper_take_in.length ds) M := by
  rintro ds M Q ⟨X, Y, n, rfl, ax, ay, ox, oy, hn, ne, hQ⟩
  show as_Keeper_take_in (endsOf Q) [.dat (.ref X.a), .dat (.ref Y.a), .non, .non] M
  obtain ⟨xap, xaq⟩ := ax.apq
  have yp : Y.p ≠ X.a := fun e => by have := ax.a; rw [← e, ay.p] at this; cases this
  have yq : Y.q ≠ X.a := fun e => by have := ax.a; rw [← e, ay.q] at this; cases this
  unfold as_Keeper_take_in
  walk_at "gs"
  simp only [ax.a]
  refine ⟨trivial, by decide, X, Y, n, rfl, ax, ay, ox, oy, hn, ?_⟩
  walk_at "gs"
  simp only [ax.a, putN1, put1, bD]
  rw [half4]
  generalize hM1 : mput M X.a (Cell.ins "Keeper" kF [D.int (bI (decide ((qwF X.k Y.k).fmod 4 / 2 = 1))), .ref X.p, .ref X.q]) = M1 at *
  have w1 : Wr [X.a] M M1 := by rw [← hM1]; exact .put .refl (.inl (by simp))
  have l1 : M1.lookup X.a = some (.ins "Keeper" kF [bD (tinK X.k Y.k).m, .ref X.p, .ref X.q]) := by rw [← hM1]; exact lkP_same ax.a
  have lp1 : M1.lookup X.p = some (.lst (bsD X.k.n)) := by rw [← hM1, lkP_ne xap.symm]; exact ax.p
  have lq1 : M1.lookup X.q = some (.lst (bsD X.k.s)) := by rw [← hM1, lkP_ne xaq.symm]; exact ax.q
  have ya1 : M1.lookup Y.a = some (.ins "Keeper" kF [bD Y.k.m, .ref Y.p, .ref Y.q]) := by rw [← hM1, lkP_ne ne.symm]; exact ay.a
  have yp1 : M1.lookup Y.p = some (.lst (bsD Y.k.n)) := by rw [← hM1, lkP_ne yp]; exact ay.p
  have yq1 : M1.lookup Y.q = some (.lst (bsD Y.k.s)) := by rw [← hM1, lkP_ne yq]; exact ay.q
  simp only [l1, ya1, fld2, lp1, yp1, lcNW_eq]
  refine ⟨by decide, by constructor <;> decide, trivial, kFl, trivial, trivial, ?_⟩
  rw [zipD_bs]
  have st1 : StayM [(X.p, bsD X.k.n), (Y.p, bsD Y.k.n)] M1 := fun q hq => by
    simp only [List.mem_cons, List.not_mem_nil, or_false] at hq
    rcases hq with rfl | rfl
    · exact lp1
    · exact yp1
  refine lcNMapA (fun p : Bool × Bool => D.tup [.int (bI p.1), .int (bI p.2)]) (fun p => D.int (bI (p.1 ^^ p.2))) st1 _ [] (by simp only [List.length_nil, List.length_zip, ox.n, oy.n]; omega) (fun p _ P hP => ?_) ?_
  · unfold as_Keeper_take_in_e1
    walk_at "gs"
    rw [xor_bI]
    exact hP
  rw [List.nil_append, show ((X.k.n.zip Y.k.n).map fun p => D.int (bI (p.1 ^^ p.2))) = bsD (tinK X.k Y.k).n by
    show _ = bsD (List.zipWith (· ^^ ·) X.k.n Y.k.n)
    unfold bsD
    rw [List.zip_eq_zipWith, List.map_zipWith, List.map_zipWith]
    rfl]
  walk_at "gs"
  intro p hp
  have d1 : ∀ b, b ∉ dom M1 → b ∉ dom M := fun b h z => h (w1.dom z)
  have pa : p ≠ X.a := fun e => hp (by rw [e]; exact lk_dom l1)
  have pY : p ≠ Y.a := fun e => hp (by rw [e]; exact lk_dom ya1)
  have pq : p ≠ X.q := fun e => hp (by rw [e]; exact lk_dom lq1)
  have pYq : p ≠ Y.q := fun e => hp (by rw [e]; exact lk_dom yq1)
  simp only [lkN_ne pa.symm, l1, putN2, put2]
  have w2 : Wr [X.a] M ((p, Cell.lst (bsD (tinK X.k Y.k).n)) :: M1) := .new w1 hp
  generalize hM2 : mput ((p, Cell.lst (bsD (tinK X.k Y.k).n)) :: M1) X.a (Cell.ins "Keeper" kF [bD (tinK X.k Y.k).m, .ref p, .ref X.q]) = M2 at *
  have w3 : Wr [X.a] M M2 := by rw [← hM2]; exact .put w2 (.inl (by simp))
  have l2 : M2.lookup X.a = some (.ins "Keeper" kF [bD (tinK X.k Y.k).m, .ref p, .ref X.q]) := by rw [← hM2]; exact lkP_same (c0 := .ins "Keeper" kF [bD (tinK X.k Y.k).m, .ref X.p, .ref X.q]) (by rw [lkN_ne pa.symm]; exact l1)
  have lp2 : M2.lookup p = some (.lst (bsD (tinK X.k Y.k).n)) := by rw [← hM2, lkP_ne pa]; exact lkN_same
  have lq2 : M2.lookup X.q = some (.lst (bsD X.k.s)) := by rw [← hM2, lkP_ne xaq.symm, lkN_ne pq.symm]; exact lq1
  have ya2 : M2.lookup Y.a = some (.ins "Keeper" kF [bD Y.k.m, .ref Y.p, .ref Y.q]) := by rw [← hM2, lkP_ne ne.symm, lkN_ne pY.symm]; exact ya1
  have yq2 : M2.lookup Y.q = some (.lst (bsD Y.k.s)) := by rw [← hM2, lkP_ne yq, lkN_ne pYq.symm]; exact yq1
  refine ⟨trivial, kFl, ?_⟩
  simp only [l2, ya2, fld3, lq2, yq2, lcNW_eq]
  refine ⟨trivial, trivial, ?_⟩
  rw [zipD_bs]
  have st2 : StayM [(X.q, bsD X.k.s), (Y.q, bsD Y.k.s)] M2 := fun q hq => by
    simp only [List.mem_cons, List.not_mem_nil, or_false] at hq
    rcases hq with rfl | rfl
    · exact lq2
    · exact yq2
  refine lcNMapA (fun p : Bool × Bool => D.tup [.int (bI p.1), .int (bI p.2)]) (fun p => D.int (bI (p.1 ^^ p.2))) st2 _ [] (by simp only [List.length_nil, List.length_zip, ox.s, oy.s]; omega) (fun p _ P hP => ?_) ?_
  · unfold as_Keeper_take_in_e2
    walk_at "gs"
    rw [xor_bI]
    exact hP
  rw [List.nil_append, show ((X.k.s.zip Y.k.s).map fun p => D.int (bI (p.1 ^^ p.2))) = bsD (tinK X.k Y.k).s by
    show _ = bsD (List.zipWith (· ^^ ·) X.k.s Y.k.s)
    unfold bsD
    rw [List.zip_eq_zipWith, List.map_zipWith, List.map_zipWith]
    rfl]
  walk_at "gs"
  intro q hq
  have qa : q ≠ X.a := fun e => hq (by rw [e]; exact lk_dom l2)
  have qp : q ≠ p := fun e => hq (by rw [e]; exact lk_dom lp2)
  simp only [lkN_ne qa.symm, l2, putN3, put3]
  refine ⟨trivial, kFl, ?_⟩
  refine hQ p q _ ⟨?_, ?_, ?_, qp.symm⟩ (.put (.new w3 hq) (.inl (by simp))) (d1 p hp) (fun z => hq (w3.dom z))
  · exact lkP_same (c0 := .ins "Keeper" kF [bD (tinK X.k Y.k).m, .ref p, .ref X.q]) (by rw [lkN_ne qa.symm]; exact l2)
  · show List.lookup p _ = _
    rw [lkP_ne pa, lkN_ne qp.symm]; exact lp2
  · show List.lookup q _ = _
    rw [lkP_ne qa]; exact lkN_same
theorem rd_Keeper_letters : ∀ ds M Q, S_Keeper_letters ds M Q → as_Keeper_letters (endsOf Q) (slots N_Keeper_letters.length ds) M := by
  rintro ds M Q ⟨X, n, rfl, ax, ox, hn, hq⟩
  show as_Keeper_letters (endsOf Q) [.dat (.ref X.a), .non, .non] M
  unfold as_Keeper_letters
  walk_at "gs"
  have b1 := bI_bd X.k.m
  simp only [ax.a, fld1, fld2, fld3, bD, ax.p, ax.q, lcNW_eq]
  refine ⟨trivial, CM_small (by omega) (by omega), trivial, trivial, ?_⟩
  rw [zipD_bs]
  have st1 : StayM [(X.p, bsD X.k.n), (X.q, bsD X.k.s)] M := fun q hq => by
    simp only [List.mem_cons, List.not_mem_nil, or_false] at hq
    rcases hq with rfl | rfl
    · exact ax.p
    · exact ax.q
  refine lcNMapA (fun p : Bool × Bool => D.tup [.int (bI p.1), .int (bI p.2)]) (fun p => D.str ⟨#[sgN p.1 p.2]⟩) st1 _ [] (by simp only [List.length_nil, List.length_zip, ox.n, ox.s]; omega) (fun p _ P hP => ?_) ?_
  · obtain ⟨x, y⟩ := p
    unfold as_Keeper_letters_e1
    have i0 : atI [D.str "iz", D.str "xy"] (bI false) = some (D.str "iz") := rfl
    have i1 : atI [D.str "iz", D.str "xy"] (bI true) = some (D.str "xy") := rfl
    have c0 : atI ("iz" : Str).cps.toList (bI false) = some 105 := by decide
    have c1 : atI ("iz" : Str).cps.toList (bI true) = some 122 := by decide
    have c2 : atI ("xy" : Str).cps.toList (bI false) = some 120 := by decide
    have c3 : atI ("xy" : Str).cps.toList (bI true) = some 121 := by decide
    cases x <;> cases y
    · walk_at "gs"
      simp only [i0, c0]
      exact ⟨by decide, hP⟩
    · walk_at "gs"
      simp only [i0, c1]
      exact ⟨by decide, hP⟩
    · walk_at "gs"
      simp only [i1, c2]
      exact ⟨by decide, hP⟩
    · walk_at "gs"
      simp only [i1, c3]
      exact ⟨by decide, hP⟩
  rw [List.nil_append]
  walk_at "gs"
  have es : (X.k.n.zip X.k.s).map (fun p => D.str ⟨#[sgN p.1 p.2]⟩) = ((X.k.n.zip X.k.s).map fun p => SX.S [sgN p.1 p.2]).map D.str := by
    rw [List.map_map]
    rfl
  rw [es, strsD_map]
  have ej : Txt.join "" ((X.k.n.zip X.k.s).map fun p => SX.S [sgN p.1 p.2]) = letS X.k := by
    have e1 : ((X.k.n.zip X.k.s).map fun p => SX.S [sgN p.1 p.2]) = ((X.k.n.zip X.k.s).map fun p => [sgN p.1 p.2]).map SX.S := by rw [List.map_map]; rfl
    have e0 : ("" : Str) = SX.S [] := by decide
    rw [e1, e0, SX.join_S]
    have : ∀ l : List (Bool × Bool), TL.joinL [] (l.map fun p => [sgN p.1 p.2]) = l.map fun p => sgN p.1 p.2 := by
      intro l
      induction l with
      | nil => rfl
      | cons p l ih =>
        cases l with
        | nil => rfl
        | cons q r =>
          show [sgN p.1 p.2] ++ ([] ++ TL.joinL [] ((q :: r).map fun p => [sgN p.1 p.2])) = _
          rw [ih]
          rfl
    rw [this]
    show (⟨_⟩ : Str) = ⟨_⟩
    congr 1
    rw [List.zip_eq_zipWith, List.map_zipWith]
  simp only [ej]
  refine ⟨?_, hq⟩
  rw [show ("" : Str).length = 0 from by decide, Nat.mul_zero, Nat.add_zero, List.map_map]
  have : ((X.k.n.zip X.k.s).map ((fun x : Str => x.length) ∘ fun p => SX.S [sgN p.1 p.2])) = (X.k.n.zip X.k.s).map fun _ => 1 := List.map_congr_left fun _ _ => rfl
  rw [this, List.map_const', List.sum_replicate_nat, List.length_zip, ox.n, ox.s]
  omega
theorem Wr.after {S S' : List Addr} {M M1 M2 : Mem} (w : Wr S M M1) (v : Wr S' M1 M2) (h : ∀ b ∈ S', b ∈ S ∨ b ∉ Gw.dom M) : Wr S M M2 := by
  induction v with
  | refl => exact w
  | put v z ih =>
    refine .put ih ?_
    rcases z with z | z
    · exact h _ z
    · exact .inr fun y => z (w.dom y)
  | new v z ih => exact .new ih z
theorem KAt.dm {M : Mem} {X : KA} (h : KAt M X) : ∀ b ∈ X.ads, b ∈ dom M := fun b hb => by
  simp only [KA.ads, List.mem_cons, List.not_mem_nil, or_false] at hb
  rcases hb with rfl | rfl | rfl
  · exact lk_dom h.a
  · exact lk_dom h.p
  · exact lk_dom h.q
theorem KAt.ndA {M : Mem} {X : KA} (h : KAt M X) : X.ads.Nodup := by
  obtain ⟨h1, h2⟩ := h.apq
  have h3 := h.pq
  simp [KA.ads, h1, h2, h3]
theorem KAt.stay {S : List Addr} {M M1 : Mem} {X : KA} (h : KAt M X) (w : Wr S M M1) (n : ∀ b ∈ X.ads, b ∉ S) : KAt M1 X := by
  have n1 := n X.a (by simp [KA.ads])
  have n2 := n X.p (by simp [KA.ads])
  have n3 := n X.q (by simp [KA.ads])
  exact ⟨by rw [w.lk (lk_dom h.a) n1]; exact h.a, by rw [w.lk (lk_dom h.p) n2]; exact h.p, by rw [w.lk (lk_dom h.q) n3]; exact h.q, h.pq⟩
abbrev adsL (L : List KA) : List Addr := (L.map KA.ads).flatten
theorem mem_adsL {L : List KA} {b : Addr} : b ∈ adsL L ↔ ∃ X ∈ L, b ∈ X.ads := by
  unfold adsL
  rw [List.mem_flatten]
  constructor
  · rintro ⟨l, hl, hb⟩
    obtain ⟨X, hX, rfl⟩ := List.mem_map.mp hl
    exact ⟨X, hX, hb⟩
  · rintro ⟨X, hX, hb⟩
    exact ⟨_, List.mem_map.mpr ⟨X, hX, rfl⟩, hb⟩
theorem KL.dm {M0 M : Mem} {L : List KA} (h : KL M0 L M) : ∀ b ∈ adsL L, b ∈ dom M := fun b hb => by
  obtain ⟨X, hX, hb⟩ := mem_adsL.mp hb
  exact (h.at_ X hX).dm b hb
theorem KL.sub0 {M0 M : Mem} {L : List KA} (h : KL M0 L M) : ∀ b ∈ dom M0, b ∈ dom M := fun b hb => by
  obtain ⟨N, e⟩ := h.ex
  rw [e]
  unfold dom at hb ⊢
  rw [List.map_append]
  exact List.mem_append_right _ hb
theorem adsL_mid {A B : List KA} {X : KA} : adsL (A ++ X :: B) = adsL A ++ (X.ads ++ adsL B) := by simp [adsL]
theorem KL.wr {M0 M M1 : Mem} {A B : List KA} {X X' : KA} (h : KL M0 (A ++ X :: B) M) (w : Wr X.ads M M1) (k : KAt M1 X') (hx : ∀ b ∈ X'.ads, b ∈ X.ads ∨ b ∉ dom M) : KL M0 (A ++ X' :: B) M1 := by
  have nd : (adsL (A ++ X :: B)).Nodup := h.nd
  rw [adsL_mid] at nd
  obtain ⟨nA, nXB, dis⟩ := List.nodup_append.mp nd
  obtain ⟨nX, nB, dis2⟩ := List.nodup_append.mp nXB
  have aX : KAt M X := h.at_ X (by simp)
  have inA : ∀ b ∈ adsL A, b ∈ dom M := fun b hb => h.dm b (by rw [adsL_mid]; exact List.mem_append_left _ hb)
  have inB : ∀ b ∈ adsL B, b ∈ dom M := fun b hb => h.dm b (by rw [adsL_mid]; exact List.mem_append_right _ (List.mem_append_right _ hb))
  refine ⟨w.app h.ex (h.no X (by simp)), fun Y hY => ?_, ?_, fun Y hY b hb => ?_⟩
  · rcases List.mem_append.mp hY with hY | hY
    · refine (h.at_ Y (List.mem_append_left _ hY)).stay w fun b hb z => ?_
      exact dis b (mem_adsL.mpr ⟨Y, hY, hb⟩) b (List.mem_append_left _ z) rfl
    rcases List.mem_cons.mp hY with rfl | hY
    · exact k
    · refine (h.at_ Y (List.mem_append_right _ (List.mem_cons_of_mem _ hY))).stay w fun b hb z => ?_
      exact dis2 b z b (mem_adsL.mpr ⟨Y, hY, hb⟩) rfl
  · show (adsL (A ++ X' :: B)).Nodup
    rw [adsL_mid]
    refine List.nodup_append.mpr ⟨nA, List.nodup_append.mpr ⟨k.ndA, nB, fun b hb c hc e => ?_⟩, fun b hb c hc e => ?_⟩
    · subst e
      rcases hx b hb with z | z
      · exact dis2 b z b hc rfl
      · exact z (inB b hc)
    · subst e
      rcases List.mem_append.mp hc with hc | hc
      · rcases hx b hc with z | z
        · exact dis b hb b (List.mem_append_left _ z) rfl
        · exact z (inA b hb)
      · exact dis b hb b (List.mem_append_right _ hc) rfl
  · rcases List.mem_append.mp hY with hY | hY
    · exact h.no Y (List.mem_append_left _ hY) b hb
    rcases List.mem_cons.mp hY with rfl | hY
    · rcases hx b hb with z | z
      · exact h.no X (by simp) b z
      · exact fun y => z (h.sub0 b y)
    · exact h.no Y (List.mem_append_right _ (List.mem_cons_of_mem _ hY)) b hb
theorem KL.add {M0 M M1 : Mem} {L : List KA} {X : KA} (h : KL M0 L M) (w : Wr [] M M1) (k : KAt M1 X) (hx : ∀ b ∈ X.ads, b ∉ dom M) : KL M0 (L ++ [X]) M1 := by
  refine ⟨w.app h.ex (fun b hb => nomatch hb), fun Y hY => ?_, ?_, fun Y hY b hb => ?_⟩
  · rcases List.mem_append.mp hY with hY | hY
    · exact (h.at_ Y hY).stay w fun b hb z => nomatch z
    · rw [List.mem_singleton.mp hY]; exact k
  · show (adsL (L ++ [X])).Nodup
    rw [show adsL (L ++ [X]) = adsL L ++ X.ads by simp [adsL]]
    exact List.nodup_append.mpr ⟨h.nd, k.ndA, fun b hb c hc e => hx c hc (by rw [← e]; exact h.dm b hb)⟩
  · rcases List.mem_append.mp hY with hY | hY
    · exact h.no Y hY b hb
    · rw [List.mem_singleton.mp hY] at hb
      exact fun y => hx b hb (h.sub0 b y)
theorem KL.stay {S : List Addr} {M0 M M1 : Mem} {L : List KA} (h : KL M0 L M) (w : Wr S M M1) (n : ∀ b ∈ S, b ∉ dom M0) (n2 : ∀ b ∈ adsL L, b ∉ S) : KL M0 L M1 :=
  ⟨w.app h.ex n, fun X hX => (h.at_ X hX).stay w fun b hb => n2 b (mem_adsL.mpr ⟨X, hX, hb⟩), h.nd, h.no⟩
theorem KS.ln {M0 M : Mem} {n : Nat} {l : Addr} {L : List KA} (h : KS M0 n l L M) : ∀ b ∈ adsL L, b ≠ l := fun b hb e => by
  obtain ⟨X, hX, hb⟩ := mem_adsL.mp hb
  have aX := h.kl.at_ X hX
  subst e
  have lk := h.lk
  have ne : ∀ l : List Bool, some (Cell.lst (bsD l)) ≠ some (Cell.lst (refL L)) := fun l z => by
    have z : bsD l = refL L := by simpa using z
    cases L with
    | nil => cases hX
    | cons Y L =>
      cases l with
      | nil => cases z
      | cons c l => cases z
  simp only [KA.ads, List.mem_cons, List.not_mem_nil, or_false] at hb
  rcases hb with e | e | e
  · rw [e, aX.a] at lk; cases lk
  · rw [e, aX.p] at lk; exact ne _ lk
  · rw [e, aX.q] at lk; exact ne _ lk
theorem KS.wr {M0 M M1 : Mem} {n : Nat} {l : Addr} {A B : List KA} {X X' : KA} (h : KS M0 n l (A ++ X :: B) M) (w : Wr X.ads M M1) (k : KAt M1 X') (ea : X'.a = X.a) (ok : KOk n X'.k) (hx : ∀ b ∈ X'.ads, b ∈ X.ads ∨ b ∉ dom M) : KS M0 n l (A ++ X' :: B) M1 := by
  refine ⟨h.kl.wr w k hx, ?_, fun Y hY => ?_, h.nl⟩
  · rw [w.lk (lk_dom h.lk) fun z => h.ln l (by rw [adsL_mid]; exact List.mem_append_right _ (List.mem_append_left _ z)) rfl, h.lk]
    simp [refL, ea]
  · rcases List.mem_append.mp hY with hY | hY
    · exact h.ok Y (List.mem_append_left _ hY)
    rcases List.mem_cons.mp hY with rfl | hY
    · exact ok
    · exact h.ok Y (List.mem_append_right _ (List.mem_cons_of_mem _ hY))
theorem KOk.gK {n : Nat} {k : Kp} (h : KOk n k) (g : Gt) : KOk n (gK g k) := by
  unfold Law.gK
  split
  · exact ⟨by simp [hK, h.n], by simp [hK, h.s]⟩
  split
  · refine ⟨by simp [tK, h.n], ?_⟩
    show (if g.j = 4 then k.s else k.s.set _ _).length = n
    split
    · exact h.s
    · rw [List.length_set]; exact h.s
  split
  · unfold nK
    split
    · exact ⟨h.n, h.s⟩
    · exact ⟨by simp [h.n], by simp [h.s]⟩
  split
  · exact ⟨by simp [cK, swB, h.n], by simp [cK, swB, h.s]⟩
  · exact h
theorem KOk.init (n w : Nat) (b : Bool) : KOk n (initK n w b) := ⟨by simp [initK], by simp [initK]⟩
theorem KOk.tin {n : Nat} {k c : Kp} (h : KOk n k) (hc : KOk n c) : KOk n (tinK k c) := ⟨by simp [tinK, h.n, hc.n], by simp [tinK, h.s, hc.s]⟩
theorem len0 (cs : List Int) : ((cs.map D.int).length == 0) = decide (cs = []) := by cases cs <;> simp
theorem rd_is_short_gate : ∀ ds M Q, S_is_short_gate ds M Q → as_is_short_gate (endsOf Q) (slots N_is_short_gate.length ds) M := by
  rintro ds M Q ⟨g, rfl, j0, j8, cl, hq⟩
  show as_is_short_gate (endsOf Q) [.dat (.tup [.str g.w, .int g.j, .tup (g.cs.map .int), .int g.t]), .non, .non, .non, .non] M
  unfold as_is_short_gate
  walk_at "gs"
  unfold shG at hq
  by_cases e1 : g.w = "turn"
  · rw [if_pos e1] at hq
    rw [if_pos (by simpa using e1)]
    simp only [List.length_map, fmod2]
    by_cases e2 : g.j % 2 = 0
    · rw [decide_eq_true e2, Bool.true_and] at hq
      simp only [e2, decide_true, if_true]
      refine ⟨by decide, ?_⟩
      have := len0 g.cs
      rw [List.length_map] at this
      rw [this]
      exact hq
    · rw [decide_eq_false e2, Bool.false_and] at hq
      simp only [e2, decide_false, Bool.false_eq_true, if_false]
      exact ⟨by decide, hq⟩
  · rw [if_neg e1] at hq
    rw [if_neg (by simpa using e1)]
    unfold as_is_short_gate_t2
    walk_at "gs"
    by_cases e2 : g.w = "half"
    · rw [if_pos e2] at hq
      rw [if_pos (by simpa using e2), len0]
      exact hq
    · rw [if_neg e2] at hq
      rw [if_neg (by simpa using e2)]
      unfold as_is_short_gate_t1
      walk_at "gs"
      show Q (.dat (.bl (decide (((g.cs.map D.int).length : Int) ≤ 1)))) M
      have e : decide (((g.cs.map D.int).length : Int) ≤ 1) = decide (g.cs.length ≤ 1) := by rw [decide_eq_decide, List.length_map]; omega
      rw [e]
      exact hq
theorem rd_is_short : ∀ ds M Q, S_is_short ds M Q → as_is_short (endsOf Q) (slots N_is_short.length ds) M := by
  rintro ds M Q ⟨n, gs, rfl, ok, gl, hq⟩
  show as_is_short (endsOf Q) [.dat (.tup [.int n, .tup (gs.map gtD)]), .non, .non, .non] M
  unfold as_is_short
  walk_at "gs"
  refine lcMapA gtD (fun g => .bl (shG g)) gs [] (by simp; omega) (fun g hg P hP => ?_) ?_
  · unfold as_is_short_e1
    walk_at "gs"
    exact ⟨g, rfl, (ok g hg).1, (ok g hg).2.1, (ok g hg).2.2, by walk_at "gs"; exact hP⟩
  rw [List.nil_append]
  walk_at "gs"
  simp only [bls_fun, List.all_map]
  exact hq
theorem rd_look_short : ∀ ds M Q Z, S_look_short ds M Q Z → as_look_short (fun x _ M => Z x M) (endsOf Q) (slots N_look_short.length ds) M := by
  rintro ds M Q Z ⟨n, gs, rfl, ok, gl, hq, hz⟩
  show as_look_short _ (endsOf Q) [.dat (circD n gs)] M
  unfold as_look_short
  walk_at "gs"
  refine ⟨n, gs, rfl, ok, gl, ?_⟩
  cases c : gs.all shG with
  | true =>
    walk_at "gs"
    exact hq c
  | false =>
    walk_at "gs"
    exact hz c
theorem lcRg {g : AG} {tt : AT} {ae : AE} {vs : List Nat} {k : List D → Sl → Mem → Prop} (f : Nat → D) (n : Nat) (I : Nat → List D → Sl → Mem → Prop) (hn : ∀ acc Γ M, I n acc Γ M → k acc Γ M)
    (hc : ∀ i acc Γ M (K : List D → Sl → Mem → Prop), i < n → I i acc Γ M → (∀ acc' Γ' M', I (i + 1) acc' Γ' M' → K acc' Γ' M') → g (f i) Γ fun Γ1 => tt Γ1 M fun b Γ2 M2 => if b = true then ae Γ2 M2 fun r Γ3 M3 => frz r Γ3 fun y Γ4 => acc.length < sizeLine ∧ K (acc ++ [y]) (wipeS Γ4 vs) M3
      else K acc (wipeS Γ2 vs) M2) {acc : List D} {Γ : Sl} {M : Mem} (h : I 0 acc Γ M) : aLcL g tt ae vs k ((List.range n).map f) acc Γ M := by
  have go : ∀ m i acc Γ M, i + m = n → I i acc Γ M → aLcL g tt ae vs k ((List.range' i m).map f) acc Γ M := by
    intro m
    induction m with
    | zero => exact fun i acc Γ M e h => hn _ _ _ (by rw [show n = i by omega]; exact h)
    | succ m ih =>
      intro i acc Γ M e h
      rw [List.range'_succ, List.map_cons]
      exact hc i acc Γ M _ (by omega) h fun acc' Γ' M' h' => ih (i + 1) acc' Γ' M' (by omega) h'
  rw [List.range_eq_range']
  exact go n 0 acc Γ M (by omega) h
theorem forMA {p : Addr} {es : List D} {g : AG} {body : AS} {A : AEnds} {α : Type} (enc : α → D) (I : List α → List α → Sl → Mem → Prop) (hs : ∀ dn ls Γ M, I dn ls Γ M → M.lookup p = some (.lst es)) (hn : ∀ dn Γ M, I dn [] Γ M → A.nx Γ M)
    (hc : ∀ dn x ls Γ M (K : Sl → Mem → Prop), I dn (x :: ls) Γ M → (∀ Γ' M', I (dn ++ [x]) ls Γ' M' → K Γ' M') → g (enc x) Γ fun Γ1 => body { A with nx := K, ct := K, bk := A.nx } Γ1 M) :
    ∀ (ls dn : List α) {Γ : Sl} {M : Mem}, I dn ls Γ M → aForML p es g body (ls.map enc) A Γ M
  | [], dn, Γ, M, h => ⟨hs _ _ _ _ h, hn dn Γ M h⟩
  | x :: ls, dn, Γ, M, h => ⟨hs _ _ _ _ h, hc dn x ls Γ M _ h fun Γ' M' h' => forMA enc I hs hn hc ls (dn ++ [x]) h'⟩
theorem rd_keepers_behind : ∀ ds M Q, S_keepers_behind ds M Q → as_keepers_behind (endsOf Q) (slots N_keepers_behind.length ds) M := by
  rintro ds M Q ⟨n, gs, row, rfl, rl, n100, gl, ok, hq⟩
  show as_keepers_behind (endsOf Q) [.dat (.tup [.int n, .tup (gs.map gtD)]), .dat (.tup (bsD row)), .non, .non, .non, .non, .non, .non, .non] M
  unfold as_keepers_behind
  walk_at "gs"
  rw [enumD_rng, rl]
  refine lcRg _ n (fun i acc Γ M' => Γ = [.dat (.tup [.int n, .tup (gs.map gtD)]), .dat (.tup (bsD row)), .dat (.int n), .dat (.tup (gs.map gtD)), .non, .non, .non, .non, .non] ∧ ∃ L, acc = refL L ∧ L.map (·.k) = (List.range i).map (fun w => initK n w (gB row w)) ∧ KL M L M' ∧ Wr [] M M') ?_ ?_ ⟨rfl, [], rfl, rfl, ⟨⟨[], rfl⟩, fun X hX => (nomatch hX), List.nodup_nil, fun X hX => (nomatch hX)⟩, .refl⟩
  · rintro acc Γ M1 ⟨rfl, L, rfl, hL, kl, w1⟩
    walk_at "gs"
    intro l hl
    have hok : ∀ X ∈ L, KOk n X.k := fun X hX => by
      have : X.k ∈ L.map (·.k) := List.mem_map.mpr ⟨X, hX, rfl⟩
      rw [hL] at this
      obtain ⟨w, _, e⟩ := List.mem_map.mp this
      rw [← e]
      exact KOk.init n w _
    have ks0 : KS M n l L ((l, .lst (refL L)) :: M1) := ⟨kl.stay (S := []) (.new .refl hl) (fun b hb => nomatch hb) (fun b _ hb => nomatch hb), lkN_same, hok, fun z => hl (kl.sub0 l z)⟩
    have w2 : Wr [] M ((l, .lst (refL L)) :: M1) := .new w1 hl
    have hrow : (row.mapIdx fun w b => initK n w b) = (List.range n).map (fun w => initK n w (gB row w)) := by
      refine List.ext_getElem? fun i => ?_
      rw [List.getElem?_mapIdx, List.getElem?_map]
      by_cases h : i < n
      · have h' : i < row.length := by omega
        rw [List.getElem?_range h, List.getElem?_eq_getElem h']
        simp [gB, List.getElem?_eq_getElem h']
      · rw [List.getElem?_eq_none (by omega), List.getElem?_eq_none (by simp; omega)]
        rfl
    refine forA gtD (fun dn ls Γ M' => gs = dn ++ ls ∧ ∃ s5 s6, Γ = [.dat (.tup [.int n, .tup (gs.map gtD)]), .dat (.tup (bsD row)), .dat (.int n), .dat (.tup (gs.map gtD)), .dat (.ref l), s5, s6, .non, .non] ∧ ∃ L, L.map (·.k) = dn.foldl (fun l g => l.map (gK g)) (row.mapIdx fun w b => initK n w b) ∧ KS M n l L M' ∧ Wr [] M M') ?_ ?_ gs [] ⟨rfl, .non, .non, rfl, L, by rw [hL, hrow]; rfl, ks0, w2⟩
    · rintro dn Γ M2 ⟨e, s5, s6, rfl, L2, h2, ks, w3⟩
      rw [List.append_nil] at e
      subst e
      unfold as_keepers_behind_t1
      walk_at "gs"
      exact hq l L2 M2 h2 ks w3
    · rintro dn g ls Γ M2 K ⟨e, s5, s6, rfl, L2, h2, ks, w3⟩ hK
      obtain ⟨go, gsh⟩ := ok g (by rw [e]; simp)
      unfold as_keepers_behind_b2
      walk_at "gs"
      simp only [ks.lk, forMW_eq]
      refine forMA (fun X : KA => D.ref X.a) (fun dn2 ls2 Γ M' => L2 = dn2 ++ ls2 ∧ ∃ s6, Γ = [.dat (.tup [.int n, .tup (gs.map gtD)]), .dat (.tup (bsD row)), .dat (.int n), .dat (.tup (gs.map gtD)), .dat (.ref l), .dat (gtD g), s6, .non, .non] ∧ ∃ dn', dn'.map (·.a) = dn2.map (·.a) ∧ dn'.map (·.k) = dn2.map (fun X => gK g X.k) ∧ KS M n l (dn' ++ ls2) M' ∧ Wr [] M M') ?_ ?_ ?_ L2 [] ⟨rfl, s6, rfl, [], rfl, rfl, ks, w3⟩
      · rintro dn2 ls2 Γ M3 ⟨e2, s6', rfl, dn', ha, hk, ks', w4⟩
        rw [ks'.lk]
        congr 2
        rw [e2]
        show (dn' ++ ls2).map _ = (dn2 ++ ls2).map _
        rw [List.map_append, List.map_append]
        congr 1
        have := congrArg (List.map D.ref) ha
        rw [List.map_map, List.map_map] at this
        exact this
      · rintro dn2 Γ M3 ⟨e2, s6', rfl, dn', ha, hk, ks', w4⟩
        rw [List.append_nil] at e2 ks'
        subst e2
        refine hK _ _ ⟨by rw [e]; simp, _, _, rfl, dn', ?_, ks', w4⟩
        rw [hk, List.foldl_append, List.foldl_cons, List.foldl_nil, ← h2, List.map_map]
        rfl
      · rintro dn2 X ls2 Γ M3 K' ⟨e2, s6', rfl, dn', ha, hk, ks', w4⟩ hK'
        have ax : KAt M3 X := ks'.kl.at_ X (by simp)
        have okx : KOk n X.k := ks'.ok X (by simp)
        unfold as_keepers_behind_b1
        walk_at "gs"
        simp only [ax.a]
        refine ⟨trivial, by decide, X, n, g, rfl, ax, okx, go, gsh, n100, fun M4 k4 w5 => ?_⟩
        walk_at "gs"
        refine hK' _ _ ⟨by rw [e2]; simp, _, rfl, dn' ++ [{ X with k := gK g X.k }], ?_, ?_, ?_, w4.after w5 fun b hb => .inr (ks'.kl.no X (by simp) b hb)⟩
        · rw [List.map_append, List.map_append, ha]; rfl
        · rw [List.map_append, List.map_append, hk]; rfl
        · have := ks'.wr w5 k4 rfl (okx.gK g) (fun b hb => .inl hb)
          rw [List.append_assoc]
          exact this
  · rintro i acc Γ M1 K hi ⟨rfl, L, rfl, hL, kl, w1⟩ hK
    unfold as_keepers_behind_e1
    walk_at "gs"
    intro a ha
    have ll : L.length = i := by have := congrArg List.length hL; simpa using this
    refine ⟨a, M1, n, i, gB row i, rfl, rfl, ha, by omega, n100, fun p q M2 ka w2 hp hq2 => ?_⟩
    walk_at "gs"
    refine ⟨by unfold refL; rw [List.length_map, ll]; omega, ?_⟩
    have w3 : Wr [] M1 M2 := Wr.after (.new .refl ha) w2 fun b hb => by rw [List.mem_singleton.mp hb]; exact .inr ha
    have nx : ∀ b ∈ (⟨a, p, q, initK n i (gB row i)⟩ : KA).ads, b ∉ dom M1 := fun b hb => by
      simp only [KA.ads, List.mem_cons, List.not_mem_nil, or_false] at hb
      rcases hb with rfl | rfl | rfl
      · exact ha
      · exact fun z => hp (List.mem_cons_of_mem _ z)
      · exact fun z => hq2 (List.mem_cons_of_mem _ z)
    refine hK _ _ _ ⟨rfl, L ++ [⟨a, p, q, initK n i (gB row i)⟩], by simp [refL], ?_, kl.add w3 ka nx, w1.trans w3⟩
    rw [List.map_append, hL, List.range_succ, List.map_append]
    rfl
theorem lcMMapA {α : Type} (enc f : α → D) {p : Addr} {es : List D} {g : AG} {ae : AE} {vs : List Nat} {k : List D → Sl → Mem → Prop} {Γ : Sl} {M : Mem} (hst : M.lookup p = some (.lst es)) : ∀ (xs : List α) (acc : List D), acc.length + xs.length ≤ 16777216 →
    (∀ x ∈ xs, ∀ P : D → Sl → Mem → Prop, P (f x) Γ M → g (enc x) Γ fun Γ1 => ae Γ1 M fun r Γ3 M3 => frz r Γ3 fun y Γ4 => P y (wipeS Γ4 vs) M3) → k (acc ++ xs.map f) Γ M → aLcML p es g aYes ae vs k (xs.map enc) acc Γ M
  | [], acc, _, _, h => by
    refine ⟨hst, ?_⟩
    simpa using h
  | x :: xs, acc, hl, hs, h => by
    rw [List.map_cons]
    unfold aLcML
    simp only [aYes, if_true]
    refine ⟨hst, hs x List.mem_cons_self (fun y Γ' M' => acc.length < sizeLine ∧ aLcML p es g aYes ae vs k (xs.map enc) (acc ++ [y]) Γ' M') ⟨by rw [size_val]; simp at hl; omega, ?_⟩⟩
    exact lcMMapA enc f hst xs (acc ++ [f x]) (by simp at hl ⊢; omega) (fun y hy => hs y (List.mem_cons_of_mem _ hy)) (by simpa using h)
theorem rngD_nat (a m : Nat) : rngD (a : Int) m = (List.range' a m).map fun i => D.int (i : Nat) := by
  unfold rngD
  refine List.ext_getElem? fun i => ?_
  rw [List.getElem?_map, List.getElem?_map]
  by_cases h : i < m
  · rw [List.getElem?_range h, List.getElem?_eq_getElem (by simpa using h), List.getElem_range']
    simp
  · rw [List.getElem?_eq_none (by simp; omega), List.getElem?_eq_none (by simp; omega)]
    rfl
theorem KL.perm {M0 M : Mem} {L L' : List KA} (h : KL M0 L M) (p : L.Perm L') : KL M0 L' M :=
  ⟨h.ex, fun X hX => h.at_ X (p.mem_iff.mpr hX), ((p.map KA.ads).flatten.nodup_iff).mp h.nd, fun X hX => h.no X (p.mem_iff.mpr hX)⟩
theorem adsL_perm {L L' : List KA} (p : L.Perm L') {b : Addr} (h : b ∈ adsL L') : b ∈ adsL L := (p.map KA.ads).flatten.mem_iff.mpr h
theorem set_mid {α : Type} {L : List α} {i : Nat} {x : α} (h : L[i]? = some x) (y : α) : L = L.take i ++ x :: L.drop (i + 1) ∧ L.set i y = L.take i ++ y :: L.drop (i + 1) := by
  obtain ⟨hi, e⟩ := List.getElem?_eq_some_iff.mp h
  constructor
  · rw [← e, List.getElem_cons_drop, List.take_append_drop]
  · rw [List.set_eq_take_append_cons_drop, if_pos hi]
theorem KS.wrAt {M0 M M1 : Mem} {n i : Nat} {l : Addr} {L : List KA} {X X' : KA} (h : KS M0 n l L M) (hi : L[i]? = some X) (w : Wr X.ads M M1) (k : KAt M1 X') (ea : X'.a = X.a) (ok : KOk n X'.k) (hx : ∀ b ∈ X'.ads, b ∈ X.ads ∨ b ∉ dom M) : KS M0 n l (L.set i X') M1 := by
  obtain ⟨e1, e2⟩ := set_mid hi X'
  rw [e1] at h
  rw [e2]
  exact h.wr w k ea ok hx
def colD_at {M : Mem} {X : KA} {n w : Nat} {F : Str} (h : KAt M X) (ok : KOk n X.k) (hw : w < n) (hF : F = "nots" ∨ F = "signs") : colD "Keeper" F w X.a M = some (bD (colB' F w X.k)) := by
  have wn : w < X.k.n.length := by rw [ok.n]; exact hw
  have ws : w < X.k.s.length := by rw [ok.s]; exact hw
  unfold colD colB'
  rw [h.a]
  rcases hF with rfl | rfl
  · simp only [if_true, fld2, h.p, atB wn]
    rfl
  · simp only [if_true, fld3, h.q, atB ws]
    rw [if_neg (by decide)]
    rfl
abbrev kD : Kp := default
theorem map_get {L : List KA} {i : Nat} (h : i < L.length) : (L.map (·.k))[i]?.getD kD = (L[i]).k := by
  rw [List.getElem?_map, List.getElem?_eq_getElem h]
  rfl
theorem refL_at {L : List KA} {i : Nat} (h : i < L.length) : atI (refL L) (i : Int) = some (.ref (L[i]).a) := by
  rw [atI_nat (by unfold refL; rw [List.length_map]; exact h)]
  unfold refL
  rw [List.getElem?_map, List.getElem?_eq_getElem h]
  rfl
theorem refL_len (L : List KA) : (refL L).length = L.length := by unfold refL; rw [List.length_map]
theorem refL_set (L : List KA) (i : Nat) (X : KA) : (refL L).set i (.ref X.a) = refL (L.set i X) := by unfold refL; rw [List.map_set]
theorem swp_len (col : Kp → Bool) (r : List Kp × Nat) : (swp1 col r).1.length = r.1.length := by
  unfold swp1
  cases pickK col r.2 r.1 with
  | none => rfl
  | some i => simp [clrK, swK]
theorem pick_some {col : Kp → Bool} {at_ i : Nat} {l : List Kp} (h : pickK col at_ l = some i) : at_ ≤ i ∧ i < l.length ∧ col (l[i]?.getD kD) = true := by
  unfold pickK at h
  have := List.mem_of_mem_head? h
  obtain ⟨h1, h2⟩ := List.mem_filter.mp this
  rw [List.mem_range'_1] at h1
  exact ⟨h1.1, by omega, h2⟩
theorem swp_at (col : Kp → Bool) {r : List Kp × Nat} (h : r.2 ≤ r.1.length) : (swp1 col r).2 ≤ (swp1 col r).1.length := by
  rw [swp_len]
  unfold swp1
  cases e : pickK col r.2 r.1 with
  | none => exact h
  | some i =>
    obtain ⟨h1, h2, _⟩ := pick_some e
    show r.2 + 1 ≤ _
    omega
structure Fr (M0 : Mem) (l : Addr) (L0 : List KA) (M : Mem) (L : List KA) (M1 : Mem) : Prop where
  w : Wr (l :: adsL L0) M M1
  a : ∀ b ∈ adsL L, b ∈ adsL L0 ∨ b ∉ dom M
theorem Fr.step {M0 M M1 M2 : Mem} {l : Addr} {L0 L L' : List KA} {S : List Addr} (f : Fr M0 l L0 M L M1) (w : Wr S M1 M2) (hS : ∀ b ∈ S, b = l ∨ b ∈ adsL L) (h : ∀ b ∈ adsL L', b ∈ adsL L ∨ b ∉ dom M1) : Fr M0 l L0 M L' M2 := by
  refine ⟨f.w.after w fun b hb => ?_, fun b hb => ?_⟩
  · rcases hS b hb with z | z
    · exact .inl (by rw [z]; exact List.mem_cons_self)
    · exact (f.a b z).imp (fun q => List.mem_cons_of_mem _ q) id
  · rcases h b hb with z | z
    · exact f.a b z
    · exact .inr fun y => z (f.w.dom y)
theorem clr_at (col : Kp → Bool) (at_ : Nat) (c : Kp) (l : List Kp) (i : Nat) : (clrK col at_ c l)[i]? = l[i]?.map fun k => if i ≠ at_ ∧ col k = true then tinK k c else k := by
  unfold clrK
  rw [List.getElem?_mapIdx]
theorem sublA : ∀ L : List KA, List.Sublist (L.map (·.a)) (adsL L)
  | [] => .slnil
  | X :: L => by
    show List.Sublist ([X.a] ++ L.map (·.a)) (X.ads ++ adsL L)
    exact List.Sublist.append (by simp [KA.ads]) (sublA L)
theorem swept_clear {M0 M M1 : Mem} {n at_ w : Nat} {l : Addr} {L0 L : List KA} {F : Str} {A : AEnds} {s1 s2 s5 s6 s7 s9 s10 : Slot} (hF : F = "nots" ∨ F = "signs") (hw : w < n) (n100 : n ≤ 100) (l100 : L.length ≤ 100) (hat : at_ < L.length) (ks : KS M0 n l L M1) (fr : Fr M0 l L0 M L M1)
    (fin : ∀ L' M2 s9 s10, L'.map (·.k) = clrK (colB' F w) at_ (L[at_]).k (L.map (·.k)) → KS M0 n l L' M2 → Fr M0 l L0 M L' M2 → A.nx [.dat (.ref l), s1, s2, .dat (.int at_), .dat (.clo F w), s5, s6, s7, .dat (.ref (L[at_]).a), s9, s10] M2) :
    aForNL [(l, refL L)] (agT 2 (agCons (agN 9) (agCons (agN 10) agNil))) as_swept_b1 (enumD 0 (refL L)) A [.dat (.ref l), s1, s2, .dat (.int at_), .dat (.clo F w), s5, s6, s7, .dat (.ref (L[at_]).a), s9, s10] M1 := by
  have een : enumD 0 (refL L) = (List.range L.length).map fun i => D.tup [.int (i : Nat), .ref ((L[i]?.map (·.a)).getD 0)] := by
    refine List.ext_getElem? fun i => ?_
    rw [enumD_at, List.getElem?_map]
    by_cases h : i < L.length
    · rw [List.getElem?_range h]
      unfold refL
      rw [List.getElem?_map, List.getElem?_eq_getElem h]
      simp [List.getElem?_eq_getElem h]
    · rw [List.getElem?_eq_none (by rw [refL_len]; omega), List.getElem?_eq_none (by rw [List.length_range]; omega)]
      rfl
  rw [een]
  let cl : Nat → List Kp := fun i => (L.map (·.k)).mapIdx fun j k => if j < i ∧ j ≠ at_ ∧ colB' F w k = true then tinK k (L[at_]).k else k
  have cl_at : ∀ i j, (cl i)[j]? = (L.map (·.k))[j]?.map fun k => if j < i ∧ j ≠ at_ ∧ colB' F w k = true then tinK k (L[at_]).k else k := fun i j => by
    show (List.mapIdx _ _)[j]? = _
    rw [List.getElem?_mapIdx]
  refine forNR _ L.length (fun i Γ M' => ∃ s9 s10, Γ = [.dat (.ref l), s1, s2, .dat (.int at_), .dat (.clo F w), s5, s6, s7, .dat (.ref (L[at_]).a), s9, s10] ∧ ∃ L3, refL L3 = refL L ∧ L3.map (·.k) = cl i ∧ KS M0 n l L3 M' ∧ Fr M0 l L0 M L3 M') ?_ ?_ ?_ ⟨s9, s10, rfl, L, rfl, ?_, ks, fr⟩
  · rintro i Γ M' ⟨_, _, rfl, L3, e3, _, ks3, _⟩ q hq
    cases List.mem_singleton.mp hq
    rw [← e3]
    exact ks3.lk
  · rintro Γ M' ⟨_, _, rfl, L3, e3, hk, ks3, fr3⟩
    refine fin L3 M' _ _ ?_ ks3 fr3
    rw [hk]
    refine List.ext_getElem? fun j => ?_
    rw [cl_at, clr_at]
    by_cases h : j < L.length
    · have h' : (L.map (·.k))[j]? = some (L[j]).k := by rw [List.getElem?_map, List.getElem?_eq_getElem h]; rfl
      rw [h']
      simp [h]
    · rw [List.getElem?_eq_none (by rw [List.length_map]; omega)]
      rfl
  · rintro i Γ M' K hi ⟨t9, t10, rfl, L3, e3, hk, ks3, fr3⟩ hK
    have len3 : L3.length = L.length := by have := congrArg List.length e3; rwa [refL_len, refL_len] at this
    have ea : ∀ j (h : j < L.length), (L3[j]'(by omega)).a = (L[j]).a := fun j h => by
      have := congrArg (fun r : List D => r[j]?) e3
      unfold refL at this
      simp only [List.getElem?_map] at this
      rw [List.getElem?_eq_getElem h, List.getElem?_eq_getElem (show j < L3.length by omega)] at this
      simpa using this
    have ek : ∀ j (h : j < L.length), (L3[j]'(by omega)).k = if j < i ∧ j ≠ at_ ∧ colB' F w (L[j]).k = true then tinK (L[j]).k (L[at_]).k else (L[j]).k := fun j h => by
      have : (L3.map (·.k))[j]? = (cl i)[j]? := by rw [hk]
      rw [cl_at, List.getElem?_map, List.getElem?_map, List.getElem?_eq_getElem h, List.getElem?_eq_getElem (show j < L3.length by omega)] at this
      simpa using this
    have eki : (L3[i]'(by omega)).k = (L[i]).k := by rw [ek i hi, if_neg (by omega)]
    have ekat : (L3[at_]'(by omega)).k = (L[at_]).k := by rw [ek at_ hat, if_neg (by simp)]
    have ax : KAt M' (L3[i]'(by omega)) := ks3.kl.at_ _ (List.getElem_mem _)
    have ay : KAt M' (L3[at_]'(by omega)) := ks3.kl.at_ _ (List.getElem_mem _)
    have ox : KOk n (L3[i]'(by omega)).k := ks3.ok _ (List.getElem_mem _)
    have oy : KOk n (L3[at_]'(by omega)).k := ks3.ok _ (List.getElem_mem _)
    have cd : colD "Keeper" F w (L[i]).a M' = some (bD (colB' F w (L[i]).k)) := by
      have := colD_at ax ox hw hF
      rw [ea i hi, eki] at this
      exact this
    have hstay : (∀ k, k = (L[i]).k → ¬ (i ≠ at_ ∧ colB' F w k = true)) → cl i = cl (i + 1) := fun hn => by
      refine List.ext_getElem? fun j => ?_
      rw [cl_at, cl_at]
      by_cases h : j < L.length
      · have h' : (L.map (·.k))[j]? = some (L[j]).k := by rw [List.getElem?_map, List.getElem?_eq_getElem h]; rfl
        rw [h']
        simp only [Option.map_some, Option.some.injEq]
        by_cases ej : j = i
        · subst ej
          rw [if_neg (by omega), if_neg (fun z => hn _ rfl z.2)]
        · by_cases z : j ≠ at_ ∧ colB' F w (L[j]).k = true
          · by_cases y : j < i
            · rw [if_pos ⟨y, z⟩, if_pos ⟨by omega, z⟩]
            · rw [if_neg (fun q => y q.1), if_neg (fun q => by omega)]
          · rw [if_neg (fun q => z q.2), if_neg (fun q => z q.2)]
      · rw [List.getElem?_eq_none (by rw [List.length_map]; omega)]
        rfl
    have keep : (∀ k, k = (L[i]).k → ¬ (i ≠ at_ ∧ colB' F w k = true)) → K [.dat (.ref l), s1, s2, .dat (.int at_), .dat (.clo F w), s5, s6, s7, .dat (.ref (L[at_]).a), .dat (.int i), .dat (.ref (L[i]).a)] M' := fun hn => hK _ _ ⟨_, _, rfl, L3, e3, by rw [hk]; exact hstay hn, ks3, fr3⟩
    have eadr : (L[i]?.map (·.a)).getD 0 = (L[i]).a := by rw [List.getElem?_eq_getElem hi]; rfl
    rw [eadr]
    unfold as_swept_b1
    walk_at "gs"
    by_cases e1 : i = at_
    · have ee : decide ((i : Int) = (at_ : Int)) = true := by simp [e1]
      simp only [ee, Bool.not_true, Bool.false_eq_true, if_false]
      exact keep fun k _ z => z.1 e1
    · have ee : decide ((i : Int) = (at_ : Int)) = false := by simp; omega
      simp only [ee, Bool.not_false, if_true]
      refine ⟨F, w, rfl, by rcases hF with rfl | rfl <;> decide, (L[i]).a, _, rfl, cd, ?_⟩
      simp only [bD, cmp_int, eqD_int, bI_one, true_and]
      by_cases e2 : colB' F w (L[i]).k = true
      · rw [if_pos e2]
        have la : M'.lookup (L[i]).a = some (.ins "Keeper" kF [bD (L[i]).k.m, .ref (L3[i]'(by omega)).p, .ref (L3[i]'(by omega)).q]) := by rw [← ea i hi, ax.a, eki]
        simp only [la]
        have hi3 : L3[i]? = some (L3[i]'(by omega)) := List.getElem?_eq_getElem _
        have hat3 : L3[at_]? = some (L3[at_]'(by omega)) := List.getElem?_eq_getElem _
        have dif : (L3[i]'(by omega)).a ≠ (L3[at_]'(by omega)).a := by
          intro e
          have nd : (adsL L3).Nodup := ks3.kl.nd
          have pw := List.pairwise_iff_getElem.mp (nd.sublist (sublA L3))
          rcases Nat.lt_or_gt_of_ne e1 with z | z
          · have := pw i at_ (by simp; omega) (by simp; omega) z
            simp only [List.getElem_map] at this
            exact this e
          · have := pw at_ i (by simp; omega) (by simp; omega) z
            simp only [List.getElem_map] at this
            exact this e.symm
        refine ⟨trivial, by decide, L3[i]'(by omega), L3[at_]'(by omega), n, by rw [ea i hi, ea at_ hat], ax, ay, ox, oy, n100, dif, fun p q M2 ka w2 hp hq => ?_⟩
        have hx : ∀ b ∈ (⟨(L3[i]'(by omega)).a, p, q, tinK (L3[i]'(by omega)).k (L3[at_]'(by omega)).k⟩ : KA).ads, b ∈ (L3[i]'(by omega)).ads ∨ b ∉ dom M' := fun b hb => by
          simp only [KA.ads, List.mem_cons, List.not_mem_nil, or_false] at hb
          rcases hb with rfl | rfl | rfl
          · exact .inl (by simp [KA.ads])
          · exact .inr hp
          · exact .inr hq
        have w3 : Wr (L3[i]'(by omega)).ads M' M2 := w2.mono fun b hb => by rw [List.mem_singleton.mp hb]; exact .inl (by simp [KA.ads])
        have ks4 := ks3.wrAt hi3 w3 ka rfl (ox.tin oy) hx
        have fr4 : Fr M0 l L0 M (L3.set i ⟨(L3[i]'(by omega)).a, p, q, tinK (L3[i]'(by omega)).k (L3[at_]'(by omega)).k⟩) M2 := by
          refine fr3.step w3 (fun b hb => .inr (mem_adsL.mpr ⟨_, List.getElem_mem _, hb⟩)) fun b hb => ?_
          obtain ⟨X, hX, hb⟩ := mem_adsL.mp hb
          rcases List.mem_or_eq_of_mem_set hX with hX | rfl
          · exact .inl (mem_adsL.mpr ⟨X, hX, hb⟩)
          · exact (hx b hb).imp (fun z => mem_adsL.mpr ⟨_, List.getElem_mem _, z⟩) id
        refine hK _ _ ⟨_, _, rfl, _, ?_, ?_, ks4, fr4⟩
        · rw [← e3]
          unfold refL
          rw [List.map_set]
          exact List.set_getElem_self (as := L3.map fun X => D.ref X.a) (i := i) (by simp; omega) ▸ (by simp)
        · rw [List.map_set, hk]
          refine List.ext_getElem? fun j => ?_
          rw [List.getElem?_set, cl_at, cl_at]
          by_cases h : j < L.length
          · have h' : (L.map (·.k))[j]? = some (L[j]).k := by rw [List.getElem?_map, List.getElem?_eq_getElem h]; rfl
            have lc : (cl i).length = L.length := by show (List.mapIdx _ _).length = _; simp
            rw [h', lc]
            simp only [Option.map_some]
            by_cases ej : i = j
            · subst ej
              rw [if_pos rfl, if_pos hi, if_pos ⟨by omega, e1, e2⟩, eki, ekat]
            · rw [if_neg ej]
              congr 1
              by_cases z : j ≠ at_ ∧ colB' F w (L[j]).k = true
              · by_cases y : j < i
                · rw [if_pos ⟨y, z⟩, if_pos ⟨by omega, z⟩]
                · rw [if_neg (fun q => y q.1), if_neg (fun q => by omega)]
              · rw [if_neg (fun q => z q.2), if_neg (fun q => z q.2)]
          · have lc : (cl i).length = L.length := by show (List.mapIdx _ _).length = _; simp
            rw [lc, if_neg (by omega)]
            rw [List.getElem?_eq_none (l := L.map (·.k)) (by rw [List.length_map]; omega)]
            rfl
      · rw [if_neg e2]
        exact keep fun k ek z => e2 (by rw [← ek]; exact z.2)
  · show L.map (·.k) = cl 0
    refine List.ext_getElem? fun j => ?_
    rw [cl_at]
    cases (L.map (·.k))[j]? with
    | none => rfl
    | some k => simp
theorem swK_perm {α : Type} {L : List α} {i j : Nat} (hi : i < L.length) (hj : j < L.length) : ((L.set i L[j]).set j L[i]).Perm L := List.set_set_perm hi hj
theorem sw_map {L : List KA} {i j : Nat} (hi : i < L.length) (hj : j < L.length) : ((L.set i L[j]).set j L[i]).map (·.k) = swK (L.map (·.k)) i j := by
  unfold swK
  rw [List.map_set, List.map_set]
  congr 2
  · rw [List.getElem?_map, List.getElem?_eq_getElem hj]; rfl
  · rw [List.getElem?_map, List.getElem?_eq_getElem hi]; rfl
theorem swept_one {M0 M M1 : Mem} {n at_ w : Nat} {l : Addr} {L0 L : List KA} {F : Str} {A : AEnds} {s1 s2 s5 s6 s7 s8 s9 s10 : Slot} (hF : F = "nots" ∨ F = "signs") (hw : w < n) (n100 : n ≤ 100) (l100 : L.length ≤ 100) (hat : at_ ≤ L.length) (ks : KS M0 n l L M1) (fr : Fr M0 l L0 M L M1)
    (fin : ∀ L' M2 s5 s6 s7 s8 s9 s10, L'.map (·.k) = (swp1 (colB' F w) (L.map (·.k), at_)).1 → KS M0 n l L' M2 → Fr M0 l L0 M L' M2 → A.nx [.dat (.ref l), s1, s2, .dat (.int (swp1 (colB' F w) (L.map (·.k), at_)).2), .dat (.clo F w), s5, s6, s7, s8, s9, s10] M2) :
    as_swept_b2 A [.dat (.ref l), s1, s2, .dat (.int at_), .dat (.clo F w), s5, s6, s7, s8, s9, s10] M1 := by
  let lots : List D := L.map fun X => bD (colB' F w X.k)
  have lots_at : ∀ i (h : i < L.length), atI lots (i : Int) = some (.int (bI (colB' F w (L[i]).k))) := fun i h => by
    rw [atI_nat (by show i < (L.map _).length; rw [List.length_map]; exact h)]
    show (L.map _)[i]? = _
    rw [List.getElem?_map, List.getElem?_eq_getElem h]
    rfl
  let fl : List Nat := (List.range' at_ (L.length - at_)).filter fun i => colB' F w ((L.map (·.k))[i]?.getD kD)
  have epick : pickK (colB' F w) at_ (L.map (·.k)) = fl.head? := by
    unfold pickK
    rw [List.length_map]
  unfold as_swept_b2
  walk_at "gs"
  simp only [ks.lk]
  unfold lcMW
  refine lcMMapA (fun X : KA => D.ref X.a) (fun X => bD (colB' F w X.k)) (show M1.lookup l = some (.lst (refL L)) from ks.lk) L [] (by simp only [List.length_nil]; omega) (fun X hX P hP => ?_) ?_
  · unfold as_swept_e1
    walk_at "gs"
    refine ⟨F, w, rfl, by rcases hF with rfl | rfl <;> decide, X.a, _, rfl, colD_at (ks.kl.at_ X hX) (ks.ok X hX) hw hF, ?_⟩
    exact hP
  rw [List.nil_append]
  walk_at "gs"
  simp only [ks.lk, refL_len]
  refine ⟨⟨by omega, by omega, by omega, by omega⟩, ?_⟩
  have em : ((L.length : Int) - at_).toNat = L.length - at_ := by omega
  rw [em, rngD_nat]
  refine lcFiltA (fun i : Nat => D.int (i : Nat)) (fun i => colB' F w ((L.map (·.k))[i]?.getD kD)) (fun i : Nat => D.int (i : Nat)) (List.range' at_ (L.length - at_)) [] (by simp; omega) (fun i hi P N hP hN => ?_) ?_
  · have il : i < L.length := by rw [List.mem_range'_1] at hi; omega
    rw [map_get il] at hP hN
    unfold as_swept_c1 as_swept_e2
    walk_at "gs"
    simp only [show (List.map (fun X : KA => bD (colB' F w X.k)) L) = lots from rfl, lots_at i il, cmp_int, eqD_int, bI_one, true_and]
    by_cases e : colB' F w (L[i]).k = true
    · rw [if_pos e]; exact hP e
    · rw [if_neg e]; exact hN (by simpa using e)
  rw [List.nil_append]
  show frz (Ret.tmp (Cell.lst (fl.map fun i : Nat => D.int (i : Nat)))) _ _
  have hfl : ∀ i ∈ fl, at_ ≤ i ∧ i < L.length := fun i hi => by
    have := (List.mem_filter.mp hi).1
    rw [List.mem_range'_1] at this
    omega
  cases efl : fl with
  | nil =>
    have e : swp1 (colB' F w) (L.map (·.k), at_) = (L.map (·.k), at_) := by
      unfold swp1
      simp only [epick, efl]
      rfl
    rw [e] at fin
    walk_at "gs"
    rw [if_neg (by decide)]
    exact fin L M1 _ _ _ _ _ _ rfl ks fr
  | cons i rest =>
    obtain ⟨i0, il⟩ := hfl i (by rw [efl]; simp)
    have al : at_ < L.length := by omega
    have e : swp1 (colB' F w) (L.map (·.k), at_) = (clrK (colB' F w) at_ ((L.map (·.k))[i]?.getD kD) (swK (L.map (·.k)) i at_), at_ + 1) := by
      unfold swp1
      simp only [epick, efl]
      rfl
    rw [e] at fin
    walk_at "gs"
    rw [if_pos (by simp)]
    have a0 : atI (D.int (i : Nat) :: List.map (fun i : Nat => D.int (i : Nat)) rest) 0 = some (.int (i : Nat)) := atI_nat (i := 0) (by simp)
    have hw1 : (L.set i (L[at_])).length = L.length := List.length_set
    simp only [a0, ks.lk, refL_at il, refL_at al, ixN_nat (show i < (refL L).length by rw [refL_len]; exact il), refL_set, lkP_same ks.lk, ixN_nat (show at_ < (refL (L.set i (L[at_]))).length by rw [refL_len, hw1]; exact al), mput_two]
    have p : ((L.set i L[at_]).set at_ L[i]).Perm L := swK_perm il al
    have ln : l ∉ adsL L := fun z => ks.ln l z rfl
    have w2 : Wr [l] M1 (mput M1 l (.lst (refL ((L.set i L[at_]).set at_ L[i])))) := .put .refl (.inl (by simp))
    have ks2 : KS M0 n l ((L.set i L[at_]).set at_ L[i]) (mput M1 l (.lst (refL ((L.set i L[at_]).set at_ L[i])))) :=
      ⟨(ks.kl.perm p.symm).stay w2 (fun b hb => by rw [List.mem_singleton.mp hb]; exact ks.nl) (fun b hb z => by rw [List.mem_singleton.mp z] at hb; exact ln (adsL_perm p.symm hb)), lkP_same ks.lk, fun X hX => ks.ok X (p.mem_iff.mp hX), ks.nl⟩
    have fr2 : Fr M0 l L0 M ((L.set i L[at_]).set at_ L[i]) (mput M1 l (.lst (refL ((L.set i L[at_]).set at_ L[i])))) := fr.step w2 (fun b hb => .inl (List.mem_singleton.mp hb)) (fun b hb => .inl (adsL_perm p.symm hb))
    have hm := sw_map il al
    have e8 : ∀ h : at_ < ((L.set i L[at_]).set at_ L[i]).length, ((L.set i L[at_]).set at_ L[i])[at_]'h = L[i] := fun h => by simp
    have l2 : ((L.set i L[at_]).set at_ L[i]).length = L.length := by simp
    have fin2 : ∀ L' M2 s9 s10, L'.map (·.k) = clrK (colB' F w) at_ (L[i]).k (swK (L.map (·.k)) i at_) → KS M0 n l L' M2 → Fr M0 l L0 M L' M2 → as_swept_t1 A [.dat (.ref l), s1, s2, .dat (.int at_), .dat (.clo F w), .dat (.lst (L.map fun X => bD (colB' F w X.k))), .dat (.lst (D.int (i : Nat) :: rest.map fun i : Nat => D.int (i : Nat))), .dat (.int i), .dat (.ref (L[i]).a), s9, s10] M2 := by
      intro L' M2 s9 s10 h1 h2 h3
      unfold as_swept_t1
      walk_at "gs"
      refine fin L' M2 _ _ _ _ _ _ ?_ h2 h3
      rw [h1, map_get il]
    generalize (L.set i L[at_]).set at_ L[i] = L2 at *
    simp only [lkP_same ks.lk, forNW_eq]
    have al2 : at_ < L2.length := by omega
    have r := swept_clear (A := { A with nx := as_swept_t1 A }) (s1 := s1) (s2 := s2) (s5 := .dat (.lst (L.map fun X => bD (colB' F w X.k)))) (s6 := .dat (.lst (D.int (i : Nat) :: rest.map fun i : Nat => D.int (i : Nat)))) (s7 := .dat (.int i)) (s9 := .non) (s10 := .non) hF hw n100 (by omega) al2 ks2 fr2 (fun L' M2 s9 s10 h1 h2 h3 => by
      rw [e8 al2] at h1 ⊢
      rw [hm] at h1
      exact fin2 L' M2 s9 s10 h1 h2 h3)
    rw [e8 al2] at r
    exact r
theorem swpF_snoc (cs : List (Str × Nat)) (c : Str × Nat) (r : List Kp × Nat) : swpF (cs ++ [c]) r = swp1 (colB' c.1 c.2) (swpF cs r) := by
  unfold swpF
  rw [List.foldl_append]
  rfl
theorem swpF_len (cs : List (Str × Nat)) (r : List Kp × Nat) : (swpF cs r).1.length = r.1.length := by
  unfold swpF
  induction cs generalizing r with
  | nil => rfl
  | cons c cs ih => rw [List.foldl_cons, ih, swp_len]
theorem swpF_at (cs : List (Str × Nat)) {r : List Kp × Nat} (h : r.2 ≤ r.1.length) : (swpF cs r).2 ≤ r.1.length := by
  unfold swpF
  induction cs generalizing r with
  | nil => exact h
  | cons c cs ih =>
    rw [List.foldl_cons]
    have := ih (swp_at (colB' c.1 c.2) h)
    rw [swp_len] at this
    exact this
theorem rd_swept : ∀ ds M Q, S_swept ds M Q → as_swept (endsOf Q) (slots N_swept.length ds) M := by
  rintro ds M Q ⟨l, M0, n, at_, L, cs, rfl, ks, l100, n100, cl, hat, hc, hq⟩
  show as_swept (endsOf Q) [.dat (.ref l), .dat (.int at_), .dat (.lst (cs.map cloD)), .non, .non, .non, .non, .non, .non, .non, .non] M
  unfold as_swept
  walk_at "gs"
  refine forA cloD (fun dn ls Γ M' => cs = dn ++ ls ∧ ∃ s4 s5 s6 s7 s8 s9 s10, Γ = [.dat (.ref l), .dat (.int at_), .dat (.lst (cs.map cloD)), .dat (.int (swpF dn (L.map (·.k), at_)).2), s4, s5, s6, s7, s8, s9, s10] ∧ ∃ L', L'.map (·.k) = (swpF dn (L.map (·.k), at_)).1 ∧ KS M0 n l L' M' ∧ Fr M0 l L M L' M') ?_ ?_ cs [] ⟨rfl, _, _, _, _, _, _, _, rfl, L, rfl, ks, .refl, fun b hb => .inl hb⟩
  · rintro dn Γ M1 ⟨e, s4, s5, s6, s7, s8, s9, s10, rfl, L', h1, h2, h3⟩
    rw [List.append_nil] at e
    subst e
    unfold as_swept_t2
    walk_at "gs"
    refine hq L' M1 h1 h2 (fun b hb hn => h3.w.lk hb hn) ?_
    have := swpF_at cs (r := (L.map (·.k), at_)) (by simpa using hat)
    simpa using this
  · rintro dn c ls Γ M1 K ⟨e, s4, s5, s6, s7, s8, s9, s10, rfl, L', h1, h2, h3⟩ hK
    obtain ⟨hF, hw⟩ := hc c (by rw [e]; simp)
    have len : L'.length = L.length := by
      have := congrArg List.length h1
      rw [swpF_len] at this
      simpa using this
    have hat' : (swpF dn (L.map (·.k), at_)).2 ≤ L'.length := by
      have := swpF_at dn (r := (L.map (·.k), at_)) (by simpa using hat)
      rw [len]
      simpa using this
    unfold cloD
    walk_at "gs"
    refine swept_one (F := c.1) (w := c.2) hF hw n100 (by omega) hat' h2 h3 fun L2 M2 t5 t6 t7 t8 t9 t10 g1 g2 g3 => ?_
    have er : (L'.map (·.k), (swpF dn (L.map (·.k), at_)).2) = swpF dn (L.map (·.k), at_) := by rw [h1]
    rw [er] at g1 ⊢
    rw [← swpF_snoc] at g1 ⊢
    exact hK _ _ ⟨by rw [e]; simp, _, _, _, _, _, _, _, rfl, L2, g1, g2, g3⟩
theorem Tb.stay {M M1 : Mem} {n : Nat} {M0 : Mem} {l : Addr} {L : List KA} (t : Tb M) (ks : KS M0 n l L M) (h : ∀ b, b ∈ dom M → b ∉ l :: (L.map KA.ads).flatten → M1.lookup b = M.lookup b) : Tb M1 := by
  have no : ∀ P q, M.lookup P = some (.tab q) → P ∉ l :: (L.map KA.ads).flatten := fun P q hP z => by
    rcases List.mem_cons.mp z with rfl | z
    · rw [ks.lk] at hP; cases hP
    · obtain ⟨X, hX, hb⟩ := mem_adsL.mp z
      have ax := ks.kl.at_ X hX
      simp only [KA.ads, List.mem_cons, List.not_mem_nil, or_false] at hb
      rcases hb with rfl | rfl | rfl
      · rw [ax.a] at hP; cases hP
      · rw [ax.p] at hP; cases hP
      · rw [ax.q] at hP; cases hP
  obtain ⟨⟨P, hP⟩, ⟨R, hR⟩⟩ := t
  exact ⟨⟨P, by rw [h P (lk_dom hP) (no P _ hP)]; exact hP⟩, ⟨R, by rw [h R (lk_dom hR) (no R _ hR)]; exact hR⟩⟩
theorem rngD0 (n : Nat) : rngD 0 (n : Int).toNat = (List.range n).map fun i => D.int (i : Nat) := by
  rw [Int.toNat_natCast, List.range_eq_range']
  exact rngD_nat 0 n
theorem rd_put_in_order : ∀ ds M Q, S_put_in_order ds M Q → as_put_in_order (endsOf Q) (slots N_put_in_order.length ds) M := by
  rintro ds M Q ⟨l, M0, n, L, rfl, ks, tb, l100, n100, hq⟩
  show as_put_in_order (endsOf Q) [.dat (.ref l), .dat (.int n), .non, .non] M
  unfold as_put_in_order
  walk_at "gs"
  refine ⟨⟨by omega, by omega⟩, ?_⟩
  rw [rngD0]
  refine lcMapA (fun i : Nat => D.int (i : Nat)) (fun i : Nat => cloD ("nots", i)) (List.range n) [] (by simp; omega) (fun i _ P hP => ?_) ?_
  · obtain ⟨⟨T, hT⟩, _⟩ := tb
    unfold as_put_in_order_e1
    walk_at "gs"
    refine ⟨T, i, rfl, hT, ?_⟩
    walk_at "gs"
    exact hP
  rw [List.nil_append]
  walk_at "gs"
  have ec : (List.range n).map (fun i : Nat => cloD ("nots", i)) = (colsF "nots" (List.range n)).map cloD := by unfold colsF; rw [List.map_map]; rfl
  have ec2 : (List.range n).map (fun i : Nat => cloD ("signs", i)) = (colsF "signs" (List.range n)).map cloD := by unfold colsF; rw [List.map_map]; rfl
  have cok : ∀ F : Str, (F = "nots" ∨ F = "signs") → ∀ c ∈ colsF F (List.range n), (c.1 = "nots" ∨ c.1 = "signs") ∧ c.2 < n := fun F hF c hc => by
    unfold colsF at hc
    obtain ⟨w, hw, rfl⟩ := List.mem_map.mp hc
    exact ⟨hF, List.mem_range.mp hw⟩
  have clen : ∀ F : Str, (colsF F (List.range n)).length ≤ 1000 := fun F => by unfold colsF; simp; omega
  rw [ec]
  refine ⟨l, M0, n, 0, L, colsF "nots" (List.range n), rfl, ks, l100, n100, clen _, Nat.zero_le _, cok _ (.inl rfl), fun L1 M1 h1 k1 f1 a1 => ?_⟩
  have tb1 : Tb M1 := tb.stay ks f1
  have len1 : L1.length = L.length := by
    have := congrArg List.length h1
    rw [swpF_len] at this
    simpa using this
  walk_at "gs"
  refine ⟨⟨by omega, by omega⟩, ?_⟩
  rw [rngD0]
  refine lcMapA (fun i : Nat => D.int (i : Nat)) (fun i : Nat => cloD ("signs", i)) (List.range n) [] (by simp; omega) (fun i _ P hP => ?_) ?_
  · obtain ⟨_, T, hT⟩ := tb1
    unfold as_put_in_order_e2
    walk_at "gs"
    refine ⟨T, i, rfl, hT, ?_⟩
    walk_at "gs"
    exact hP
  rw [List.nil_append]
  walk_at "gs"
  rw [ec2]
  refine ⟨l, M0, n, _, L1, colsF "signs" (List.range n), rfl, k1, by omega, n100, clen _, by omega, cok _ (.inr rfl), fun L2 M2 h2 k2 f2 a2 => ?_⟩
  walk_at "gs"
  refine hq L2 M2 ?_ k2 (tb1.stay k1 f2) a1
  rw [h2]
  unfold orderF
  simp only
  rw [h1]
theorem behind_len (n : Nat) (gs : List Gt) (row : List Bool) : (behindF n gs row).length = row.length := by
  unfold behindF
  have : ∀ (gs : List Gt) (l : List Kp), (gs.foldl (fun l g => l.map (gK g)) l).length = l.length := by
    intro gs
    induction gs with
    | nil => intro l; rfl
    | cons g gs ih => intro l; rw [List.foldl_cons, ih, List.length_map]
  rw [this, List.length_mapIdx]
theorem Tb.wr {M M1 : Mem} (t : Tb M) (w : Wr [] M M1) : Tb M1 := by
  obtain ⟨⟨P, hP⟩, ⟨R, hR⟩⟩ := t
  exact ⟨⟨P, by rw [w.lk (lk_dom hP) (fun z => nomatch z)]; exact hP⟩, ⟨R, by rw [w.lk (lk_dom hR) (fun z => nomatch z)]; exact hR⟩⟩
theorem rd_letters_of : ∀ ds M Q Z, S_letters_of ds M Q Z → as_letters_of (fun x _ M => wkX Z x M) (endsOf (wk Q)) (slots N_letters_of.length ds) M := by
  rintro ds M Q Z ⟨n, gs, row, rfl, rl, n100, gl, ok, tb, hq, hz⟩
  show as_letters_of _ (endsOf (wk Q)) [.dat (circD n gs), .dat (.tup (bsD row)), .non, .non] M
  unfold as_letters_of
  walk_at "gs"
  refine ⟨n, gs, rfl, fun g hg => ⟨(ok g hg).j0, (ok g hg).j1, by have := (ok g hg).few; omega⟩, gl, fun sh => ?_, fun sh => ?_⟩
  · walk_at "gs"
    have sh' : ∀ g ∈ gs, GtOk n g ∧ shG g = true := fun g hg => ⟨ok g hg, List.all_eq_true.mp sh g hg⟩
    refine ⟨n, gs, row, rfl, rl, n100, gl, sh', fun l L M1 h1 ks w1 => ?_⟩
    walk_at "gs"
    have c0 : atI [D.int (n : Int), D.tup (gs.map gtD)] 0 = some (.int n) := rfl
    unfold circD
    simp only [c0]
    have len : L.length = n := by
      have := congrArg List.length h1
      rw [behind_len] at this
      simpa [rl] using this
    refine ⟨l, M, n, L, rfl, ks, tb.wr w1, by omega, n100, fun L2 M2 h2 k2 _ _ => ?_⟩
    walk_at "gs"
    simp only [k2.lk]
    unfold lcMW
    have len2 : L2.length = n := by
      have := congrArg List.length h2
      unfold orderF at this
      simp only [swpF_len] at this
      simpa [len] using this
    refine lcMMapA (fun X : KA => D.ref X.a) (fun X => letD X.k) (show M2.lookup l = some (.lst (refL L2)) from k2.lk) L2 [] (by simp only [List.length_nil]; omega) (fun X hX P hP => ?_) ?_
    · have ax := k2.kl.at_ X hX
      walk_at "gs"
      simp only [ax.a]
      refine ⟨trivial, by decide, X, n, rfl, ax, k2.ok X hX, n100, ?_⟩
      unfold letD at hP ⊢
      walk_at "gs"
      exact hP
    rw [List.nil_append]
    walk_at "gs"
    obtain ⟨N, e⟩ := k2.kl.ex
    rw [e]
    refine wk_of N ?_
    have e2 : L2.map (fun X => letD X.k) = (lettersF n gs row).map letD := by
      unfold lettersF
      rw [← h1, ← h2, List.map_map]
      rfl
    rw [e2]
    exact hq sh
  · exact wkX_same (hz sh)

theorem seqIx {n : Nat} {d : Int} (h0 : 0 ≤ d) (h1 : d < n) : seqIndex? d n = some d.toNat := by
  unfold seqIndex?
  simp only [show ¬ d < 0 by omega, if_false]
  first | rw [if_pos (by omega)] | (split <;> first | rfl | omega) | simp; omega
theorem others_len {n w : Nat} (h : w < n) : ((List.range n).filter fun i => !decide (i = w)).length + 1 = n := by
  have e : ((List.range n).filter fun i => !decide (i = w)) = (List.range n).erase w := by
    rw [List.Nodup.erase_eq_filter List.nodup_range]
    refine List.filter_congr fun x _ => ?_
    by_cases e : x = w <;> simp [e]
  rw [e, List.length_erase_of_mem (List.mem_range.mpr h), List.length_range]
  omega
theorem perm_erase {os : List Int} {k : Nat} (h : k < os.length) : (os[k] :: os.eraseIdx k).Perm os := by
  have e : os.take k ++ os[k] :: os.drop (k + 1) = os := by rw [← List.drop_eq_getElem_cons h, List.take_append_drop]
  rw [List.eraseIdx_eq_take_drop_succ]
  exact List.perm_middle.symm.trans (List.Perm.of_eq e)
theorem rd__law_controls : ∀ ds M Q, S__law_controls ds M Q → as__law_controls (endsOf Q) (slots N__law_controls.length ds) M := by
  rintro ds M Q ⟨P, a, g, s, M0, n, w, most, rfl, rfl, ha, hs, hw, n8, m8, hq⟩
  show as__law_controls (endsOf Q) [.dat (.ref a), .dat (.int n), .dat (.int w), .dat (.int most), .non, .non, .non, .non] _
  unfold as__law_controls
  walk_at "gs"
  refine ⟨⟨by omega, by omega⟩, ?_⟩
  rw [rngD0]
  refine lcFiltA (fun i : Nat => D.int (i : Nat)) (fun i => !decide (i = w)) (fun i : Nat => D.int (i : Nat)) (List.range n) [] (by simp; omega) (fun i hi P2 N hP hN => ?_) ?_
  · unfold as__law_controls_c1 as__law_controls_e1
    walk_at "gs"
    by_cases e : i = w
    · subst e
      simp only [decide_true, Bool.not_true, Bool.false_eq_true, if_false]
      exact hN (by simp)
    · have e' : decide ((i : Int) = (w : Int)) = false := by simp; omega
      simp only [e', Bool.not_false, if_true]
      exact hP (by simp [e])
  rw [List.nil_append]
  walk_at "gs"
  have eo : ((List.range n).filter fun i => !decide (i = w)).map (fun i : Nat => D.int (i : Nat)) = (((List.range n).filter fun i => !decide (i = w)).map fun i : Nat => (i : Int)).map D.int := by rw [List.map_map]; rfl
  have ol := others_len hw
  rw [eo]
  generalize eos : (((List.range n).filter fun i => !decide (i = w)).map fun i : Nat => (i : Int)) = os
  have oslen : os.length + 1 = n := by rw [← eos, List.length_map]; exact ol
  have osm : ∀ c ∈ os, 0 ≤ c ∧ c < n ∧ c ≠ w := fun c hc => by
    rw [← eos] at hc
    obtain ⟨i, hi, rfl⟩ := List.mem_map.mp hc
    obtain ⟨h1, h2⟩ := List.mem_filter.mp hi
    have := List.mem_range.mp h1
    have h2 : i ≠ w := by simpa using h2
    omega
  simp only [List.length_map]
  refine ⟨⟨by split <;> omega, by split <;> omega⟩, ?_⟩
  have et : (if (os.length : Int) < most then (os.length : Int) else most).toNat = min most os.length := by split <;> omega
  rw [et]
  refine forR (fun i k Γ M' => ∃ (ls fs : List Int) (g' s' : Int) (s6 : Slot), HOk g' s' ∧ M' = HP P a g' s' M0 ∧ Γ = [.dat (.ref a), .dat (.int n), .dat (.int w), .dat (.int most), .own (.lst (ls.map .int)), .own (.lst (fs.map .int)), s6, .non] ∧ (fs ++ ls).Perm os ∧ fs.length + k = min most os.length) ?_ ?_ _ ⟨os, [], g, s, _, hs, rfl, rfl, by simp, by simp⟩
  · rintro i Γ M' ⟨ls, fs, g', s', s6, hs', rfl, rfl, pm, fl⟩
    unfold as__law_controls_t1
    walk_at "gs"
    rw [intsOf_map]
    refine hq (isort fs) g' s' (fun c hc => osm c (pm.mem_iff.mp (List.mem_append_left _ ((isort_perm fs).mem_iff.mp hc)))) ?_ ?_ hs'
    · rw [(isort_perm fs).length_eq]; omega
    · rw [(isort_perm fs).length_eq]; omega
  · rintro i k Γ M' K ⟨ls, fs, g', s', s6, hs', rfl, rfl, pm, fl⟩ hK
    have ll : fs.length + ls.length = os.length := by have := pm.length_eq; rw [List.length_append] at this; exact this
    unfold as__law_controls_b1
    walk_at "gs"
    refine ⟨P, a, g', s', M0, ls.length, by simp, rfl, ha, hs', by omega, by omega, fun d g2 s2 d0 d1 hs2 => ?_⟩
    walk_at "gs"
    rw [List.length_map, seqIx d0 d1]
    have dl : d.toNat < ls.length := by omega
    have hk : (ls.map D.int)[d.toNat]? = some (.int (ls[d.toNat])) := by rw [List.getElem?_map, List.getElem?_eq_getElem dl]; rfl
    simp only [hk, List.length_map]
    refine ⟨⟨by omega, by omega⟩, by omega, ?_⟩
    have he : (ls.map D.int).eraseIdx d.toNat = (ls.eraseIdx d.toNat).map .int := by
      rw [List.eraseIdx_eq_take_drop_succ, List.eraseIdx_eq_take_drop_succ, List.map_append, List.map_take, List.map_drop]
    rw [he]
    refine hK _ _ ⟨ls.eraseIdx d.toNat, fs ++ [ls[d.toNat]], g2, s2, .dat (.int i), hs2, rfl, by simp, ?_, by simp; omega⟩
    · refine List.Perm.trans ?_ pm
      rw [List.append_assoc]
      exact List.Perm.append_left _ (perm_erase dl)
theorem gtok {n : Nat} {w : Str} {j : Int} {cs : List Int} {t : Int} (word : w = "not" ∨ w = "half" ∨ w = "turn" ∨ w = "phase" ∨ w = "cross") (j0 : 0 ≤ j) (j8 : j < 8) (hc : ∀ c ∈ cs, 0 ≤ c ∧ c < n ∧ c ≠ t) (few : cs.length ≤ 4) (np : w ≠ "phase") (nc : w = "cross" → ∃ c, cs = [c]) (h0 : 0 ≤ t) (h1 : t < n) : GtOk n ⟨w, j, cs, t⟩ :=
  ⟨word, j0, j8, hc, few, fun h => absurd h np, fun _ => ⟨h0, h1⟩, nc⟩
theorem sh_half {n : Nat} {w : Int} (h0 : 0 ≤ w) (h1 : w < n) : GtOk n ⟨"half", 0, [], w⟩ ∧ shG ⟨"half", 0, [], w⟩ = true :=
  ⟨gtok (.inr (.inl rfl)) (by omega) (by omega) (fun c hc => nomatch hc) (Nat.zero_le _) (by decide) (fun h => absurd h (by decide)) h0 h1, rfl⟩
theorem ok_turn {n : Nat} {w j : Int} {cs : List Int} (j0 : 0 ≤ j) (j8 : j < 8) (h0 : 0 ≤ w) (h1 : w < n) (hc : ∀ c ∈ cs, 0 ≤ c ∧ c < n ∧ c ≠ w) (few : cs.length ≤ 4) : GtOk n ⟨"turn", j, cs, w⟩ :=
  gtok (.inr (.inr (.inl rfl))) j0 j8 hc few (by decide) (fun h => absurd h (by decide)) h0 h1
theorem ok_not {n : Nat} {w : Int} {cs : List Int} (h0 : 0 ≤ w) (h1 : w < n) (hc : ∀ c ∈ cs, 0 ≤ c ∧ c < n ∧ c ≠ w) (few : cs.length ≤ 4) : GtOk n ⟨"not", 0, cs, w⟩ :=
  gtok (.inl rfl) (by omega) (by omega) hc few (by decide) (fun h => absurd h (by decide)) h0 h1
theorem w_pc : ¬ (("phase" : Str) = "cross") := by decide
theorem ok_phase {n : Nat} {j : Int} (j0 : 0 ≤ j) (j8 : j < 8) : GtOk n ⟨"phase", j, [], -1⟩ ∧ shG ⟨"phase", j, [], -1⟩ = true :=
  ⟨⟨.inr (.inr (.inr (.inl rfl))), j0, j8, fun c hc => (nomatch hc), Nat.zero_le _, fun _ => ⟨rfl, rfl⟩, fun h => absurd rfl h, fun h => absurd h w_pc⟩, rfl⟩
theorem ok_cross {n : Nat} {c w : Int} (c0 : 0 ≤ c) (c1 : c < n) (h0 : 0 ≤ w) (h1 : w < n) (ne : c ≠ w) : GtOk n ⟨"cross", 0, [c], w⟩ ∧ shG ⟨"cross", 0, [c], w⟩ = true :=
  ⟨gtok (.inr (.inr (.inr (.inr rfl)))) (by omega) (by omega) (fun x hx => by rw [List.mem_singleton.mp hx]; exact ⟨c0, c1, ne⟩) (by show 1 ≤ 4; omega) (by decide) (fun _ => ⟨c, rfl⟩) h0 h1, rfl⟩
theorem isort_two (x y : Int) : isort [x, y] = if x ≤ y then [x, y] else [y, x] := by
  split
  · rename_i h
    exact List.mergeSort_of_pairwise (List.Pairwise.cons (fun z hz => by rw [List.mem_singleton.mp hz]; exact decide_eq_true h) (List.pairwise_singleton _ _))
  · rename_i h
    have p : (isort [x, y]).Perm [y, x] := (isort_perm [x, y]).trans (List.Perm.swap _ _ _)
    refine List.Perm.eq_of_pairwise (le := fun a b => a ≤ b) (fun a b _ _ h1 h2 => by omega) (isort_sorted _) ?_ p
    exact List.Pairwise.cons (fun z hz => by rw [List.mem_singleton.mp hz]; omega) (List.pairwise_singleton _ _)
theorem rd__law_short : ∀ ds M Q, S__law_short ds M Q → as__law_short (endsOf Q) (slots N__law_short.length ds) M := by
  rintro ds M Q ⟨P, a, g, s, M0, n, z, rfl, rfl, ha, hs, n1, n8, zl, hq⟩
  show as__law_short (endsOf Q) [.dat (.ref a), .dat (.int n), .dat (.int z), .non] _
  unfold as__law_short
  walk_at "gs"
  refine ⟨⟨by omega, by omega⟩, ?_⟩
  refine lcR (fun i k acc Γ M' => ∃ (gs : List Gt) (g' s' : Int), HOk g' s' ∧ M' = HP P a g' s' M0 ∧ Γ = [.dat (.ref a), .dat (.int n), .dat (.int z), .non] ∧ acc = gs.map gtD ∧ gs.length + k = z ∧ ∀ q ∈ gs, GtOk n q ∧ shG q = true) ?_ ?_ _ [] ⟨[], g, s, hs, rfl, rfl, rfl, by simp, fun q h => nomatch h⟩
  · rintro i acc Γ M' ⟨gs, g', s', hs', rfl, rfl, rfl, gl, ok⟩
    walk_at "gs"
    exact hq gs g' s' gl ok hs'
  · rintro i k acc Γ M' K ⟨gs, g', s', hs', rfl, rfl, rfl, gl, ok⟩ hK
    unfold as__law_short_e1
    walk_at "gs"
    refine ⟨P, a, g', s', M0, n, rfl, rfl, ha, hs', n1, n8, fun q g2 s2 ok2 sh2 o2 => ?_⟩
    walk_at "gs"
    refine ⟨by simp; omega, hK _ _ _ ⟨gs ++ [q], g2, s2, o2, rfl, rfl, by simp, by simp; omega, fun x hx => ?_⟩⟩
    rcases List.mem_append.mp hx with h | h
    · exact ok x h
    · rw [List.mem_singleton.mp h]; exact ⟨ok2, sh2⟩
theorem rd__law_bits : ∀ ds M Q, S__law_bits ds M Q → as__law_bits (endsOf Q) (slots N__law_bits.length ds) M := by
  rintro ds M Q ⟨P, a, g, s, M0, n, rfl, rfl, ha, hs, n8, hq⟩
  show as__law_bits (endsOf Q) [.dat (.ref a), .dat (.int n), .non] _
  unfold as__law_bits
  walk_at "gs"
  refine ⟨⟨by omega, by omega⟩, ?_⟩
  refine lcR (fun i k acc Γ M' => ∃ (r : List Bool) (g' s' : Int), HOk g' s' ∧ M' = HP P a g' s' M0 ∧ Γ = [.dat (.ref a), .dat (.int n), .non] ∧ acc = bsD r ∧ r.length + k = n) ?_ ?_ _ [] ⟨[], g, s, hs, rfl, rfl, rfl, by simp⟩
  · rintro i acc Γ M' ⟨r, g', s', hs', rfl, rfl, rfl, rl⟩
    walk_at "gs"
    exact hq r g' s' rl hs'
  · rintro i k acc Γ M' K ⟨r, g', s', hs', rfl, rfl, rfl, rl⟩ hK
    unfold as__law_bits_e1
    walk_at "gs"
    refine ⟨P, a, g', s', M0, 2, rfl, rfl, ha, hs', by omega, by omega, fun d g2 s2 d0 d1 o2 => ?_⟩
    walk_at "gs"
    refine ⟨by unfold bsD; simp; omega, hK _ _ _ ⟨r ++ [decide (d = 1)], g2, s2, o2, rfl, rfl, ?_, by simp; omega⟩⟩
    have : d = 0 ∨ d = 1 := by omega
    rcases this with rfl | rfl <;> simp [bsD, bD, bI]

theorem look_HP {a b : Addr} {g s : Int} {M : Mem} (h : b ≠ a) : (HP [] a g s M).lookup b = M.lookup b := by
  show List.lookup b ((a, _) :: M) = _
  rw [List.lookup_cons, show (b == a) = false by simpa using h]
theorem tb_HP {a : Addr} {g s : Int} {M : Mem} (ha : a ∉ dom M) (h : Tb M) : Tb (HP [] a g s M) := by
  obtain ⟨⟨P, hP⟩, R, hR⟩ := h
  have ne : ∀ {b c}, M.lookup b = some c → b ≠ a := fun h e => ha (by rw [← e]; exact lk_dom h)
  exact ⟨⟨P, by rw [look_HP (ne hP)]; exact hP⟩, R, by rw [look_HP (ne hR)]; exact hR⟩
theorem tb_tabsM {Ms : List Mk3} (hn : Ms.map (·.1) = [("not_at" : Str), ("sign_at" : Str)]) (nd : (Ms.map (·.2.2)).Nodup) : Tb (tabsM Ms) := by
  obtain ⟨⟨x1, f1, P1⟩, Ms, rfl⟩ : ∃ m Ms', Ms = m :: Ms' := by cases Ms with | nil => cases hn | cons m l => exact ⟨m, l, rfl⟩
  obtain ⟨⟨x2, f2, P2⟩, Ms, rfl⟩ : ∃ m Ms', Ms = m :: Ms' := by cases Ms with | nil => cases hn | cons m l => exact ⟨m, l, rfl⟩
  obtain rfl : Ms = [] := by cases Ms with | nil => rfl | cons m l => cases hn
  simp only [List.map_cons, List.map_nil, List.cons.injEq, and_true] at hn
  obtain ⟨rfl, rfl⟩ := hn
  have ne : (P2 == P1) = false := by
    rw [beq_eq_false_iff_ne]
    intro e
    rw [e] at nd
    simp at nd
  refine ⟨⟨P1, ?_⟩, P2, ?_⟩
  · simp only [tabsM, List.map_cons, List.map_nil, List.lookup_cons, beq_self_eq_true]
  · simp only [tabsM, List.map_cons, List.map_nil, List.lookup_cons, ne, beq_self_eq_true]
theorem rotP_add (i j : Nat) (n : Nm) : rotP (i + j) n = rotP j (rotP i n) := by
  induction i generalizing n with
  | zero => rw [Nat.zero_add]; rfl
  | succ i ih => rw [Nat.add_right_comm]; exact ih (rotN n)
theorem rotP8 (n : Nm) : rotP 8 n = n := by
  obtain ⟨⟨a, b, c, d⟩, k⟩ := n
  simp [rotP, rotN]
theorem rotP4 (n : Nm) : rotP 4 n = oppN n := by
  obtain ⟨⟨a, b, c, d⟩, k⟩ := n
  simp [rotP, rotN, oppN]
theorem rotP_mod (i : Nat) (n : Nm) : rotP (i % 8) n = rotP i n := by
  induction i using Nat.strongRecOn with
  | _ i ih =>
    by_cases h : i < 8
    · rw [Nat.mod_eq_of_lt h]
    · obtain ⟨j, rfl⟩ : ∃ j, i = 8 + j := ⟨i - 8, by omega⟩
      rw [rotP_add, rotP8, Nat.add_mod_left]
      exact ih j (by omega)
theorem rotP_two {x y z : Int} (n : Nm) (h : (x + y) % 8 = z % 8) : rotP (y % 8).toNat (rotP (x % 8).toNat n) = rotP (z % 8).toNat n := by
  rw [← rotP_add, ← rotP_mod]
  have e : ((x % 8).toNat + (y % 8).toNat) % 8 = (z % 8).toNat := by omega
  rw [e]
theorem rot_ev (x : Z4) : (⟨-x.d, x.a, x.b, x.c⟩ : Z4).ev = x.ev := by
  unfold Z4.ev
  have e1 : (-x.d + x.b).fmod 2 = (x.b + x.d).fmod 2 := by
    rw [Int.fmod_eq_emod_of_nonneg _ (by decide), Int.fmod_eq_emod_of_nonneg _ (by decide)]
    omega
  simp only [e1, Bool.and_comm]
theorem SmN.rot {b : Nat} {n : Nm} (h : SmN b n) : SmN b (rotN n) where
  bd := by
    have a0 := h.bd.a0
    have a1 := h.bd.a1
    have b0 := h.bd.b0
    have b1 := h.bd.b1
    have c0 := h.bd.c0
    have c1 := h.bd.c1
    have d0 := h.bd.d0
    have d1 := h.bd.d1
    exact ⟨by show -(2 ^ b) ≤ -n.1.d; omega, by show -n.1.d ≤ 2 ^ b; omega, a0, a1, b0, b1, c0, c1⟩
  k := h.k
  red := by
    refine ⟨fun e => ?_, fun hk => ?_⟩
    · refine absurd ?_ h.nz
      have e : (⟨-n.1.d, n.1.a, n.1.b, n.1.c⟩ : Z4) = ⟨0, 0, 0, 0⟩ := e
      simp only [Z4.mk.injEq] at e
      obtain ⟨e1, e2, e3, e4⟩ := e
      show (⟨n.1.a, n.1.b, n.1.c, n.1.d⟩ : Z4) = ⟨0, 0, 0, 0⟩
      rw [e2, e3, e4, show n.1.d = 0 by omega]
    · show (⟨-n.1.d, n.1.a, n.1.b, n.1.c⟩ : Z4).ev = false
      rw [rot_ev]
      exact h.red.2 hk
  nz := fun e => by
    refine absurd ?_ h.nz
    have e : (⟨-n.1.d, n.1.a, n.1.b, n.1.c⟩ : Z4) = ⟨0, 0, 0, 0⟩ := e
    simp only [Z4.mk.injEq] at e
    obtain ⟨e1, e2, e3, e4⟩ := e
    show (⟨n.1.a, n.1.b, n.1.c, n.1.d⟩ : Z4) = ⟨0, 0, 0, 0⟩
    rw [e2, e3, e4, show n.1.d = 0 by omega]
theorem SmN.rotP {b : Nat} : ∀ {i : Nat} {n : Nm}, SmN b n → SmN b (Law.rotP i n)
  | 0, _, h => h
  | i + 1, _, h => SmN.rotP (i := i) h.rot
theorem flip_row {n : Nat} : ∀ {ns : List Bool} {r : List Int}, ns.length = n → BitRow n r → BitRow n (flipR ns r) := by
  intro ns r hn h
  refine ⟨by unfold flipR; rw [List.length_zipWith, hn, h.1, Nat.min_self], ?_⟩
  have h2 := h.2
  clear h hn
  induction ns generalizing r with
  | nil => intro z hz; exact nomatch hz
  | cons b ns ih =>
    cases r with
    | nil => intro z hz; exact nomatch hz
    | cons x r =>
      intro z hz
      rw [show flipR (b :: ns) (x :: r) = (if b = true then 1 - x else x) :: flipR ns r from rfl] at hz
      rcases List.mem_cons.mp hz with rfl | hz
      · have := h2 x List.mem_cons_self
        split <;> omega
      · exact ih (fun y hy => h2 y (List.mem_cons_of_mem _ hy)) z hz
theorem flip_flip : ∀ {ns : List Bool} {r : List Int}, ns.length = r.length → flipR ns (flipR ns r) = r
  | [], [], _ => rfl
  | b :: ns, x :: r, h => by
    rw [show flipR (b :: ns) (x :: r) = (if b = true then 1 - x else x) :: flipR ns r from rfl]
    rw [show flipR (b :: ns) ((if b = true then 1 - x else x) :: flipR ns r) = (if b = true then 1 - (if b = true then 1 - x else x) else (if b = true then 1 - x else x)) :: flipR ns (flipR ns r) from rfl, flip_flip (by simpa using h)]
    cases b
    · rfl
    · simp only [if_true]
      rw [show 1 - (1 - x) = x by omega]
  | [], _ :: _, h => by simp at h
  | _ :: _, [], h => by simp at h
theorem flip_comm : ∀ {ns ms : List Bool} {r : List Int}, flipR ns (flipR ms r) = flipR ms (flipR ns r)
  | [], [], r => rfl
  | [], m :: ms, r => by cases r <;> rfl
  | b :: ns, [], r => by cases r <;> rfl
  | b :: ns, m :: ms, [] => rfl
  | b :: ns, m :: ms, x :: r => by
    show _ :: flipR ns (flipR ms r) = _ :: flipR ms (flipR ns r)
    rw [flip_comm]
    congr 1
    cases b <;> cases m <;> simp <;> omega
def sN (ss ns : List Bool) : Int := (List.zipWith (fun s b => bI (b && s)) ss ns).sum
theorem zS_flip : ∀ {ss ns : List Bool} {r : List Int}, ss.length = r.length → ns.length = r.length → ∃ t : Int, zS ss (flipR ns r) + zS ss r = sN ss ns + 2 * t
  | [], [], [], _, _ => ⟨0, rfl⟩
  | s :: ss, b :: ns, x :: r, h1, h2 => by
    obtain ⟨t, e⟩ := zS_flip (ss := ss) (ns := ns) (r := r) (by simpa using h1) (by simpa using h2)
    have e1 : zS (s :: ss) (flipR (b :: ns) (x :: r)) = bI s * (if b = true then 1 - x else x) + zS ss (flipR ns r) := rfl
    have e2 : zS (s :: ss) (x :: r) = bI s * x + zS ss r := rfl
    have e3 : sN (s :: ss) (b :: ns) = bI (b && s) + sN ss ns := rfl
    rw [e1, e2, e3]
    refine ⟨t + (if b = true then 0 else bI s * x), ?_⟩
    cases s <;> cases b <;> simp [bI] <;> omega
  | [], _, _ :: _, h1, _ => by simp at h1
  | [], _ :: _, [], _, h2 => by simp at h2
  | _ :: _, _, [], h1, _ => by simp at h1
  | _ :: _, [], _ :: _, _, h2 => by simp at h2
theorem sN_y (k : Kp) (h : k.n.length = k.s.length) : sN k.s k.n = yS k := by
  unfold sN yS
  have : ∀ (ns ss : List Bool), List.zipWith (fun s b => bI (b && s)) ss ns = List.zipWith (fun a b => bI (a && b)) ns ss := fun ns ss => List.zipWith_comm
  rw [this]
def unl1 (a b c d : Bool) : Bool := (a || b) && (c || d) && !(decide (a = c) && decide (b = d))
def unlK : List (Bool × Bool) → List (Bool × Bool) → Nat
  | p :: ps, q :: qs => (if unl1 p.1 p.2 q.1 q.2 = true then 1 else 0) + unlK ps qs
  | _, _ => 0
def ltK (k : Kp) : List (Bool × Bool) := k.n.zip k.s
theorem unl_sum : ∀ {n1 s1 n2 s2 : List Bool}, s1.length = n1.length → n2.length = n1.length → s2.length = n1.length → ∃ t : Int, sN s1 n2 + sN s2 n1 = (unlK (n1.zip s1) (n2.zip s2) : Int) + 2 * t
  | [], [], [], [], _, _, _ => ⟨0, rfl⟩
  | a :: n1, b :: s1, c :: n2, d :: s2, h1, h2, h3 => by
    obtain ⟨t, e⟩ := unl_sum (n1 := n1) (s1 := s1) (n2 := n2) (s2 := s2) (by simpa using h1) (by simpa using h2) (by simpa using h3)
    have e1 : sN (b :: s1) (c :: n2) = bI (c && b) + sN s1 n2 := rfl
    have e2 : sN (d :: s2) (a :: n1) = bI (a && d) + sN s2 n1 := rfl
    have e3 : unlK ((a :: n1).zip (b :: s1)) ((c :: n2).zip (d :: s2)) = (if unl1 a b c d = true then 1 else 0) + unlK (n1.zip s1) (n2.zip s2) := rfl
    rw [e1, e2, e3]
    refine ⟨t + (if (c && b && a && d) = true then 1 else 0), ?_⟩
    cases a <;> cases b <;> cases c <;> cases d <;> simp [bI, unl1] <;> omega
  | [], _ :: _, _, _, h, _, _ => by simp at h
  | _ :: _, [], _, _, h, _, _ => by simp at h
  | [], [], _ :: _, _, _, h, _ => by simp at h
  | _ :: _, _ :: _, [], _, _, h, _ => by simp at h
  | [], [], [], _ :: _, _, _, h => by simp at h
  | _ :: _, _ :: _, _ :: _, [], _, _, h => by simp at h
theorem done_done {n : Nat} {k : Kp} {p : List Int × Nm} (hk : KOk n k) (hp : BitRow n p.1) : doneP k (doneP k p) = p := by
  have l1 : k.n.length = p.1.length := hk.n.trans hp.1.symm
  have l2 : k.s.length = p.1.length := hk.s.trans hp.1.symm
  obtain ⟨t, e⟩ := zS_flip l2 l1
  rw [sN_y k (l1.trans l2.symm)] at e
  show (flipR k.n (flipR k.n p.1), rotP (qR k (flipR k.n p.1) % 8).toNat (rotP (qR k p.1 % 8).toNat p.2)) = p
  rw [flip_flip l1, rotP_two (z := 0) p.2 (by unfold qR; omega)]
  rfl
theorem done_two {n : Nat} {j k : Kp} {p : List Int × Nm} (hj : KOk n j) (hk : KOk n k) (hp : BitRow n p.1) : doneP j (doneP k p) = if unlK (ltK j) (ltK k) % 2 = 0 then doneP k (doneP j p) else oppP (doneP k (doneP j p)) := by
  have a1 : j.n.length = p.1.length := hj.n.trans hp.1.symm
  have a2 : j.s.length = p.1.length := hj.s.trans hp.1.symm
  have b1 : k.n.length = p.1.length := hk.n.trans hp.1.symm
  have b2 : k.s.length = p.1.length := hk.s.trans hp.1.symm
  obtain ⟨t, e⟩ := zS_flip a2 b1
  obtain ⟨u, f⟩ := zS_flip b2 a1
  obtain ⟨v, g⟩ := unl_sum (n1 := j.n) (s1 := j.s) (n2 := k.n) (s2 := k.s) (a2.trans a1.symm) (b1.trans a1.symm) (b2.trans a1.symm)
  have el : doneP j (doneP k p) = (flipR j.n (flipR k.n p.1), rotP (qR j (flipR k.n p.1) % 8).toNat (rotP (qR k p.1 % 8).toNat p.2)) := rfl
  have er : doneP k (doneP j p) = (flipR k.n (flipR j.n p.1), rotP (qR k (flipR j.n p.1) % 8).toNat (rotP (qR j p.1 % 8).toNat p.2)) := rfl
  unfold ltK
  generalize unlK (j.n.zip j.s) (k.n.zip k.s) = c at g
  rw [el, er]
  split
  · rename_i h
    rw [flip_comm, rotP_two (z := qR j p.1 + qR k (flipR j.n p.1)) p.2 (by unfold qR; omega), rotP_two (z := qR j p.1 + qR k (flipR j.n p.1)) p.2 rfl]
  · rename_i h
    show _ = (flipR k.n (flipR j.n p.1), oppN _)
    rw [flip_comm, rotP_two (z := qR j p.1 + qR k (flipR j.n p.1) + 4) p.2 (by unfold qR; omega), rotP_two (z := qR j p.1 + qR k (flipR j.n p.1)) p.2 rfl, ← rotP4, ← rotP_add]
    generalize qR j p.1 + qR k (flipR j.n p.1) = z
    have e8 : ((z + 4) % 8).toNat = ((z % 8).toNat + 4) % 8 := by omega
    rw [e8, rotP_mod]
theorem in_zy (a b : Bool) : decide (sgN a b ∈ ("zy" : Str).cps.toList) = b := by cases a <;> cases b <;> decide
theorem in_xy (a b : Bool) : decide (sgN a b ∈ ("xy" : Str).cps.toList) = a := by cases a <;> cases b <;> decide
theorem sgD_let (k : Kp) : sgD (letS k) = (k.n.zip k.s).map fun p => .str ⟨#[sgN p.1 p.2]⟩ := by
  unfold sgD letS
  show (List.zipWith sgN k.n k.s).map _ = _
  rw [List.map_zipWith, List.zip_eq_zipWith, List.map_zipWith]
def rlD (q : Int × Bool × Bool) : D := .tup [.int q.1, .str ⟨#[sgN q.2.1 q.2.2]⟩]
theorem zip_let (r : List Int) (k : Kp) : zipD (r.map .int) (sgD (letS k)) = (r.zip (k.n.zip k.s)).map rlD := by
  rw [sgD_let]
  unfold zipD
  rw [List.zipWith_map]
  show _ = (List.zip r _).map _
  rw [show List.zip r (k.n.zip k.s) = List.zipWith Prod.mk r (k.n.zip k.s) from List.zip_eq_zipWith .., List.map_zipWith]
  rfl
theorem z_sum : ∀ {r : List Int} {n s : List Bool}, n.length = r.length → s.length = r.length → (((r.zip (n.zip s)).filter fun q => q.2.2).map fun q => q.1).sum = zS s r
  | [], [], [], _, _ => rfl
  | x :: r, a :: n, b :: s, h1, h2 => by
    have ih := z_sum (r := r) (n := n) (s := s) (by simpa using h1) (by simpa using h2)
    rw [show zS (b :: s) (x :: r) = bI b * x + zS s r from rfl, ← ih]
    cases b
    · show (((r.zip (n.zip s)).filter fun q => q.2.2).map fun q => q.1).sum = _
      simp [bI]
    · show x + (((r.zip (n.zip s)).filter fun q => q.2.2).map fun q => q.1).sum = _
      simp [bI]
  | [], _ :: _, _, h, _ => by simp at h
  | _ :: _, [], _, h, _ => by simp at h
  | [], [], _ :: _, _, h => by simp at h
  | _ :: _, _ :: _, [], _, h => by simp at h
theorem z_flip : ∀ {r : List Int} {n s : List Bool}, n.length = r.length → s.length = r.length → ((r.zip (n.zip s)).map fun q => if q.2.1 = true then 1 - q.1 else q.1) = flipR n r
  | [], [], [], _, _ => rfl
  | x :: r, a :: n, b :: s, h1, h2 => by
    have ih := z_flip (r := r) (n := n) (s := s) (by simpa using h1) (by simpa using h2)
    show _ :: ((r.zip (n.zip s)).map fun q => if q.2.1 = true then 1 - q.1 else q.1) = _ :: flipR n r
    rw [ih]
  | [], _ :: _, _, h, _ => by simp at h
  | _ :: _, [], _, h, _ => by simp at h
  | [], [], _ :: _, _, h => by simp at h
  | _ :: _, _ :: _, [], _, h => by simp at h
theorem y_cnt (k : Kp) : (Txt.count (letS k) "y" : Int) = yS k := by
  have e : (Txt.count (letS k) ⟨#[121]⟩ : Int) = PyProof.Rows.cnt 121 (List.zipWith sgN k.n k.s) := PyProof.Rows.count_is _ _
  rw [show ("y" : Str) = ⟨#[121]⟩ from by decide, e]
  unfold yS
  generalize k.n = n
  generalize k.s = s
  induction n generalizing s with
  | nil => rfl
  | cons a n ih =>
    cases s with
    | nil => rfl
    | cons b s =>
      rw [List.zipWith_cons_cons, List.zipWith_cons_cons, PyProof.Rows.cnt_cons, ih, List.sum_cons]
      cases a <;> cases b <;> rfl
theorem rot_times {b : Nat} {n : Nm} (h : SmN b n) {i : Nat} (hi : i < 8) : Low (Z4.mul n.1 (rt i)) (n.2 + 0) = nD (rotP i n) := by
  have h2 : SmN b (rotP i n) := h.rotP
  have e : (Z4.mul n.1 (rt i), n.2 + 0) = rotP i n := by
    obtain ⟨⟨a, b, c, d⟩, k⟩ := n
    have : i = 0 ∨ i = 1 ∨ i = 2 ∨ i = 3 ∨ i = 4 ∨ i = 5 ∨ i = 6 ∨ i = 7 := by omega
    rcases this with rfl | rfl | rfl | rfl | rfl | rfl | rfl | rfl <;> simp [rotP, rotN, Z4.mul, rt] <;> omega
  rw [Low_N, e, lowN_id h2.red]
theorem SmN.big {b : Nat} {n : Nm} (h : SmN b n) (hb : b ≤ 900) : n.1.B 1000 := h.bd.mono (by omega)
theorem rt_b (i : Nat) : (rt i).B 1000 := by
  have e : (20 : Int) ≤ 2 ^ 1000 := by decide +kernel
  unfold rt
  split <;> exact ⟨by dsimp only; omega, by dsimp only; omega, by dsimp only; omega, by dsimp only; omega, by dsimp only; omega, by dsimp only; omega, by dsimp only; omega, by dsimp only; omega⟩
theorem done_nd {n : Nat} {k : Kp} {ps : List (List Int × Nm)} (hk : KOk n k) (hp : ∀ p ∈ ps, BitRow n p.1) (nd : (ps.map (·.1)).Nodup) : ((ps.map (doneP k)).map (·.1)).Nodup := by
  rw [List.map_map]
  refine List.pairwise_map.mpr ((List.pairwise_map.mp nd).imp_of_mem fun {p q} h1 h2 ne e => ne ?_)
  have e : flipR k.n p.1 = flipR k.n q.1 := e
  rw [← flip_flip (hk.n.trans (hp p h1).1.symm), e, flip_flip (hk.n.trans (hp q h2).1.symm)]
theorem plain_ps {ps : List (List Int × Nm)} : ∀ d ∈ ps.map pD, plain d = true ∧ dep d ≤ 60 := fun d hd => by
  obtain ⟨p, hp, rfl⟩ := List.mem_map.mp hd
  have a := dep_ints p.1
  have b : depL [D.int p.2.1.a, .int p.2.1.b, .int p.2.1.c, .int p.2.1.d, .int (p.2.2 : Int)] = 0 := dep_ints [p.2.1.a, p.2.1.b, p.2.1.c, p.2.1.d, (p.2.2 : Int)]
  have c := plainL_ints p.1
  have e : plainL [D.int p.2.1.a, .int p.2.1.b, .int p.2.1.c, .int p.2.1.d, .int (p.2.2 : Int)] = true := plainL_ints [p.2.1.a, p.2.1.b, p.2.1.c, p.2.1.d, (p.2.2 : Int)]
  refine ⟨?_, ?_⟩
  · rw [pD, Gw.plain, plainL, plainL, plainL, rowD, Gw.plain, c, nD, D5, Gw.plain, e]; rfl
  · rw [pD, dep, depL, depL, depL, rowD, dep, a, nD, D5, dep, b]; decide
theorem aSortD_at {r : Ret} {ps : List (List Int × Nm)} {Γ : Sl} {M : Mem} {Q : Ret → Sl → Mem → Prop} (hs : sqOf r Γ M = some (.lst (ps.map pD))) (h : Q (.tmp (.lst (sortD (ps.map pD)))) Γ M) : aSortD r Γ M Q := by
  unfold aSortD
  rw [hs]
  exact ⟨fun d hd => ⟨(plain_ps d hd).1, Nat.le_trans (plain_ps d hd).2 (by decide)⟩, all_alike ps, all_sortable ps, h⟩
theorem cm_small {i j : Int} (h0 : -100 < i ∧ i < 100) (h1 : -100 < j ∧ j < 100) : CM i j := by
  have e : (100 : Nat) ≤ 2 ^ 2000 := by decide +kernel
  exact mul_w (by omega) (by omega)
theorem zS_bd : ∀ {s : List Bool} {r : List Int}, (∀ z ∈ r, 0 ≤ z ∧ z < 2) → 0 ≤ zS s r ∧ zS s r ≤ r.length
  | [], r, _ => ⟨Int.le_refl _, by show (0 : Int) ≤ _; omega⟩
  | _ :: _, [], _ => ⟨Int.le_refl _, Int.le_refl _⟩
  | b :: s, x :: r, h => by
    have ih := zS_bd (s := s) (r := r) fun z hz => h z (List.mem_cons_of_mem _ hz)
    have hx := h x List.mem_cons_self
    rw [show zS (b :: s) (x :: r) = bI b * x + zS s r from rfl, List.length_cons]
    cases b
    · rw [show bI false = 0 from rfl, Int.zero_mul]; omega
    · rw [show bI true = 1 from rfl, Int.one_mul]; omega
theorem yS_bd (k : Kp) : 0 ≤ yS k ∧ yS k ≤ k.n.length := by
  unfold yS
  generalize k.n = n
  generalize k.s = s
  induction n generalizing s with
  | nil => exact ⟨Int.le_refl _, Int.le_refl _⟩
  | cons a n ih =>
    cases s with
    | nil => exact ⟨Int.le_refl _, by show (0 : Int) ≤ _; omega⟩
    | cons b s =>
      rw [List.zipWith_cons_cons, List.sum_cons, List.length_cons]
      have := ih s
      have := bI_bd (a && b)
      omega
theorem rd__law_by_root : ∀ ds M Q, S__law_by_root ds M Q → as__law_by_root (endsOf Q) (slots N__law_by_root.length ds) M := by
  rintro ds M Q ⟨x, rfl, hq⟩
  show as__law_by_root (endsOf Q) [.dat (.tup [.int x.1.a, .int x.1.b, .int x.1.c, .int x.1.d, .int x.2]), .non, .non, .non, .non, .non] M
  unfold as__law_by_root
  walk_at "gs"
  have e : rotN x = (⟨0 - x.1.d, x.1.a, x.1.b, x.1.c⟩, x.2) := by unfold rotN; rw [Int.zero_sub]
  rw [e] at hq
  exact hq
theorem rd_done_to : ∀ ds M Q, S_done_to ds M Q → as_done_to (endsOf Q) (slots N_done_to.length ds) M := by
  rintro ds M Q ⟨k, n, b, ps, rfl, hk, n8, b9, mx, hq⟩
  show as_done_to (endsOf Q) [.dat (.tup [.int (1 - 2 * bI k.m), .str (letS k)]), .dat (.tup (ps.map pD)), .non, .non, .non, .non, .non, .non, .non, .non, .non, .non] M
  unfold as_done_to
  walk_at "gs"
  refine forA pD (fun dn left Γ M' => dn ++ left = ps ∧ M' = M ∧ ∃ s5 s6 s7 s8 s9, Γ = [.dat (.tup [.int (1 - 2 * bI k.m), .str (letS k)]), .dat (.tup (ps.map pD)), .dat (.int (1 - 2 * bI k.m)), .dat (.str (letS k)), .own (.lst ((dn.map (doneP k)).map pD)), s5, s6, s7, s8, s9, .non, .non]) ?_ ?_ ps [] ⟨rfl, rfl, _, _, _, _, _, rfl⟩
  · rintro dn Γ M' ⟨e, rfl, s5, s6, s7, s8, s9, rfl⟩
    rw [List.append_nil] at e
    subst e
    unfold as_done_to_t1
    walk_at "gs"
    refine aSortD_at rfl ?_
    obtain ⟨os, eo, pm, od⟩ := sorted_ps (done_nd hk mx.row mx.nd)
    rw [eo]
    exact hq os pm od
  · rintro dn p left Γ M' K ⟨e, rfl, s5, s6, s7, s8, s9, rfl⟩ hK
    have hr : BitRow n p.1 := mx.row p (by rw [← e]; simp)
    have hs : SmN b p.2 := mx.num p (by rw [← e]; simp)
    have l1 : k.n.length = p.1.length := hk.n.trans hr.1.symm
    have l2 : k.s.length = p.1.length := hk.s.trans hr.1.symm
    have lp : p.1.length ≤ 8 := by rw [hr.1]; exact n8
    have lz : (p.1.zip (k.n.zip k.s)).length = p.1.length := by rw [List.length_zip, List.length_zip, l1, l2, Nat.min_self, Nat.min_self]
    unfold as_done_to_b1 pD rowD
    walk_at "gs"
    simp only [goD]
    rw [zip_let]
    refine lcFiltA rlD (fun q => q.2.2) (fun q => D.int q.1) _ [] (by rw [lz]; simp; omega) (fun q hq P2 N hP hN => ?_) ?_
    · unfold as_done_to_c1 as_done_to_e1 rlD
      walk_at "gs"
      refine ⟨_, rfl, ?_⟩
      rw [in_zy]
      cases hb : q.2.2
      · exact hN hb
      · exact hP hb
    rw [List.nil_append]
    walk_at "gs"
    have ei : ((p.1.zip (k.n.zip k.s)).filter fun q => q.2.2).map (fun q => D.int q.1) = (((p.1.zip (k.n.zip k.s)).filter fun q => q.2.2).map fun q => q.1).map D.int := by rw [List.map_map]; rfl
    have b1 := zS_bd (s := k.s) hr.2
    have b2 := yS_bd k
    have b3 := bI_bd k.m
    rw [ei, intsD_map]
    simp only [z_sum l1 l2, y_cnt, goD]
    refine ⟨cm_small (by omega) (by omega), cm_small (by omega) (by omega), cm_small (by omega) (by omega), ?_⟩
    rw [zip_let]
    refine lcMapA rlD (fun q => D.int (if q.2.1 = true then 1 - q.1 else q.1)) _ [] (by rw [lz]; simp; omega) (fun q hq P2 hP => ?_) ?_
    · unfold as_done_to_e2 rlD
      walk_at "gs"
      refine ⟨_, rfl, ?_⟩
      rw [in_xy]
      cases hb : q.2.1
      · rw [hb] at hP; exact hP
      · rw [hb] at hP; exact hP
    rw [List.nil_append]
    walk_at "gs"
    refine ⟨_, rfl, ?_⟩
    walk_at "gs"
    have eq : 4 * zS k.s p.1 + 2 * yS k + 2 * (1 - (1 - 2 * bI k.m)) = qR k p.1 := by unfold qR; omega
    rw [eq, Int.fmod_eq_emod_of_nonneg _ (by decide)]
    refine ⟨p.2.1, rt (qR k p.1 % 8).toNat, p.2.2, 0, rfl, hs.big b9, rt_b _, ?_⟩
    rw [rot_times hs (by omega)]
    walk_at "gs"
    have ef : (p.1.zip (k.n.zip k.s)).map (fun q => D.int (if q.2.1 = true then 1 - q.1 else q.1)) = (flipR k.n p.1).map .int := by rw [← z_flip l1 l2, List.map_map]; rfl
    have dl : dn.length + 1 ≤ ps.length := by rw [← e]; simp
    have few := mx.few
    refine ⟨by rw [List.length_map, List.length_map]; omega, ?_⟩
    rw [ef]
    simp only [List.map_append, List.map_cons, List.map_nil] at hK
    exact hK _ _ ⟨by rw [← e, List.append_assoc]; rfl, rfl, _, _, _, _, _, rfl⟩
def wS (q : Int × Bool × Bool) : Int := 4 * (bI q.2.2 * q.1) + 2 * bI (q.2.1 && q.2.2)
theorem w_sum : ∀ {r : List Int} {n s : List Bool}, n.length = r.length → s.length = r.length → ((r.zip (n.zip s)).map wS).sum = 4 * zS s r + 2 * (List.zipWith (fun a b => bI (a && b)) n s).sum
  | [], [], [], _, _ => rfl
  | x :: r, a :: n, b :: s, h1, h2 => by
    have ih := w_sum (r := r) (n := n) (s := s) (by simpa using h1) (by simpa using h2)
    rw [show zS (b :: s) (x :: r) = bI b * x + zS s r from rfl, List.zipWith_cons_cons, List.sum_cons]
    show (wS (x, a, b) :: (r.zip (n.zip s)).map wS).sum = _
    rw [List.sum_cons, ih]
    show 4 * (bI b * x) + 2 * bI (a && b) + _ = _
    omega
  | [], _ :: _, _, h, _ => by simp at h
  | _ :: _, [], _, h, _ => by simp at h
  | [], [], _ :: _, _, h => by simp at h
  | _ :: _, _ :: _, [], _, h => by simp at h
theorem items_tab : ∀ t : List (List Int × Nm), itemsT (t.map (·.1)) (t.map fun p => nD p.2) = t.map pD
  | [] => rfl
  | p :: t => by simp only [List.map_cons, itemsT, items_tab t]; rfl
theorem plain_tab {ts : List (List Int × Nm)} : ∀ d ∈ (tabP ts).2, Gw.plain d = true ∧ dep d ≤ 60 := fun d hd => by
  obtain ⟨p, hp, rfl⟩ := List.mem_map.mp hd
  have b : depL [D.int p.2.1.a, .int p.2.1.b, .int p.2.1.c, .int p.2.1.d, .int (p.2.2 : Int)] = 0 := dep_ints [p.2.1.a, p.2.1.b, p.2.1.c, p.2.1.d, (p.2.2 : Int)]
  have e : plainL [D.int p.2.1.a, .int p.2.1.b, .int p.2.1.c, .int p.2.1.d, .int (p.2.2 : Int)] = true := plainL_ints [p.2.1.a, p.2.1.b, p.2.1.c, p.2.1.d, (p.2.2 : Int)]
  exact ⟨by rw [nD, D5, Gw.plain, e], by rw [nD, D5, dep, b]; decide⟩
theorem put_tab {ts : List (List Int × Nm)} {p : List Int × Nm} (h : p.1 ∉ ts.map (·.1)) : putT (tabP ts).1 (tabP ts).2 p.1 (nD p.2) = tabP (ts ++ [p]) := by
  rw [tabP, putT_new h (by simp), tabP]
  simp
theorem get_let (z : Int) (a b : Bool) : getA (mergeA ([], []) [(.inr "i", D.int 0), (.inr "x", D.int 0), (.inr "z", D.int (4 * z)), (.inr "y", D.int (4 * z + 2))]).1 (mergeA ([], []) [(.inr "i", D.int 0), (.inr "x", D.int 0), (.inr "z", D.int (4 * z)), (.inr "y", D.int (4 * z + 2))]).2 (.inr ⟨#[sgN a b]⟩) = some (.int (wS (z, a, b))) := by
  have e : wS (z, a, b) = if a = true then (if b = true then 4 * z + 2 else 0) else (if b = true then 4 * z else 0) := by
    show 4 * (bI b * z) + 2 * bI (a && b) = _
    cases a <;> cases b <;> simp [bI]
  rw [e]
  cases a <;> cases b <;> rfl
theorem rotP_succ (i : Nat) (n : Nm) : rotP (i + 1) n = rotN (rotP i n) := rotP_add i 1 n
theorem rd__law_done : ∀ ds M Q, S__law_done ds M Q → as__law_done (endsOf Q) (slots N__law_done.length ds) M := by
  rintro ds M Q ⟨k, n, b, ps, rfl, hk, n8, b9, mx, hq⟩
  show as__law_done (endsOf Q) [.dat (.tup [.int (1 - 2 * bI k.m), .str (letS k)]), .dat (.tup (ps.map pD)), .non, .non, .non, .non, .non, .non, .non, .non] M
  unfold as__law_done
  walk_at "gs"
  refine forA pD (fun dn left Γ M' => dn ++ left = ps ∧ M' = M ∧ ∃ s3 s4 s5 s6 s7 s8 s9, Γ = [.dat (.tup [.int (1 - 2 * bI k.m), .str (letS k)]), .dat (.tup (ps.map pD)), .own (.dcT (tabP (dn.map (doneP k))).1 (tabP (dn.map (doneP k))).2), s3, s4, s5, s6, s7, s8, s9]) ?_ ?_ ps [] ⟨rfl, rfl, _, _, _, _, _, _, _, rfl⟩
  · rintro dn Γ M' ⟨e, rfl, s3, s4, s5, s6, s7, s8, s9, rfl⟩
    rw [List.append_nil] at e
    subst e
    unfold as__law_done_t3
    walk_at "gs"
    have nd := done_nd hk mx.row mx.nd
    refine ⟨plain_tab, ?_⟩
    show W.AllAlike (List.map toPy (itemsT ((dn.map (doneP k)).map (·.1)) ((dn.map (doneP k)).map fun p => nD p.2))) ∧ W.Sortable (List.map toPy (itemsT ((dn.map (doneP k)).map (·.1)) ((dn.map (doneP k)).map fun p => nD p.2))) ∧ Q (.dat (.tup (sortD (itemsT ((dn.map (doneP k)).map (·.1)) ((dn.map (doneP k)).map fun p => nD p.2))))) M'
    rw [items_tab]
    obtain ⟨os, eo, pm, od⟩ := sorted_ps nd
    refine ⟨all_alike _, all_sortable _, ?_⟩
    rw [eo]
    exact hq os pm od
  · rintro dn p left Γ M' K ⟨e, rfl, s3, s4, s5, s6, s7, s8, s9, rfl⟩ hK
    have hr : BitRow n p.1 := mx.row p (by rw [← e]; simp)
    have hs : SmN b p.2 := mx.num p (by rw [← e]; simp)
    have l1 : k.n.length = p.1.length := hk.n.trans hr.1.symm
    have l2 : k.s.length = p.1.length := hk.s.trans hr.1.symm
    have lp : p.1.length ≤ 8 := by rw [hr.1]; exact n8
    have lz : (p.1.zip (k.n.zip k.s)).length = p.1.length := by rw [List.length_zip, List.length_zip, l1, l2, Nat.min_self, Nat.min_self]
    unfold as__law_done_b3
    generalize ht : tabP (dn.map (doneP k)) = tb at hK
    have ep : pD p = .tup [.tup (p.1.map .int), nD p.2] := rfl
    rw [ep]
    walk_at "gs"
    have em : (4 * if decide (1 - 2 * bI k.m = -1) = true then 1 else 0) = 4 * bI k.m := by cases k.m <;> decide
    have b3 := bI_bd k.m
    simp only [goD]
    refine ⟨cm_small (by omega) (by split <;> omega), ?_⟩
    rw [zip_let, em]
    refine forA rlD (fun dn2 left2 Γ M2 => dn2 ++ left2 = p.1.zip (k.n.zip k.s) ∧ M2 = M' ∧ ∃ s8 s9, Γ = [.dat (.tup [.int (1 - 2 * bI k.m), .str (letS k)]), .dat (.tup (ps.map pD)), .own (.dcT tb.1 tb.2), .dat (.tup (p.1.map .int)), .dat (nD p.2), .dat (.int (4 * bI k.m + (dn2.map wS).sum)), .own (.lst ((dn2.map fun q => if q.2.1 = true then 1 - q.1 else q.1).map .int)), s7, s8, s9]) ?_ ?_ _ [] ⟨rfl, rfl, s8, s9, by rw [List.map_nil, List.sum_nil, Int.add_zero]; rfl⟩
    · rintro dn2 Γ M2 ⟨e2, rfl, s8, s9, rfl⟩
      rw [List.append_nil] at e2
      subst e2
      unfold as__law_done_t2
      walk_at "gs"
      have eq : 4 * bI k.m + ((p.1.zip (k.n.zip k.s)).map wS).sum = qR k p.1 := by
        rw [w_sum l1 l2]
        unfold qR yS
        omega
      rw [eq, z_flip l1 l2, Int.fmod_eq_emod_of_nonneg _ (by decide)]
      refine ⟨by decide, ⟨by omega, by omega⟩, ?_⟩
      refine forR (fun i c Γ M3 => ∃ j : Nat, j + c = (qR k p.1 % 8).toNat ∧ M3 = M2 ∧ ∃ s7, Γ = [.dat (.tup [.int (1 - 2 * bI k.m), .str (letS k)]), .dat (.tup (ps.map pD)), .own (.dcT tb.1 tb.2), .dat (.tup (p.1.map .int)), .dat (nD (rotP j p.2)), .dat (.int (qR k p.1)), .own (.lst ((flipR k.n p.1).map .int)), s7, s8, s9]) ?_ ?_ _ ⟨0, by simp, rfl, _, rfl⟩
      · rintro i Γ M3 ⟨j, ej, rfl, s7, rfl⟩
        rw [Nat.add_zero] at ej
        subst ej
        unfold as__law_done_t1
        walk_at "gs"
        rw [show keyT (.tup ((flipR k.n p.1).map .int)) = some (flipR k.n p.1) from key_row _]
        have nd := done_nd hk mx.row mx.nd
        have hn : (doneP k p).1 ∉ (dn.map (doneP k)).map (·.1) := by
          rw [← e, List.map_append, List.map_append, List.map_cons, List.map_cons, List.nodup_append] at nd
          exact fun hm => nd.2.2 _ hm _ List.mem_cons_self rfl
        have hp := put_tab hn
        rw [ht] at hp
        have hp : putT tb.1 tb.2 (flipR k.n p.1) (nD (rotP (qR k p.1 % 8).toNat p.2)) = tabP (dn.map (doneP k) ++ [doneP k p]) := hp
        have dl : dn.length + 1 ≤ ps.length := by rw [← e]; simp
        have few := mx.few
        simp only [hp]
        refine ⟨by rw [← ht]; simp only [tabP, List.length_map]; omega, ?_⟩
        simp only [List.map_append, List.map_cons, List.map_nil] at hK
        exact hK _ _ ⟨by rw [← e, List.append_assoc]; rfl, rfl, _, _, _, _, _, _, _, rfl⟩
      · rintro i c Γ M3 K3 ⟨j, ej, rfl, s7, rfl⟩ hK3
        unfold as__law_done_b2
        walk_at "gs"
        refine ⟨rotP j p.2, rfl, ?_⟩
        walk_at "gs"
        exact hK3 _ _ ⟨j + 1, by omega, rfl, _, by rw [rotP_succ]⟩
    · rintro dn2 q left2 Γ M2 K2 ⟨e2, rfl, s8, s9, rfl⟩ hK2
      have hq1 : q ∈ p.1.zip (k.n.zip k.s) := by rw [← e2]; simp
      have hz := hr.2 q.1 (List.of_mem_zip hq1).1
      have dl : dn2.length + 1 ≤ (p.1.zip (k.n.zip k.s)).length := by rw [← e2]; simp
      unfold as__law_done_b1 rlD
      walk_at "gs"
      refine ⟨cm_small (by omega) (by omega), cm_small (by omega) (by omega), ?_⟩
      rw [get_let, show wS (q.1, q.2.1, q.2.2) = wS q from rfl]
      refine ⟨_, rfl, ?_⟩
      simp only [List.map_append, List.map_cons, List.map_nil, List.sum_append, List.sum_cons, List.sum_nil, Int.add_zero] at hK2
      rw [← Int.add_assoc] at hK2
      rw [in_xy]
      cases hb : q.2.1
      · simp only [hb, Bool.false_eq_true, if_false] at hK2 ⊢
        refine ⟨by rw [List.length_map, List.length_map]; omega, hK2 _ _ ⟨by rw [← e2, List.append_assoc]; rfl, rfl, _, _, rfl⟩⟩
      · simp only [hb, if_true] at hK2 ⊢
        refine ⟨by rw [List.length_map, List.length_map]; omega, hK2 _ _ ⟨by rw [← e2, List.append_assoc]; rfl, rfl, _, _, rfl⟩⟩
theorem ite_yes {c : Prop} [Decidable c] {a b : Prop} (h : c) (ha : a) : if c then a else b := by rw [if_pos h]; exact ha
theorem ite_no {c : Prop} [Decidable c] {a b : Prop} (h : ¬ c) (ha : b) : if c then a else b := by rw [if_neg h]; exact ha
theorem done_sm {b n : Nat} {k : Kp} {p : List Int × Nm} (hk : KOk n k) (hp : BitRow n p.1) (hs : SmN b p.2) : BitRow n (doneP k p).1 ∧ SmN b (doneP k p).2 := ⟨flip_row hk.n hp, hs.rotP⟩
theorem Mx.done {b n : Nat} {k : Kp} {ps os : List (List Int × Nm)} (mx : Mx b n ps) (hk : KOk n k) (pm : os.Perm (ps.map (doneP k))) : Mx b n os := by
  have h : ∀ p ∈ os, BitRow n p.1 ∧ SmN b p.2 := fun p hp => by
    obtain ⟨q, hq, rfl⟩ := List.mem_map.mp (pm.mem_iff.mp hp)
    exact done_sm hk (mx.row q hq) (mx.num q hq)
  exact ⟨fun p hp => (h p hp).1, fun p hp => (h p hp).2, (pm.map _).nodup_iff.mpr (done_nd hk mx.row mx.nd), by rw [pm.length_eq, List.length_map]; exact mx.few⟩
theorem Mx.nice {n : Nat} {ps : List (List Int × Nm)} (mx : Mx 5 n ps) (n8 : n ≤ 8) : Nice (mixD ps) 3 (1000 * (2 * (8 * 12 + 3 + 2) + 3 + 2) + 3) := by
  refine nice_tup (fun d hd => ?_) (by rw [List.length_map]; exact mx.few)
  obtain ⟨p, hp, rfl⟩ := List.mem_map.mp hd
  have hr := mx.row p hp
  have hs := mx.num p hp
  refine nice_tup (n := 2) (w := 8 * 12 + 3) (k := 1) (fun d hd => ?_) (Nat.le_refl _)
  simp only [List.mem_cons, List.not_mem_nil, or_false] at hd
  rcases hd with rfl | rfl
  · exact nice_row (fun z hz => by have := hr.2 z hz; omega) (by rw [hr.1]; exact n8)
  · have a0 := hs.bd.a0
    have a1 := hs.bd.a1
    have b0 := hs.bd.b0
    have b1 := hs.bd.b1
    have c0 := hs.bd.c0
    have c1 := hs.bd.c1
    have d0 := hs.bd.d0
    have d1 := hs.bd.d1
    have := hs.k
    exact nice_row (r := [p.2.1.a, p.2.1.b, p.2.1.c, p.2.1.d, (p.2.2 : Int)]) (n := 8) (fun z hz => by
      simp only [List.mem_cons, List.not_mem_nil, or_false] at hz
      rcases hz with rfl | rfl | rfl | rfl | rfl <;> omega) (by show 5 ≤ 8; decide)
theorem Mx.sh {n : Nat} {ps : List (List Int × Nm)} (mx : Mx 5 n ps) (n8 : n ≤ 8) : shOkN (.tup (ps.map pD)) = true := (mx.nice n8).ok (by decide) (by decide)
theorem nice_lstL {k w n : Nat} {ds : List D} (h : ∀ d ∈ ds, Nice d k w) (hn : ds.length ≤ n) : Nice (.lst ds) (k + 1) (n * (w + 2) + 3) := by
  obtain ⟨a, b, c, e⟩ := niceL h
  have := Nat.mul_le_mul_right (w + 2) hn
  refine ⟨by rw [plainN]; exact a, by rw [toPyN, PyData.showable]; exact b, by rw [depN]; omega, by rw [widN]; omega⟩
theorem nice_let {n : Nat} {k : Kp} (h : KOk n k) (n8 : n ≤ 8) : Nice (letD k) 1 (2 * (82 + 2) + 3) := by
  refine nice_tup (n := 2) (w := 82) (k := 0) (fun d hd => ?_) (Nat.le_refl _)
  simp only [List.mem_cons, List.not_mem_nil, or_false] at hd
  have b3 := bI_bd k.m
  rcases hd with rfl | rfl
  · exact (nice_int (by omega) (by omega)).mono (by omega) (by omega)
  · have l : (letS k).length ≤ 8 := by
      show (List.zipWith sgN k.n k.s).toArray.size ≤ 8
      rw [List.size_toArray, List.length_zipWith, h.n, h.s]
      omega
    refine ⟨rfl, rfl, Nat.zero_le _, ?_⟩
    rw [widN]
    have := PySem.StrLaws.reprText_len (letS k) (fun c hc => by
      have hc : c ∈ List.zipWith sgN k.n k.s := hc
      obtain ⟨i, hi, e⟩ := List.mem_iff_getElem.mp hc
      rw [← e, List.getElem_zipWith]
      unfold sgN
      split <;> split <;> decide)
    omega
theorem swK_mem {l : List Kp} {i j : Nat} (hi : i < l.length) (hj : j < l.length) : ∀ k ∈ swK l i j, k ∈ l := fun k hk => by
  have e : ∀ m, m < l.length → (l[m]?.getD default) ∈ l := fun m hm => by
    rw [List.getElem?_eq_getElem hm]
    exact List.getElem_mem hm
  unfold swK at hk
  rcases List.mem_or_eq_of_mem_set hk with h | h
  · rcases List.mem_or_eq_of_mem_set h with h | h
    · exact h
    · rw [h]; exact e j hj
  · rw [h]; exact e i hi
theorem swK_len (l : List Kp) (i j : Nat) : (swK l i j).length = l.length := by unfold swK; rw [List.length_set, List.length_set]
theorem pick_lt {col : Kp → Bool} {a : Nat} {l : List Kp} {i : Nat} (h : pickK col a l = some i) : a ≤ i ∧ i < l.length := by
  have := List.mem_of_mem_head? h
  obtain ⟨h1, _⟩ := List.mem_filter.mp this
  rw [List.mem_range'_1] at h1
  omega
theorem swp1_ok {n : Nat} {col : Kp → Bool} {r : List Kp × Nat} (h : ∀ k ∈ r.1, KOk n k) : (∀ k ∈ (swp1 col r).1, KOk n k) ∧ (swp1 col r).1.length = r.1.length := by
  unfold swp1
  cases e : pickK col r.2 r.1 with
  | none => exact ⟨h, rfl⟩
  | some i =>
    obtain ⟨h1, h2⟩ := pick_lt e
    dsimp only
    refine ⟨fun k hk => ?_, by unfold clrK; rw [List.length_mapIdx, swK_len]⟩
    unfold clrK at hk
    obtain ⟨j, hj, rfl⟩ := List.mem_mapIdx.mp hk
    have hc : KOk n (r.1[i]?.getD default) := by
      rw [List.getElem?_eq_getElem h2]
      exact h _ (List.getElem_mem h2)
    have hm := h _ (swK_mem h2 (by omega) _ (List.getElem_mem hj))
    split
    · exact hm.tin hc
    · exact hm
theorem swpF_ok {n : Nat} : ∀ {cs : List (Str × Nat)} {r : List Kp × Nat}, (∀ k ∈ r.1, KOk n k) → (∀ k ∈ (swpF cs r).1, KOk n k) ∧ (swpF cs r).1.length = r.1.length
  | [], r, h => ⟨h, rfl⟩
  | c :: cs, r, h => by
    obtain ⟨h1, h2⟩ := swp1_ok (col := colB' c.1 c.2) h
    obtain ⟨h3, h4⟩ := swpF_ok (cs := cs) h1
    exact ⟨h3, h4.trans h2⟩
theorem behind_ok {n : Nat} (row : List Bool) : ∀ {gs : List Gt} {l : List Kp}, (∀ k ∈ l, KOk n k) → (∀ k ∈ gs.foldl (fun l g => l.map (gK g)) l, KOk n k) ∧ (gs.foldl (fun l g => l.map (gK g)) l).length = l.length
  | [], l, h => ⟨h, rfl⟩
  | g :: gs, l, h => by
    obtain ⟨h1, h2⟩ := behind_ok row (gs := gs) (l := l.map (gK g)) fun k hk => by
      obtain ⟨q, hq, rfl⟩ := List.mem_map.mp hk
      exact (h q hq).gK g
    exact ⟨h1, h2.trans (List.length_map ..)⟩
theorem letters_ok {n : Nat} {row : List Bool} (gs : List Gt) (rl : row.length = n) : (∀ k ∈ lettersF n gs row, KOk n k) ∧ (lettersF n gs row).length = n := by
  obtain ⟨h1, h2⟩ := behind_ok (n := n) row (gs := gs) (l := row.mapIdx fun w b => initK n w b) fun k hk => by
    obtain ⟨j, hj, rfl⟩ := List.mem_mapIdx.mp hk
    exact KOk.init n j _
  rw [List.length_mapIdx, rl] at h2
  obtain ⟨h3, h4⟩ := swpF_ok (cs := colsF "nots" (List.range n)) (r := (behindF n gs row, 0)) h1
  obtain ⟨h5, h6⟩ := swpF_ok (cs := colsF "signs" (List.range n)) h3
  exact ⟨h5, h6.trans (h4.trans h2)⟩


theorem rd__law_opposite : ∀ ds M Q, S__law_opposite ds M Q → as__law_opposite (endsOf Q) (slots N__law_opposite.length ds) M := by
  rintro ds M Q ⟨ps, rfl, pl, hq⟩
  show as__law_opposite (endsOf Q) [.dat (.tup (ps.map pD)), .non, .non, .non, .non, .non, .non, .non] M
  unfold as__law_opposite
  walk_at "gs"
  refine forA pD (fun dn left Γ M' => dn ++ left = ps ∧ M' = M ∧ ∃ s2 s3 s4 s5 s6 s7, Γ = [.dat (.tup (ps.map pD)), .own (.lst ((dn.map oppP).map pD)), s2, s3, s4, s5, s6, s7]) ?_ ?_ ps [] ⟨rfl, rfl, _, _, _, _, _, _, rfl⟩
  · rintro dn Γ M' ⟨e, rfl, s2, s3, s4, s5, s6, s7, rfl⟩
    rw [List.append_nil] at e
    subst e
    unfold as__law_opposite_t1
    walk_at "gs"
    exact hq
  · rintro dn p left Γ M' K ⟨e, rfl, s2, s3, s4, s5, s6, s7, rfl⟩ hK
    unfold as__law_opposite_b1 pD rowD nD D5
    walk_at "gs"
    have dl : dn.length + 1 ≤ ps.length := by rw [← e]; simp
    refine ⟨by rw [List.length_map, List.length_map]; omega, ?_⟩
    simp only [List.map_append, List.map_cons, List.map_nil] at hK
    have eo : pD (oppP p) = .tup [.tup (p.1.map .int), .tup [.int (0 - p.2.1.a), .int (0 - p.2.1.b), .int (0 - p.2.1.c), .int (0 - p.2.1.d), .int p.2.2]] := by
      rw [Int.zero_sub, Int.zero_sub, Int.zero_sub, Int.zero_sub]; rfl
    rw [eo] at hK
    exact hK _ _ ⟨by rw [← e, List.append_assoc]; rfl, rfl, _, _, _, _, _, _, rfl⟩
theorem rd__law_pick : ∀ ds M Q, S__law_pick ds M Q → as__law_pick (endsOf Q) (slots N__law_pick.length ds) M := by
  rintro ds M Q ⟨P, a, g, s, M0, d0, xs, rfl, hg, rfl, ha, o, x0, x1, hq⟩
  show as__law_pick (endsOf Q) [.dat (.ref a), .dat d0] _
  unfold as__law_pick
  cases d0 with
  | str z =>
    cases hg
    rw [sgD_len] at x0 x1
    walk_at "gs"
    have zl : z.length = z.cps.size := rfl
    refine ⟨by omega, ?_⟩
    refine ⟨P, a, g, s, M0, z.length, rfl, rfl, ha, o, by omega, by omega, fun d g1 s1 d0 d1 o1 => ?_⟩
    walk_at "gs"
    refine ⟨by omega, ?_⟩
    obtain ⟨c, e1, e2⟩ := atI_in (xs := z.cps.toList) d0 (by rw [Array.length_toList]; omega)
    rw [e1]
    exact hq _ g1 s1 (List.mem_map.mpr ⟨c, List.mem_of_getElem? e2, rfl⟩) o1
  | tup es =>
    cases hg
    walk_at "gs"
    refine ⟨P, a, g, s, M0, _, rfl, rfl, ha, o, by omega, by omega, fun d g1 s1 d0 d1 o1 => ?_⟩
    obtain ⟨x, e1, e2⟩ := atI_in d0 d1
    walk_at "gwx"
    exact hq x g1 s1 (List.mem_of_getElem? e2) o1
  | lst es =>
    cases hg
    walk_at "gs"
    refine ⟨P, a, g, s, M0, _, rfl, rfl, ha, o, by omega, by omega, fun d g1 s1 d0 d1 o1 => ?_⟩
    obtain ⟨x, e1, e2⟩ := atI_in d0 d1
    walk_at "gwx"
    exact hq x g1 s1 (List.mem_of_getElem? e2) o1
  | _ => cases hg
theorem rd__law_short_gate : ∀ ds M Q, S__law_short_gate ds M Q → as__law_short_gate (endsOf Q) (slots N__law_short_gate.length ds) M := by
  rintro ds M Q ⟨P, a, g, s, M0, n, rfl, rfl, ha, hs, n1, n8, hq⟩
  show as__law_short_gate (endsOf Q) [.dat (.ref a), .dat (.int n), .non, .non, .non, .non] _
  unfold as__law_short_gate
  walk_at "gs"
  refine ⟨P, a, g, s, M0, n, rfl, rfl, ha, hs, by omega, by omega, fun w g1 s1 w0 w1 o1 => ?_⟩
  walk_at "gs"
  refine ⟨P, a, g1, s1, M0, 9, rfl, rfl, ha, o1, by omega, by omega, fun lot g2 s2 l0 l1 o2 => ?_⟩
  walk_at "gs"
  by_cases h3 : lot < 3
  · simp only [h3, decide_true, if_true]
    exact hq ⟨"half", 0, [], w⟩ g2 s2 (sh_half w0 w1).1 (sh_half w0 w1).2 o2
  simp only [h3, decide_false, Bool.false_eq_true, if_false]
  unfold as__law_short_gate_t4
  walk_at "gs"
  by_cases e3 : lot = 3
  · subst e3
    walk_at "gs"
    refine ⟨P, a, g2, s2, M0, _, [.int 2, .int 4, .int 6], rfl, rfl, rfl, ha, o2, by decide, by decide, fun d g3 s3 hd o3 => ?_⟩
    have : ∃ j : Int, d = .int j ∧ (j = 2 ∨ j = 4 ∨ j = 6) := by
      simp only [List.mem_cons, List.not_mem_nil, or_false] at hd
      rcases hd with rfl | rfl | rfl
      · exact ⟨2, rfl, by omega⟩
      · exact ⟨4, rfl, by omega⟩
      · exact ⟨6, rfl, by omega⟩
    obtain ⟨j, rfl, hj⟩ := this
    walk_at "gs"
    refine hq ⟨"turn", j, [], w⟩ g3 s3 (ok_turn (by omega) (by omega) w0 w1 (fun c hc => nomatch hc) (by decide)) ?_ o3
    rcases hj with rfl | rfl | rfl <;> rfl
  simp only [e3, decide_false, Bool.false_eq_true, if_false]
  unfold as__law_short_gate_t3
  walk_at "gs"
  have rest : as__law_short_gate_t2 (endsOf Q) [.dat (.ref a), .dat (.int n), .dat (.int w), .dat (.int lot), .non, .non] (HP P a g2 s2 M0) := by
    unfold as__law_short_gate_t2
    walk_at "gs"
    by_cases e5 : lot = 5
    · subst e5
      walk_at "gs"
      refine ⟨P, a, g2, s2, M0, 7, rfl, rfl, ha, o2, by omega, by omega, fun d g3 s3 d0 d1 o3 => ?_⟩
      walk_at "gs"
      exact hq ⟨"phase", 1 + d, [], -1⟩ g3 s3 (ok_phase (by omega) (by omega)).1 (ok_phase (n := n) (by omega) (by omega)).2 o3
    simp only [e5, decide_false, Bool.false_eq_true, if_false]
    unfold as__law_short_gate_t1
    walk_at "gs"
    obtain ⟨W, rfl⟩ := Int.eq_ofNat_of_zero_le w0
    have key : ∀ m : Nat, m ≤ 1 → ap S__law_controls [D.ref a, D.int ↑n, D.int ↑W, D.int (m : Int)] (HP P a g2 s2 M0) (fun r M2 => frz r [Slot.dat (D.ref a), Slot.dat (D.int ↑n), Slot.dat (D.int ↑W), Slot.dat (D.int lot), Slot.non, Slot.non] fun d Γ2 => aCons (aVar 2) aNil Γ2 M2 fun ds Γ3 M3 => (D.str (Str.ofString "not") :: D.int 0 :: d :: ds).length ≤ sizeLine ∧ (endsOf Q).rt (Ret.dat (D.tup (D.str (Str.ofString "not") :: D.int 0 :: d :: ds))) Γ3 M3) {} := by
      intro m hm
      refine ⟨P, a, g2, s2, M0, n, W, m, rfl, rfl, ha, o2, by omega, n8, by omega, fun cs g3 s3 hc hl _ o3 => ?_⟩
      walk_at "gs"
      exact hq ⟨"not", 0, cs, W⟩ g3 s3 (ok_not w0 w1 hc (by omega)) (by show decide (cs.length ≤ 1) = true; simp; omega) o3
    by_cases e6 : 6 < lot
    · simp only [e6, decide_true, if_true]
      exact key 1 (by omega)
    · simp only [e6, decide_false, Bool.false_eq_true, if_false]
      exact key 0 (by omega)
  by_cases e4 : lot = 4
  · subst e4
    walk_at "gs"
    by_cases en : (1 : Int) < n
    · simp only [en, decide_true, if_true]
      refine ⟨⟨by omega, by omega⟩, ?_⟩
      obtain ⟨W, rfl⟩ := Int.eq_ofNat_of_zero_le w0
      rw [rngD0]
      refine lcFiltA (fun i : Nat => D.int (i : Nat)) (fun i => !decide (i = W)) (fun i : Nat => D.int (i : Nat)) (List.range n) [] (by simp; omega) (fun i hi P2 N hP hN => ?_) ?_
      · unfold as__law_short_gate_c1 as__law_short_gate_e1
        walk_at "gs"
        by_cases e : i = W
        · subst e
          simp only [decide_true, Bool.not_true, Bool.false_eq_true, if_false]
          exact hN (by simp)
        · have e' : decide ((i : Int) = (W : Int)) = false := by simp; omega
          simp only [e', Bool.not_false, if_true]
          exact hP (by simp [e])
      rw [List.nil_append]
      walk_at "gs"
      have ol := others_len (show W < n by omega)
      have osm : ∀ d ∈ ((List.range n).filter fun i => !decide (i = W)).map (fun i : Nat => D.int (i : Nat)), ∃ c : Int, d = .int c ∧ 0 ≤ c ∧ c < n ∧ c ≠ W := fun d hd => by
        obtain ⟨i, hi, rfl⟩ := List.mem_map.mp hd
        obtain ⟨h1, h2⟩ := List.mem_filter.mp hi
        have := List.mem_range.mp h1
        have h2 : i ≠ W := by simpa using h2
        exact ⟨i, rfl, by omega, by omega, by omega⟩
      refine ⟨P, a, g2, s2, M0, _, _, rfl, rfl, rfl, ha, o2, ?_, ?_, fun d g3 s3 hd o3 => ?_⟩
      · rw [List.length_map]; omega
      · rw [List.length_map]; omega
      obtain ⟨c, rfl, c0, c1, cw⟩ := osm d hd
      walk_at "gs"
      rw [show intsOf [D.int (W : Int), D.int c] = some [(W : Int), c] from rfl]
      dsimp only
      rw [isort_two]
      by_cases e : (W : Int) ≤ c
      · rw [if_pos e]
        exact hq ⟨"cross", 0, [(W : Int)], c⟩ g3 s3 (ok_cross w0 w1 c0 c1 (fun h => cw h.symm)).1 (ok_cross w0 w1 c0 c1 (fun h => cw h.symm)).2 o3
      · rw [if_neg e]
        exact hq ⟨"cross", 0, [c], W⟩ g3 s3 (ok_cross c0 c1 w0 w1 cw).1 (ok_cross c0 c1 w0 w1 cw).2 o3
    · simp only [en, decide_false, Bool.false_eq_true, if_false]
      exact rest
  · simp only [e4, decide_false, Bool.false_eq_true, if_false]
    exact rest
theorem join_let (bs : List (Bool × Bool)) : Txt.join "" (bs.map fun p => SX.S [sgN p.1 p.2]) = ⟨(bs.map fun p => sgN p.1 p.2).toArray⟩ := by
  have e1 : (bs.map fun p => SX.S [sgN p.1 p.2]) = (bs.map fun p => [sgN p.1 p.2]).map SX.S := by rw [List.map_map]; rfl
  have e0 : ("" : Str) = SX.S [] := by decide
  rw [e1, e0, SX.join_S]
  have : ∀ l : List (Bool × Bool), TL.joinL [] (l.map fun p => [sgN p.1 p.2]) = l.map fun p => sgN p.1 p.2 := by
    intro l
    induction l with
    | nil => rfl
    | cons p l ih =>
      cases l with
      | nil => rfl
      | cons q r =>
        show [sgN p.1 p.2] ++ ([] ++ TL.joinL [] ((q :: r).map fun p => [sgN p.1 p.2])) = _
        rw [ih]
        rfl
  rw [this]
theorem pick_let {d : D} (h : d ∈ sgD "iixyz") : ∃ p : Bool × Bool, d = .str ⟨#[sgN p.1 p.2]⟩ := by
  obtain ⟨c, hc, rfl⟩ := List.mem_map.mp h
  have hc : c ∈ [105, 105, 120, 121, 122] := hc
  simp only [List.mem_cons, List.not_mem_nil, or_false] at hc
  have : c = 105 ∨ c = 120 ∨ c = 121 ∨ c = 122 := by omega
  rcases this with rfl | rfl | rfl | rfl
  · exact ⟨(false, false), rfl⟩
  · exact ⟨(true, false), rfl⟩
  · exact ⟨(true, true), rfl⟩
  · exact ⟨(false, true), rfl⟩
theorem zip_self : ∀ bs : List (Bool × Bool), List.zipWith sgN (bs.map (·.1)) (bs.map (·.2)) = bs.map fun p => sgN p.1 p.2
  | [] => rfl
  | p :: bs => by rw [List.map_cons, List.map_cons, List.zipWith_cons_cons, zip_self bs]; rfl
theorem rd__law_letters : ∀ ds M Q, S__law_letters ds M Q → as__law_letters (endsOf Q) (slots N__law_letters.length ds) M := by
  rintro ds M Q ⟨P, a, g, s, M0, n, rfl, rfl, ha, hs, n8, hq⟩
  show as__law_letters (endsOf Q) [.dat (.ref a), .dat (.int n), .non, .non] _
  unfold as__law_letters
  walk_at "gs"
  refine ⟨⟨by omega, by omega⟩, ?_⟩
  refine lcR (fun i k acc Γ M' => ∃ (bs : List (Bool × Bool)) (g' s' : Int), HOk g' s' ∧ M' = HP P a g' s' M0 ∧ Γ = [.dat (.ref a), .dat (.int n), .non, .non] ∧ acc = (bs.map fun p => SX.S [sgN p.1 p.2]).map D.str ∧ bs.length + k = n) ?_ ?_ _ [] ⟨[], g, s, hs, rfl, rfl, rfl, by simp⟩
  · rintro i acc Γ M' ⟨bs, g', s', hs', rfl, rfl, rfl, bl⟩
    walk_at "gs"
    rw [strsD_map]
    simp only [join_let]
    have el : (bs.map fun p => SX.S [sgN p.1 p.2]).map (fun x : Str => x.length) = bs.map fun _ => 1 := by rw [List.map_map]; rfl
    refine ⟨?_, ?_⟩
    · rw [show ("" : Str).length = 0 from by decide, Nat.mul_zero, Nat.add_zero, el, List.map_const', List.sum_replicate_nat]
      omega
    refine ⟨P, a, g', s', M0, _, _, rfl, rfl, rfl, ha, hs', by decide, by decide, fun d g2 s2 hd o2 => ?_⟩
    have : ∃ m : Bool, d = .int (1 - 2 * bI m) := by
      simp only [List.mem_cons, List.not_mem_nil, or_false] at hd
      rcases hd with rfl | rfl
      · exact ⟨false, rfl⟩
      · exact ⟨true, rfl⟩
    obtain ⟨m, rfl⟩ := this
    walk_at "gs"
    have ek : letS ⟨m, bs.map (·.1), bs.map (·.2)⟩ = ⟨(bs.map fun p => sgN p.1 p.2).toArray⟩ := by
      unfold letS
      rw [zip_self]
    rw [join_let, ← ek]
    exact hq ⟨m, bs.map (·.1), bs.map (·.2)⟩ g2 s2 ⟨by rw [List.length_map]; exact bl, by rw [List.length_map]; exact bl⟩ o2
  · rintro i k acc Γ M' K ⟨bs, g', s', hs', rfl, rfl, rfl, bl⟩ hK
    unfold as__law_letters_e1
    walk_at "gs"
    refine ⟨P, a, g', s', M0, _, _, rfl, rfl, rfl, ha, hs', by decide, by decide, fun d g2 s2 hd o2 => ?_⟩
    obtain ⟨p, rfl⟩ := pick_let hd
    walk_at "gs"
    refine ⟨by rw [List.length_map, List.length_map]; omega, hK _ _ _ ⟨bs ++ [p], g2, s2, o2, rfl, rfl, ?_, by simp; omega⟩⟩
    rw [List.map_append, List.map_append]
    rfl
theorem put_any : ∀ (ts : List (List Int × Nm)) (r : List Int) (x : Nm), (ts.map (·.1)).Nodup → ∃ ts', putT (tabP ts).1 (tabP ts).2 r (nD x) = tabP ts' ∧ (∀ p ∈ ts', p ∈ ts ∨ p = (r, x)) ∧ (ts'.map (·.1)).Nodup ∧ ts'.length ≤ ts.length + 1
  | [], r, x, _ => ⟨[(r, x)], rfl, fun p hp => .inr (List.mem_singleton.mp hp), List.pairwise_singleton _ _, Nat.le_refl _⟩
  | q :: ts, r, x, nd => by
    by_cases e : q.1 = r
    · refine ⟨(r, x) :: ts, ?_, fun p hp => ?_, ?_, Nat.le_succ _⟩
      · show putT (q.1 :: _) (nD q.2 :: _) r (nD x) = _
        rw [putT, if_pos e, e]
        rfl
      · rcases List.mem_cons.mp hp with h | h
        · exact .inr h
        · exact .inl (List.mem_cons_of_mem _ h)
      · rw [← e]; exact nd
    · obtain ⟨hq, nd2⟩ := List.nodup_cons.mp nd
      obtain ⟨ts', e1, m1, n1, l1⟩ := put_any ts r x nd2
      refine ⟨q :: ts', ?_, fun p hp => ?_, ?_, by simp; omega⟩
      · show putT (q.1 :: _) (nD q.2 :: _) r (nD x) = _
        rw [putT, if_neg e]
        have e1 : putT (ts.map (·.1)) (ts.map fun p => nD p.2) r (nD x) = tabP ts' := e1
        rw [e1]
        rfl
      · rcases List.mem_cons.mp hp with h | h
        · exact .inl (by rw [h]; exact List.mem_cons_self)
        · exact (m1 p h).imp (List.mem_cons_of_mem _) id
      · refine List.nodup_cons.mpr ⟨fun hm => ?_, n1⟩
        obtain ⟨p, hp, ep⟩ := List.mem_map.mp hm
        rcases m1 p hp with h | h
        · exact hq (by rw [← ep]; exact List.mem_map.mpr ⟨p, h, rfl⟩)
        · exact e ((show q.1 = p.1 from ep.symm).trans (by rw [h]))
structure S3 (x : Z4) : Prop where
  a : -3 ≤ x.a ∧ x.a ≤ 3
  b : -3 ≤ x.b ∧ x.b ≤ 3
  c : -3 ≤ x.c ∧ x.c ≤ 3
  d : -3 ≤ x.d ∧ x.d ≤ 3
theorem S3.hf {x : Z4} (h : S3 x) : S3 x.hf := by
  have := h.a
  have := h.b
  have := h.c
  have := h.d
  exact ⟨by unfold Z4.hf; dsimp only; omega, by unfold Z4.hf; dsimp only; omega, by unfold Z4.hf; dsimp only; omega, by unfold Z4.hf; dsimp only; omega⟩
theorem S3.low : ∀ {k : Nat} {x : Z4}, S3 x → S3 (Z4.low k x).1 ∧ (Z4.low k x).2 ≤ k
  | 0, x, h => ⟨h, Nat.le_refl _⟩
  | k + 1, x, h => by
    rw [Z4.low]
    split
    · exact ⟨(S3.low h.hf).1, Nat.le_succ_of_le (S3.low h.hf).2⟩
    · exact ⟨h, Nat.le_refl _⟩
theorem sm_low {x : Z4} {k : Nat} (h : S3 x) (hk : k ≤ 20) (nz : lowN (x, k) ≠ (Z4.zero, 0)) : SmN 5 (lowN (x, k)) := by
  have red := lowN_red (x, k)
  have b : S3 (lowN (x, k)).1 ∧ (lowN (x, k)).2 ≤ k := by
    unfold lowN
    split
    · exact ⟨⟨by decide, by decide, by decide, by decide⟩, Nat.zero_le _⟩
    · exact h.low
  have := b.1.a
  have := b.1.b
  have := b.1.c
  have := b.1.d
  exact ⟨⟨by omega, by omega, by omega, by omega, by omega, by omega, by omega, by omega⟩, by omega, red, fun e => nz (Prod.ext e (red.1 e))⟩
theorem rd__law_mix : ∀ ds M Q, S__law_mix ds M Q → as__law_mix (endsOf Q) (slots N__law_mix.length ds) M := by
  rintro ds M Q ⟨P, a, g, s, M0, n, rfl, rfl, ha, hs, n8, hq⟩
  show as__law_mix (endsOf Q) [.dat (.ref a), .dat (.int n), .non, .non, .non, .non, .non, .non] _
  unfold as__law_mix
  walk_at "gs"
  refine ⟨P, a, g, s, M0, 4, rfl, rfl, ha, hs, by decide, by decide, fun ch g1 s1 c0 c1 o1 => ?_⟩
  walk_at "gs"
  refine ⟨cm_small (by omega) (by omega), ?_⟩
  refine ⟨P, a, g1, s1, M0, 4, rfl, rfl, ha, o1, by decide, by decide, fun w g2 s2 w0 w1 o2 => ?_⟩
  have hw : ∃ z : Int, atI [D.int 0, D.int 1, D.int 4, D.int (3 * (n : Int))] w = some (.int z) ∧ 0 ≤ z ∧ z ≤ 24 := by
    have : w = 0 ∨ w = 1 ∨ w = 2 ∨ w = 3 := by omega
    rcases this with rfl | rfl | rfl | rfl
    · exact ⟨0, rfl, by omega, by omega⟩
    · exact ⟨1, rfl, by omega, by omega⟩
    · exact ⟨4, rfl, by omega, by omega⟩
    · exact ⟨3 * n, rfl, by omega, by omega⟩
  obtain ⟨z, hz, z0, z1⟩ := hw
  walk_at "gs"
  simp only [hz]
  refine ⟨⟨by omega, by omega⟩, ?_⟩
  refine forR (fun i k Γ M' => ∃ (ts : List (List Int × Nm)) (g' s' : Int) (s4 s5 s6 : Slot), HOk g' s' ∧ M' = HP P a g' s' M0 ∧ Γ = [.dat (.ref a), .dat (.int n), .own (.dcT (tabP ts).1 (tabP ts).2), .dat (.int (1 + ch)), s4, s5, s6, .non] ∧ (∀ p ∈ ts, BitRow n p.1 ∧ SmN 5 p.2) ∧ (ts.map (·.1)).Nodup ∧ ts.length + k ≤ 24) ?_ ?_ _ ⟨[], g2, s2, _, _, _, o2, rfl, rfl, by intro p hp; exact (nomatch hp), by exact List.nodup_nil, by simp; omega⟩
  · rintro i Γ M' ⟨ts, g', s', s4, s5, s6, o', rfl, rfl, ok, nd, tl⟩
    unfold as__law_mix_t1
    walk_at "gs"
    refine ⟨plain_tab, ?_⟩
    show W.AllAlike (List.map toPy (itemsT (ts.map (·.1)) (ts.map fun p => nD p.2))) ∧ W.Sortable (List.map toPy (itemsT (ts.map (·.1)) (ts.map fun p => nD p.2))) ∧ Q (.dat (.tup (sortD (itemsT (ts.map (·.1)) (ts.map fun p => nD p.2))))) _
    rw [items_tab]
    obtain ⟨os, eo, pm, od⟩ := sorted_ps nd
    refine ⟨all_alike _, all_sortable _, ?_⟩
    rw [eo]
    exact hq os g' s' ⟨fun p hp => (ok p (pm.mem_iff.mp hp)).1, fun p hp => (ok p (pm.mem_iff.mp hp)).2, (pm.map _).nodup_iff.mpr nd, by rw [pm.length_eq]; omega⟩ od o'
  · rintro i k Γ M' K ⟨ts, g', s', s4, s5, s6, o', rfl, rfl, ok, nd, tl⟩ hK
    unfold as__law_mix_b1
    generalize hb : tabP ts = tb at *
    walk_at "gs"
    refine ⟨⟨by decide, by decide⟩, ?_⟩
    refine lcR (fun i2 k2 acc Γ M' => ∃ (zs : List Int) (g' s' : Int), HOk g' s' ∧ M' = HP P a g' s' M0 ∧ Γ = [.dat (.ref a), .dat (.int n), .own (.dcT tb.1 tb.2), .dat (.int (1 + ch)), .dat (.int i), s5, s6, .non] ∧ acc = zs.map .int ∧ zs.length + k2 = 4 ∧ ∀ z ∈ zs, -3 ≤ z ∧ z ≤ 3) ?_ ?_ _ [] ⟨[], g', s', o', rfl, rfl, rfl, rfl, by intro z hz; exact nomatch hz⟩
    · rintro i2 acc Γ M' ⟨zs, g3, s3, o3, rfl, rfl, rfl, zl, zb⟩
      obtain ⟨x, y, u, v, rfl⟩ : ∃ x y u v, zs = [x, y, u, v] := by
        match zs, zl with
        | [x, y, u, v], _ => exact ⟨x, y, u, v, rfl⟩
      have s3x : S3 ⟨x, y, u, v⟩ := ⟨zb x (by simp), zb y (by simp), zb u (by simp), zb v (by simp)⟩
      walk_at "gs"
      refine ⟨P, a, g3, s3, M0, 1 + ch + 2, rfl, rfl, ha, o3, by omega, by omega, fun d g4 s4 d0 d1 o4 => ?_⟩
      obtain ⟨d, rfl⟩ := Int.eq_ofNat_of_zero_le d0
      walk_at "gs"
      refine ⟨⟨x, y, u, v⟩, d, rfl, ?_⟩
      rw [Low_N]
      have nz := sm_low (k := d) s3x (by omega)
      generalize lowN (⟨x, y, u, v⟩, d) = m at nz
      unfold nD D5
      walk_at "gs"
      rw [show eqD (D.tup [.int m.1.a, .int m.1.b, .int m.1.c, .int m.1.d, .int m.2]) (D.tup [D.int 0, .int 0, .int 0, .int 0, .int 0]) = decide ([m.1.a, m.1.b, m.1.c, m.1.d, (m.2 : Int)] = [0, 0, 0, 0, 0]) from eqD_ints_t [m.1.a, m.1.b, m.1.c, m.1.d, (m.2 : Int)] [0, 0, 0, 0, 0]]
      refine ⟨cmp_ints_t [m.1.a, m.1.b, m.1.c, m.1.d, (m.2 : Int)], cmp_ints_t [0, 0, 0, 0, 0], ?_⟩
      by_cases hz : [m.1.a, m.1.b, m.1.c, m.1.d, (m.2 : Int)] = [0, 0, 0, 0, 0]
      · simp only [hz, decide_true, Bool.not_true, Bool.false_eq_true, if_false]
        exact hK _ _ ⟨ts, g4, s4, _, _, _, o4, rfl, by rw [hb], ok, nd, by omega⟩
      · simp only [hz, decide_false, Bool.not_false, if_true]
        have hm : SmN 5 m := nz fun e => hz (by rw [e]; rfl)
        refine ⟨P, a, g4, s4, M0, n, rfl, rfl, ha, o4, n8, fun r g5 s5 rl o5 => ?_⟩
        have er : bsD r = (r.map bI).map .int := by unfold bsD; rw [List.map_map]; rfl
        rw [er]
        walk_at "gs"
        rw [show keyT (.tup ((r.map bI).map .int)) = some (r.map bI) from key_row _]
        obtain ⟨ts', e1, m1, n1, l1⟩ := put_any ts (r.map bI) m nd
        rw [hb] at e1
        have e1 : putT tb.1 tb.2 (r.map bI) (.tup [.int m.1.a, .int m.1.b, .int m.1.c, .int m.1.d, .int m.2]) = tabP ts' := e1
        have br : BitRow n (r.map bI) := ⟨by rw [List.length_map]; exact rl, fun z hz => by
          obtain ⟨b, _, rfl⟩ := List.mem_map.mp hz
          cases b <;> decide⟩
        simp only [e1]
        refine ⟨by rw [← hb]; simp only [tabP, List.length_map]; omega, ?_⟩
        refine hK _ _ ⟨ts', g5, s5, _, _, _, o5, rfl, rfl, fun p hp => ?_, n1, by omega⟩
        rcases m1 p hp with h | h
        · exact ok p h
        · rw [h]; exact ⟨br, hm⟩
    · rintro i2 k2 acc Γ M' K2 ⟨zs, g3, s3, o3, rfl, rfl, rfl, zl, zb⟩ hK2
      unfold as__law_mix_e1
      walk_at "gs"
      refine ⟨P, a, g3, s3, M0, 7, rfl, rfl, ha, o3, by decide, by decide, fun d g4 s4 d0 d1 o4 => ?_⟩
      walk_at "gs"
      refine ⟨by rw [List.length_map]; omega, hK2 _ _ _ ⟨zs ++ [d - 3], g4, s4, o4, rfl, rfl, by simp, by simp; omega, fun z hz => ?_⟩⟩
      rcases List.mem_append.mp hz with h | h
      · exact zb z h
      · rw [List.mem_singleton.mp h]; omega
theorem unl_filt : ∀ (ps qs : List (Bool × Bool)), ((ps.zip qs).filter fun q => unl1 q.1.1 q.1.2 q.2.1 q.2.2).length = unlK ps qs
  | [], qs => by cases qs <;> rfl
  | _ :: _, [] => rfl
  | p :: ps, q :: qs => by
    rw [List.zip_cons_cons, List.filter_cons]
    have ih := unl_filt ps qs
    show (if unl1 p.1 p.2 q.1 q.2 = true then _ else _ : List _).length = (if unl1 p.1 p.2 q.1 q.2 = true then 1 else 0) + unlK ps qs
    split
    · rw [List.length_cons, ih]; omega
    · rw [ih]; omega
theorem sg_eq (a b c d : Bool) : decide ((⟨#[sgN a b]⟩ : Str) = ⟨#[sgN c d]⟩) = (decide (a = c) && decide (b = d)) := by cases a <;> cases b <;> cases c <;> cases d <;> decide
theorem sg_i (a b : Bool) : decide ((⟨#[sgN a b]⟩ : Str) = "i") = !(a || b) := by cases a <;> cases b <;> decide
def llD (q : (Bool × Bool) × Bool × Bool) : D := .tup [.str ⟨#[sgN q.1.1 q.1.2]⟩, .str ⟨#[sgN q.2.1 q.2.2]⟩]
theorem zip_two (j k : Kp) : zipD (sgD (letS j)) (sgD (letS k)) = ((ltK j).zip (ltK k)).map llD := by
  rw [sgD_let, sgD_let]
  unfold zipD ltK
  rw [List.zipWith_map]
  show _ = (List.zip _ _).map _
  rw [show List.zip (j.n.zip j.s) (k.n.zip k.s) = List.zipWith Prod.mk (j.n.zip j.s) (k.n.zip k.s) from List.zip_eq_zipWith .., List.map_zipWith]
  rfl
theorem ord_opp {ps : List (List Int × Nm)} (h : Ord ps) : Ord (ps.map oppP) := by
  unfold Ord at h ⊢
  rw [List.map_map]
  exact h
theorem rd__law_two_right : ∀ ds M Q, S__law_two_right ds M Q → as__law_two_right (endsOf Q) (slots N__law_two_right.length ds) M := by
  rintro ds M Q ⟨j, k, n, ps, rfl, hj, hk, n8, mx, hq⟩
  show as__law_two_right (endsOf Q) [.dat (.tup [.int (1 - 2 * bI j.m), .str (letS j)]), .dat (.tup [.int (1 - 2 * bI k.m), .str (letS k)]), .dat (mixD ps), .non, .non, .non, .non, .non] M
  unfold as__law_two_right
  walk_at "gs"
  refine ⟨k, n, 5, ps, rfl, hk, n8, by decide, mx, fun a1 pa1 oa1 => ?_⟩
  have ma1 := mx.done hk pa1
  walk_at "gs"
  refine ⟨j, n, 5, a1, rfl, hj, n8, by decide, ma1, fun a2 pa2 oa2 => ?_⟩
  have ma2 := ma1.done hj pa2
  walk_at "gs"
  refine ⟨j, n, 5, ps, rfl, hj, n8, by decide, mx, fun b1 pb1 ob1 => ?_⟩
  have mb1 := mx.done hj pb1
  walk_at "gs"
  refine ⟨k, n, 5, b1, rfl, hk, n8, by decide, mb1, fun b2 pb2 ob2 => ?_⟩
  have mb2 := mb1.done hk pb2
  unfold mixD
  walk_at "gs"
  simp only [goD]
  rw [zip_two]
  have lz : ((ltK j).zip (ltK k)).length ≤ 8 := by
    unfold ltK
    rw [List.length_zip, List.length_zip, hj.n]
    omega
  refine lcFiltA llD (fun q => unl1 q.1.1 q.1.2 q.2.1 q.2.2) (fun q => D.str ⟨#[sgN q.1.1 q.1.2]⟩) _ [] (by simp; simp at lz; omega) (fun q hq P2 N hP hN => ?_) ?_
  · unfold as__law_two_right_c1 as__law_two_right_e1 llD
    walk_at "gs"
    rw [sg_eq, sg_i, sg_i]
    obtain ⟨⟨x, y⟩, u, v⟩ := q
    dsimp only at hP hN ⊢
    revert hP hN
    cases x <;> cases y <;> cases u <;> cases v <;> intro hP hN <;> first | exact hP rfl | exact hN rfl
  rw [List.nil_append]
  walk_at "gs"
  rw [List.length_map, unl_filt]
  have pa : a2.Perm (ps.map fun p => doneP j (doneP k p)) := by
    have := pa2.trans (pa1.map (doneP j))
    rwa [List.map_map] at this
  have pb : b2.Perm (ps.map fun p => doneP k (doneP j p)) := by
    have := pb2.trans (pb1.map (doneP k))
    rwa [List.map_map] at this
  have row : ∀ p ∈ a2, p.1.length = n ∧ ∀ z ∈ p.1, 0 ≤ z ∧ z < 2 := ma2.row
  refine ⟨ma2.sh n8, by decide, ?_⟩
  by_cases ev : unlK (ltK j) (ltK k) % 2 = 0
  · have e : a2 = b2 := by
      refine ord_eq row (pa.trans ?_) oa2 ob2
      refine List.Perm.trans (List.Perm.of_eq (List.map_congr_left fun p hp => ?_)) pb.symm
      rw [done_two hj hk (mx.row p hp), if_pos ev]
    refine ite_yes (decide_eq_true (by rw [Int.fmod_eq_emod_of_nonneg _ (by decide)]; omega)) ?_
    refine ⟨mb2.sh n8, ?_⟩
    rw [e, decide_eq_true rfl]
    exact hq
  · have e : a2 = b2.map oppP := by
      refine ord_eq row (pa.trans ?_) oa2 (ord_opp ob2)
      refine List.Perm.trans (List.Perm.of_eq ?_) (pb.map oppP).symm
      rw [List.map_map]
      refine List.map_congr_left fun p hp => ?_
      rw [done_two hj hk (mx.row p hp), if_neg ev]
      rfl
    refine ite_no (by rw [decide_eq_true_eq, Int.fmod_eq_emod_of_nonneg _ (by decide)]; omega) ?_
    refine ⟨b2, rfl, by have := mb2.few; omega, ?_⟩
    rw [← e]
    unfold mixD
    walk_at "gs"
    rw [decide_true]
    exact ⟨ma2.sh n8, hq⟩
theorem rd_law : ∀ ds M Q, S_law ds M Q → as_law (endsOf Q) (slots N_law.length ds) M := by
  rintro ds M Q ⟨Ms, hn, nd, ns, rfl, rfl, nl, hq⟩
  show as_law (endsOf Q) [.dat (.scr (ns.map .int)), .non, .non, .non, .non, .non, .non, .non, .non, .non, .non, .non] (tabsM Ms)
  unfold as_law
  walk_at "gs"
  refine ⟨⟨by (repeat' split) <;> omega, by (repeat' split) <;> omega⟩, ?_⟩
  refine forR (fun i k Γ M' => Tb M' ∧ 0 ≤ i ∧ i + k ≤ 4 ∧ ∃ (s1 s2 s3 s4 s5 s6 s7 s8 s9 s10 s11 : Slot), Γ = [.dat (.scr (ns.map .int)), s1, s2, s3, s4, s5, s6, s7, s8, s9, s10, s11]) ?_ ?_ _ ⟨tb_tabsM hn nd, by decide, by (repeat' split) <;> omega, _, _, _, _, _, _, _, _, _, _, _, rfl⟩
  · rintro i Γ M' ⟨-, -, -, s1, s2, s3, s4, s5, s6, s7, s8, s9, s10, s11, rfl⟩
    unfold as_law_t3
    walk_at "gs"
    exact hq _
  rintro i k Γ M0 K ⟨tb, i0, i1, s1, s2, s3, s4, s5, s6, s7, s8, s9, s10, s11, rfl⟩ hK
  unfold as_law_b3
  walk_at "gs"
  refine ⟨ns, i, rfl, i0, by omega, fun a g s ha o => ?_⟩
  have tb0 : ∀ {g s : Int}, Tb (HP [] a g s M0) := tb_HP ha tb
  have ha : HA [] a M0 := ⟨by simp [dom], ha⟩
  walk_at "gs"
  refine ⟨⟨by decide, by decide⟩, ?_⟩
  refine forR (fun t k' Γ M' => ∃ (g s : Int), HOk g s ∧ M' = HP [] a g s M0 ∧ ∃ (s3 s4 s5 s6 s7 s8 s9 s10 s11 : Slot), Γ = [.dat (.scr (ns.map .int)), .dat (.int i), .dat (.ref a), s3, s4, s5, s6, s7, s8, s9, s10, s11]) ?_ ?_ _ ⟨g, s, o, rfl, _, _, _, _, _, _, _, _, _, rfl⟩
  · rintro t Γ M' ⟨g, s, o, rfl, s3, s4, s5, s6, s7, s8, s9, s10, s11, rfl⟩
    exact hK _ _ ⟨tb0, by omega, by omega, _, _, _, _, _, _, _, _, _, _, _, rfl⟩
  rintro t k' Γ M' K' ⟨g, s, o, rfl, s3, s4, s5, s6, s7, s8, s9, s10, s11, rfl⟩ hK'
  unfold as_law_b2
  walk_at "gs"
  refine ⟨[], a, g, s, M0, 8, rfl, rfl, ha, o, by decide, by decide, fun d g1 s1 d0 d1 o1 => ?_⟩
  obtain ⟨d, rfl⟩ := Int.eq_ofNat_of_zero_le d0
  walk_at "gs"
  refine ⟨[], a, g1, s1, M0, 9, rfl, rfl, ha, o1, by decide, by decide, fun z g2 s2 z0 z1 o2 => ?_⟩
  obtain ⟨z, rfl⟩ := Int.eq_ofNat_of_zero_le z0
  have en : (1 : Int) + (d : Int) = ((1 + d : Nat) : Int) := by omega
  rw [en]
  have n8 : 1 + d ≤ 8 := by omega
  have n1 : 1 ≤ 1 + d := by omega
  generalize 1 + d = n at n8 n1
  walk_at "gs"
  refine ⟨[], a, g2, s2, M0, n, z, rfl, rfl, ha, o2, n1, n8, by omega, fun gs g3 s3 gl ok o3 => ?_⟩
  walk_at "gs"
  refine ⟨[], a, g3, s3, M0, n, rfl, rfl, ha, o3, n8, fun k1 g4 s4 hk1 o4 => ?_⟩
  walk_at "gs"
  refine ⟨[], a, g4, s4, M0, n, rfl, rfl, ha, o4, n8, fun k2 g5 s5 hk2 o5 => ?_⟩
  walk_at "gs"
  refine ⟨[], a, g5, s5, M0, n, rfl, rfl, ha, o5, n8, fun row g6 s6 rl o6 => ?_⟩
  walk_at "gs"
  have all : gs.all shG = true := List.all_eq_true.mpr fun q hq => (ok q hq).2
  refine ⟨n, gs, row, rfl, rl, by omega, by omega, fun q hq => (ok q hq).1, tb0, fun _ => ?_, fun h => absurd (h.symm.trans all) (by decide)⟩
  obtain ⟨lok, llen⟩ := letters_ok gs rl
  walk_at "gs"
  refine ⟨[], a, g6, s6, M0, _, _, rfl, rfl, rfl, ha, o6, by rw [List.length_map, llen]; exact n1, by rw [List.length_map, llen]; omega, fun dl g7 s7 hdl o7 => ?_⟩
  obtain ⟨k3, hk3', rfl⟩ := List.mem_map.mp hdl
  have hk3 := lok k3 hk3'
  walk_at "gs"
  refine ⟨[], a, g7, s7, M0, n, rfl, rfl, ha, o7, n8, fun ps g8 s8 mx od o8 => ?_⟩
  walk_at "gs"
  have hks : ∀ x ∈ [k1, k2, k3], KOk n x := fun x hx => by
    simp only [List.mem_cons, List.not_mem_nil, or_false] at hx
    rcases hx with rfl | rfl | rfl
    · exact hk1
    · exact hk2
    · exact hk3
  have shL : shOkN (.tup [.lst [letD k1, letD k2, letD k3], mixD ps]) = true := by
    refine (nice_tup (n := 2) (w := 300000) (k := 3) (fun x hx => ?_) (Nat.le_refl _)).ok (by decide) (by decide)
    simp only [List.mem_cons, List.not_mem_nil, or_false] at hx
    rcases hx with rfl | rfl
    · refine (nice_lstL (n := 3) (k := 1) (w := 2 * (82 + 2) + 3) (fun y hy => ?_) (Nat.le_refl _)).mono (by decide) (by decide)
      obtain ⟨q, hq, rfl⟩ := List.mem_map.mp (show y ∈ [k1, k2, k3].map letD from hy)
      exact nice_let (hks q hq) n8
    · exact (mx.nice n8).mono (by decide) (by decide)
  refine ⟨shL, ?_⟩
  generalize eL : D.tup [.lst [letD k1, letD k2, letD k3], mixD ps] = dL at shL
  refine forA letD (fun dn left Γ M' => (∀ x ∈ left, KOk n x) ∧ M' = HP [] a g8 s8 M0 ∧ ∃ (s9 s10 s11 : Slot), Γ = [.dat (.scr (ns.map .int)), .dat (.int i), .dat (.ref a), .dat (.int t), .dat (.int n), .dat (circD n gs), .dat (.lst [letD k1, letD k2, letD k3]), .dat (mixD ps), .dat (.str (shDN dL)), s9, s10, s11]) ?_ ?_ [k1, k2, k3] [] ⟨hks, rfl, _, _, _, rfl⟩
  · rintro dn Γ M' ⟨-, rfl, s9, s10, s11, rfl⟩
    unfold as_law_t2
    walk_at "gs"
    rw [eL]
    refine ⟨shL, ?_⟩
    refine ite_no (by simp) ?_
    exact hK' _ _ ⟨g8, s8, o8, rfl, _, _, _, _, _, _, _, _, _, rfl⟩
  · rintro dn k left Γ M' K2 ⟨hl, rfl, s9, s10, s11, rfl⟩ hK2
    have hk := hl k List.mem_cons_self
    unfold as_law_b1
    walk_at "gs"
    refine ⟨k, n, 5, ps, rfl, hk, n8, by decide, mx, fun os po oo => ?_⟩
    have mo := mx.done hk po
    unfold mixD
    walk_at "gs"
    refine ⟨mo.sh n8, k, n, 5, ps, rfl, hk, n8, by decide, mx, fun os2 po2 oo2 => ?_⟩
    have e2 : os2 = os := ord_eq (w := n) (mx.done hk po2).row (po2.trans po.symm) oo2 oo
    subst e2
    unfold mixD
    walk_at "gs"
    refine ⟨mo.sh n8, ?_⟩
    refine ite_no (by simp) ?_
    refine ⟨k, n, 5, os2, rfl, hk, n8, by decide, mo, fun os3 po3 oo3 => ?_⟩
    have e3 : os3 = ps := by
      refine ord_eq (w := n) (mo.done hk po3).row ?_ oo3 od
      refine po3.trans ((po.map (doneP k)).trans ?_)
      rw [List.map_map]
      refine List.Perm.of_eq ?_
      refine Eq.trans (List.map_congr_left fun p hp => done_done hk (mx.row p hp)) (List.map_id _)
    subst e3
    unfold mixD
    walk_at "gs"
    refine ⟨mx.sh n8, mx.sh n8, ?_⟩
    refine ite_no (by simp) ?_
    unfold as_law_t1
    walk_at "gs"
    refine lcMapA letD (fun _ => D.bl true) [k1, k2, k3] [] (by simp) (fun q hq P2 hP => ?_) ?_
    · unfold as_law_e1
      walk_at "gs"
      refine ⟨k, q, n, os3, rfl, hk, hks q hq, n8, mx, ?_⟩
      walk_at "gs"
      exact hP
    rw [List.nil_append]
    walk_at "gs"
    rw [show blsOf [D.bl true, .bl true, .bl true] = some [true, true, true] from rfl]
    refine ite_no (by decide) ?_
    exact hK2 _ _ ⟨fun x hx => hl x (List.mem_cons_of_mem _ hx), rfl, _, _, _, rfl⟩

open PyProof.Rows
structure Txt (K : PySem.W.Frag) (mg : Str → Option Value) : Prop where
  len : mg "len" = none
  all : mg "all" = none
  enumerate : mg "enumerate" = none
  zip : mg "zip" = none
  range : mg "range" = none
  tuple : mg "tuple" = none
  sum : mg "sum" = none
  sorted : mg "sorted" = none
  abs : mg "abs" = none
  int : mg "int" = none
  min : mg "min" = none
  repr : mg "repr" = none
  g_NOUGHT : Glob K mg "NOUGHT" (.tup [.int 0, .int 0, .int 0, .int 0, .int 0])
  g_SIGNS : Glob K mg "SIGNS" (.tup [.str "iz", .str "xy"])
  o_Keeper : ClsP K "Keeper" ["minus", "nots", "signs"]
section
variable {P : Program} {w : World} {K : PySem.W.Frag} {mg : Str → Option Value} {base : Heap}
theorem sc_can_be_less : FnScope N_can_be_less ["a", "b", "c", "d"] (defScope s_can_be_less) := ⟨rfl, rfl, rfl, by decide +kernel, rfl, by decide +kernel, by decide +kernel⟩
theorem walk_can_be_less (T : Txt K mg) {f : Addr} {cd : Value} {A : Around} {outer : List Env} {s : Shared} {H : Hp} {E : XK} {ρ : Ent} (hr : Room 0 (A.deeper (envOfC "can_be_less" (defScope s_can_be_less) s.heap.objs.size f cd))) (gd : A.guards = some []) :
    ∃ ts, QSs (cxOf CX0 P w K mg base N_can_be_less "can_be_less" (defScope s_can_be_less) f cd A outer s H E).nox ρ (defBody s_can_be_less) ts as_can_be_less := ⟨_, (qss_one (qs_ret (q_and (q_cmp (c_eq hr.units) (q_mod (q_add (qv 0) (qv 2)) q_int) q_int) (q_one (q_cmp (c_eq hr.units) (q_mod (q_add (qv 1) (qv 3)) q_int) q_int)))))⟩
theorem sc_lowest : FnScope N_lowest ["a", "b", "c", "d", "k"] (defScope s_lowest) := ⟨rfl, rfl, rfl, by decide +kernel, rfl, by decide +kernel, by decide +kernel⟩
theorem walk_lowest (T : Txt K mg) (c_can_be_less : Cal P w K mg base "can_be_less" ["a", "b", "c", "d"] 1 S_can_be_less) {f : Addr} {cd : Value} {A : Around} {outer : List Env} {s : Shared} {H : Hp} {E : XK} {ρ : Ent} (hr : Room 1 (A.deeper (envOfC "lowest" (defScope s_lowest) s.heap.objs.size f cd))) (gd : A.guards = some []) :
    ∃ ts, QSs (cxOf CX0 P w K mg base N_lowest "lowest" (defScope s_lowest) f cd A outer s H E).nox ρ (defBody s_lowest) ts as_lowest := ⟨_, (qss_cons (qs_if (qt_chainN (qv 0) (ql_link (c_eq hr.units) (qv 1) (ql_link (c_eq hr.units) (qv 2) (ql_link (c_eq hr.units) (qv 3) (ql_last (c_eq hr.units) q_int))))) (qss_one (qs_ret (q_glob T.g_NOUGHT))) qss_nil)
    (qss_cons (qs_while (QW.qt (qw_and (qt_cmp c_gt (qv 4) q_int) (qw_and1 (qt_val (q_callC c_can_be_less (hr.mono (by decide)) gd (qa_cons (qv 0) (qa_cons (qv 1) (qa_cons (qv 2) (qa_cons (qv 3) qa_nil))))))))) (qss_cons (qs_unp (q_tup (qa_cons (q_div (q_sub (qv 1) (qv 3)) q_int) (qa_cons (q_div (q_add (qv 0) (qv 2)) q_int) (qa_cons (q_div (q_add (qv 1) (qv 3)) q_int) (qa_cons (q_div (q_sub (qv 2) (qv 0)) q_int) qa_nil))))) (qg_tup (qgs_cons (qg_name 0 sc_lowest.nd) (qgs_cons (qg_name 1 sc_lowest.nd) (qgs_cons (qg_name 2 sc_lowest.nd) (qgs_cons (qg_name 3 sc_lowest.nd) qgs_nil))))))
    (qss_one (qs_augS 4 sc_lowest.nd q_int))))
    (qss_one (qs_ret (q_tup (qa_cons (qv 0) (qa_cons (qv 1) (qa_cons (qv 2) (qa_cons (qv 3) (qa_cons (qv 4) qa_nil))))))))))⟩
theorem sc_times : FnScope N_times ["one", "other"] (defScope s_times) := ⟨rfl, rfl, rfl, by decide +kernel, rfl, by decide +kernel, by decide +kernel⟩
theorem walk_times (T : Txt K mg) (c_lowest : Cal P w K mg base "lowest" ["a", "b", "c", "d", "k"] 2 S_lowest) {f : Addr} {cd : Value} {A : Around} {outer : List Env} {s : Shared} {H : Hp} {E : XK} {ρ : Ent} (hr : Room 2 (A.deeper (envOfC "times" (defScope s_times) s.heap.objs.size f cd))) (gd : A.guards = some []) :
    ∃ ts, QSs (cxOf CX0 P w K mg base N_times "times" (defScope s_times) f cd A outer s H E).nox ρ (defBody s_times) ts as_times := ⟨_, (qss_cons (qs_unp (qv 0) (qg_tup (qgs_cons (qg_name 2 sc_times.nd) (qgs_cons (qg_name 3 sc_times.nd) (qgs_cons (qg_name 4 sc_times.nd) (qgs_cons (qg_name 5 sc_times.nd) (qgs_cons (qg_name 6 sc_times.nd) qgs_nil)))))))
    (qss_cons (qs_unp (qv 1) (qg_tup (qgs_cons (qg_name 7 sc_times.nd) (qgs_cons (qg_name 8 sc_times.nd) (qgs_cons (qg_name 9 sc_times.nd) (qgs_cons (qg_name 10 sc_times.nd) (qgs_cons (qg_name 11 sc_times.nd) qgs_nil)))))))
    (qss_one (qs_ret (q_callC c_lowest (hr.mono (by decide)) gd (qa_cons (q_sub (q_sub (q_sub (q_mul (qv 2) (qv 7)) (q_mul (qv 3) (qv 10))) (q_mul (qv 4) (qv 9))) (q_mul (qv 5) (qv 8))) (qa_cons (q_sub (q_sub (q_add (q_mul (qv 2) (qv 8)) (q_mul (qv 3) (qv 7))) (q_mul (qv 4) (qv 10))) (q_mul (qv 5) (qv 9))) (qa_cons (q_sub (q_add (q_add (q_mul (qv 2) (qv 9)) (q_mul (qv 3) (qv 8))) (q_mul (qv 4) (qv 7))) (q_mul (qv 5) (qv 10))) (qa_cons (q_add (q_add (q_add (q_mul (qv 2) (qv 10)) (q_mul (qv 3) (qv 9))) (q_mul (qv 4) (qv 8))) (q_mul (qv 5) (qv 7))) (qa_cons (q_add (qv 6) (qv 11)) qa_nil))))))))))⟩
theorem sc_root : FnScope N_root ["j"] (defScope s_root) := ⟨rfl, rfl, rfl, by decide +kernel, rfl, by decide +kernel, by decide +kernel⟩
theorem walk_root (T : Txt K mg) {f : Addr} {cd : Value} {A : Around} {outer : List Env} {s : Shared} {H : Hp} {E : XK} {ρ : Ent} (hr : Room 0 (A.deeper (envOfC "root" (defScope s_root) s.heap.objs.size f cd))) (gd : A.guards = some []) :
    ∃ ts, QSs (cxOf CX0 P w K mg base N_root "root" (defScope s_root) f cd A outer s H E).nox ρ (defBody s_root) ts as_root := ⟨_, (qss_cons (qs_set 1 sc_root.nd (q_lst (qa_cons q_int (qa_cons q_int (qa_cons q_int (qa_cons q_int qa_nil))))))
    (qss_cons (qs_setI (q_ifExp (qt_cmp c_lt (q_mod (qv 0) q_int) q_int) q_int (q_neg q_int)) (qv 1) (q_mod (qv 0) q_int))
    (qss_one (qs_ret (q_tup (qa_cons (q_ixS (qv 1) q_int) (qa_cons (q_ixS (qv 1) q_int) (qa_cons (q_ixS (qv 1) q_int) (qa_cons (q_ixS (qv 1) q_int) (qa_cons q_int qa_nil))))))))))⟩
theorem sc_is_short_gate : FnScope N_is_short_gate ["gate"] (defScope s_is_short_gate) := ⟨rfl, rfl, rfl, by decide +kernel, rfl, by decide +kernel, by decide +kernel⟩
theorem walk_is_short_gate (T : Txt K mg) {f : Addr} {cd : Value} {A : Around} {outer : List Env} {s : Shared} {H : Hp} {E : XK} {ρ : Ent} (hr : Room 0 (A.deeper (envOfC "is_short_gate" (defScope s_is_short_gate) s.heap.objs.size f cd))) (gd : A.guards = some []) :
    ∃ ts, QSs (cxOf CX0 P w K mg base N_is_short_gate "is_short_gate" (defScope s_is_short_gate) f cd A outer s H E).nox ρ (defBody s_is_short_gate) ts as_is_short_gate := ⟨_, (qss_cons (qs_unp (qv 0) (qg_tup (qgs_cons (qg_name 1 sc_is_short_gate.nd) (qgs_cons (qg_name 2 sc_is_short_gate.nd) (qgs_cons (qg_name 3 sc_is_short_gate.nd) (qgs_cons (qg_name 4 sc_is_short_gate.nd) qgs_nil))))))
    (qss_cons (qs_if (qt_cmp c_eqS (qv 1) q_str) (qss_one (qs_ret (q_and (q_cmp (c_eq hr.units) (q_mod (qv 2) q_int) q_int) (q_one (q_cmp (c_eq0 hr.units) (qv 3) (q_tup qa_nil)))))) qss_nil)
    (qss_cons (qs_if (qt_cmp c_eqS (qv 1) q_str) (qss_one (qs_ret (q_cmp (c_eq0 hr.units) (qv 3) (q_tup qa_nil)))) qss_nil)
    (qss_one (qs_ret (q_cmp c_le (q_len T.len (qv 3)) q_int))))))⟩
theorem sc_is_short : FnScope N_is_short ["circuit"] (defScope s_is_short) := ⟨rfl, rfl, rfl, by decide +kernel, rfl, by decide +kernel, by decide +kernel⟩
theorem walk_is_short (T : Txt K mg) (c_is_short_gate : Cal P w K mg base "is_short_gate" ["gate"] 1 S_is_short_gate) {f : Addr} {cd : Value} {A : Around} {outer : List Env} {s : Shared} {H : Hp} {E : XK} {ρ : Ent} (hr : Room 1 (A.deeper (envOfC "is_short" (defScope s_is_short) s.heap.objs.size f cd))) (gd : A.guards = some []) :
    ∃ ts, QSs (cxOf CX0 P w K mg base N_is_short "is_short" (defScope s_is_short) f cd A outer s H E).nox ρ (defBody s_is_short) ts as_is_short := ⟨_, (qss_cons (qs_unp (qv 0) (qg_tup (qgs_cons (qg_name 1 sc_is_short.nd) (qgs_cons (qg_name 2 sc_is_short.nd) qgs_nil))))
    (qss_one (qs_ret (q_all T.all (q_comp (own := [("gate", 3)]) sc_is_short.nd (qi_tup (qv 2)) (blkOk_by (own := [("gate", 3)]) (N := N_is_short) (sc := defScope s_is_short) (by decide +kernel)) (fun _ _ _ _ _ => (qg_name 3 sc_is_short.nd)) (fun _ _ _ _ _ => qts_nil) (fun _ _ _ _ _ => (q_callC c_is_short_gate (hr.mono (by decide)) gd (qa_cons (qv 3) qa_nil))) s)))))⟩
theorem sc_Keeper___init__ : FnScope N_Keeper___init__ ["self", "many", "wire", "minus"] (defScope s_Keeper___init__) := ⟨rfl, rfl, rfl, by decide +kernel, rfl, by decide +kernel, by decide +kernel⟩
theorem walk_Keeper___init__ (T : Txt K mg) {f : Addr} {cd : Value} {A : Around} {outer : List Env} {s : Shared} {H : Hp} {E : XK} {ρ : Ent} (hr : Room 0 (A.deeper (envOfC "Keeper.__init__" (defScope s_Keeper___init__) s.heap.objs.size f cd))) (gd : A.guards = some []) :
    ∃ ts, QSs (cxOf CX0 P w K mg base N_Keeper___init__ "Keeper.__init__" (defScope s_Keeper___init__) f cd A outer s H E).nox ρ (defBody s_Keeper___init__) ts as_Keeper___init__ := ⟨_, (qss_cons (qs_fld T.o_Keeper (qv 3) (qv 0))
    (qss_cons (qs_fld T.o_Keeper (q_sh (q_rep (q_lst (qa_cons q_int qa_nil)) (qv 1))) (qv 0))
    (qss_cons (qs_fld T.o_Keeper (q_sh (q_rep (q_lst (qa_cons q_int qa_nil)) (qv 1))) (qv 0))
    (qss_one (qs_setI q_int (q_fld T.o_Keeper (qv 0)) (qv 2))))))⟩
theorem sc_Keeper_after_half : FnScope N_Keeper_after_half ["self", "wire"] (defScope s_Keeper_after_half) := ⟨rfl, rfl, rfl, by decide +kernel, rfl, by decide +kernel, by decide +kernel⟩
theorem walk_Keeper_after_half (T : Txt K mg) {f : Addr} {cd : Value} {A : Around} {outer : List Env} {s : Shared} {H : Hp} {E : XK} {ρ : Ent} (hr : Room 0 (A.deeper (envOfC "Keeper.after_half" (defScope s_Keeper_after_half) s.heap.objs.size f cd))) (gd : A.guards = some []) :
    ∃ ts, QSs (cxOf CX0 P w K mg base N_Keeper_after_half "Keeper.after_half" (defScope s_Keeper_after_half) f cd A outer s H E).nox ρ (defBody s_Keeper_after_half) ts as_Keeper_after_half := ⟨_, (qss_cons (qs_augFI in_xor T.o_Keeper (qv 0) (q_and2 (q_ixS (q_fld T.o_Keeper (qv 0)) (qv 1)) (q_ixS (q_fld T.o_Keeper (qv 0)) (qv 1))))
    (qss_one (qs_setI2 (qa_cons (q_ixS (q_fld T.o_Keeper (qv 0)) (qv 1)) (qa_cons (q_ixS (q_fld T.o_Keeper (qv 0)) (qv 1)) qa_nil)) (q_fld T.o_Keeper (qv 0)) (qv 1) (q_fld T.o_Keeper (qv 0)) (qv 1))))⟩
theorem sc_Keeper_after_turn : FnScope N_Keeper_after_turn ["self", "j", "wire"] (defScope s_Keeper_after_turn) := ⟨rfl, rfl, rfl, by decide +kernel, rfl, by decide +kernel, by decide +kernel⟩
theorem walk_Keeper_after_turn (T : Txt K mg) {f : Addr} {cd : Value} {A : Around} {outer : List Env} {s : Shared} {H : Hp} {E : XK} {ρ : Ent} (hr : Room 0 (A.deeper (envOfC "Keeper.after_turn" (defScope s_Keeper_after_turn) s.heap.objs.size f cd))) (gd : A.guards = some []) :
    ∃ ts, QSs (cxOf CX0 P w K mg base N_Keeper_after_turn "Keeper.after_turn" (defScope s_Keeper_after_turn) f cd A outer s H E).nox ρ (defBody s_Keeper_after_turn) ts as_Keeper_after_turn := ⟨_, (qss_cons (qs_if (qt_cmp (c_eq hr.units) (qv 1) q_int) (qss_one (qs_augFI in_xor T.o_Keeper (qv 0) (q_and2 (q_ixS (q_fld T.o_Keeper (qv 0)) (qv 2)) (q_ixS (q_fld T.o_Keeper (qv 0)) (qv 2))))) (qss_one (qs_if (qt_cmp (c_eq hr.units) (qv 1) q_int) (qss_one (qs_augFI in_xor T.o_Keeper (qv 0) (q_and2 (q_ixS (q_fld T.o_Keeper (qv 0)) (qv 2)) (q_sub q_int (q_ixS (q_fld T.o_Keeper (qv 0)) (qv 2)))))) (qss_one (qs_augFI in_xor T.o_Keeper (qv 0) (q_ixS (q_fld T.o_Keeper (qv 0)) (qv 2)))))))
    (qss_one (qs_if (qt_cmp (c_ne hr.units) (qv 1) q_int) (qss_one (qs_augXI ip_xor (q_fld T.o_Keeper (qv 0)) (qv 2) (q_ixS (q_fld T.o_Keeper (qv 0)) (qv 2)))) qss_nil)))⟩
theorem sc_Keeper_after_not : FnScope N_Keeper_after_not ["self", "controls", "wire"] (defScope s_Keeper_after_not) := ⟨rfl, rfl, rfl, by decide +kernel, rfl, by decide +kernel, by decide +kernel⟩
theorem walk_Keeper_after_not (T : Txt K mg) {f : Addr} {cd : Value} {A : Around} {outer : List Env} {s : Shared} {H : Hp} {E : XK} {ρ : Ent} (hr : Room 0 (A.deeper (envOfC "Keeper.after_not" (defScope s_Keeper_after_not) s.heap.objs.size f cd))) (gd : A.guards = some []) :
    ∃ ts, QSs (cxOf CX0 P w K mg base N_Keeper_after_not "Keeper.after_not" (defScope s_Keeper_after_not) f cd A outer s H E).nox ρ (defBody s_Keeper_after_not) ts as_Keeper_after_not := ⟨_, (qss_cons (qs_if (qt_cmp (c_eq0 hr.units) (qv 1) (q_tup qa_nil)) (qss_cons (qs_augFI in_xor T.o_Keeper (qv 0) (q_ixS (q_fld T.o_Keeper (qv 0)) (qv 2)))
    (qss_one qs_retN)) qss_nil)
    (qss_cons (qs_setF 3 sc_Keeper_after_not.nd (q_ixS (qv 1) q_int))
    (qss_cons (qs_augFI in_xor T.o_Keeper (qv 0) (q_and2 (q_and2 (q_ixS (q_fld T.o_Keeper (qv 0)) (qv 3)) (q_ixS (q_fld T.o_Keeper (qv 0)) (qv 2))) (q_sub q_int (q_xor2 (q_ixS (q_fld T.o_Keeper (qv 0)) (qv 2)) (q_ixS (q_fld T.o_Keeper (qv 0)) (qv 3))))))
    (qss_cons (qs_augXI ip_xor (q_fld T.o_Keeper (qv 0)) (qv 2) (q_ixS (q_fld T.o_Keeper (qv 0)) (qv 3)))
    (qss_one (qs_augXI ip_xor (q_fld T.o_Keeper (qv 0)) (qv 3) (q_ixS (q_fld T.o_Keeper (qv 0)) (qv 2))))))))⟩
theorem sc_Keeper_after_cross : FnScope N_Keeper_after_cross ["self", "other", "wire"] (defScope s_Keeper_after_cross) := ⟨rfl, rfl, rfl, by decide +kernel, rfl, by decide +kernel, by decide +kernel⟩
theorem walk_Keeper_after_cross (T : Txt K mg) {f : Addr} {cd : Value} {A : Around} {outer : List Env} {s : Shared} {H : Hp} {E : XK} {ρ : Ent} (hr : Room 0 (A.deeper (envOfC "Keeper.after_cross" (defScope s_Keeper_after_cross) s.heap.objs.size f cd))) (gd : A.guards = some []) :
    ∃ ts, QSs (cxOf CX0 P w K mg base N_Keeper_after_cross "Keeper.after_cross" (defScope s_Keeper_after_cross) f cd A outer s H E).nox ρ (defBody s_Keeper_after_cross) ts as_Keeper_after_cross := ⟨_, (qss_one (qs_for (qi_tup (q_tup (qa_cons (q_fld T.o_Keeper (qv 0)) (qa_cons (q_fld T.o_Keeper (qv 0)) qa_nil)))) (qg_name 3 sc_Keeper_after_cross.nd) (qss_one (qs_setI2 (qa_cons (q_ixS (qv 3) (qv 2)) (qa_cons (q_ixS (qv 3) (qv 1)) qa_nil)) (qv 3) (qv 1) (qv 3) (qv 2)))))⟩
theorem sc_Keeper_after : FnScope N_Keeper_after ["self", "gate"] (defScope s_Keeper_after) := ⟨rfl, rfl, rfl, by decide +kernel, rfl, by decide +kernel, by decide +kernel⟩
theorem walk_Keeper_after (T : Txt K mg) (c_Keeper_after_half : CalM P w K mg base "Keeper" "after_half" ["self", "wire"] 1 S_Keeper_after_half) (c_Keeper_after_turn : CalM P w K mg base "Keeper" "after_turn" ["self", "j", "wire"] 1 S_Keeper_after_turn) (c_Keeper_after_not : CalM P w K mg base "Keeper" "after_not" ["self", "controls", "wire"] 1 S_Keeper_after_not) (c_Keeper_after_cross : CalM P w K mg base "Keeper" "after_cross" ["self", "other", "wire"] 1 S_Keeper_after_cross) {f : Addr} {cd : Value} {A : Around} {outer : List Env} {s : Shared} {H : Hp} {E : XK} {ρ : Ent} (hr : Room 1 (A.deeper (envOfC "Keeper.after" (defScope s_Keeper_after) s.heap.objs.size f cd))) (gd : A.guards = some []) :
    ∃ ts, QSs (cxOf CX0 P w K mg base N_Keeper_after "Keeper.after" (defScope s_Keeper_after) f cd A outer s H E).nox ρ (defBody s_Keeper_after) ts as_Keeper_after := ⟨_, (qss_cons (qs_unp (qv 1) (qg_tup (qgs_cons (qg_name 2 sc_Keeper_after.nd) (qgs_cons (qg_name 3 sc_Keeper_after.nd) (qgs_cons (qg_name 4 sc_Keeper_after.nd) (qgs_cons (qg_name 5 sc_Keeper_after.nd) qgs_nil))))))
    (qss_one (qs_if (qt_cmp c_eqS (qv 2) q_str) (qss_one (qs_expr (q_methC c_Keeper_after_half (hr.mono (by decide)) gd (qv 0) (qa_cons (qv 5) qa_nil)))) (qss_one (qs_if (qt_cmp c_eqS (qv 2) q_str) (qss_one (qs_expr (q_methC c_Keeper_after_turn (hr.mono (by decide)) gd (qv 0) (qa_cons (qv 3) (qa_cons (qv 5) qa_nil))))) (qss_one (qs_if (qt_cmp c_eqS (qv 2) q_str) (qss_one (qs_expr (q_methC c_Keeper_after_not (hr.mono (by decide)) gd (qv 0) (qa_cons (qv 4) (qa_cons (qv 5) qa_nil))))) (qss_one (qs_if (qt_cmp c_eqS (qv 2) q_str) (qss_one (qs_expr (q_methC c_Keeper_after_cross (hr.mono (by decide)) gd (qv 0) (qa_cons (q_ixS (qv 4) q_int) (qa_cons (qv 5) qa_nil))))) qss_nil)))))))))⟩
theorem sc_Keeper_quarters_with : FnScope N_Keeper_quarters_with ["self", "other"] (defScope s_Keeper_quarters_with) := ⟨rfl, rfl, rfl, by decide +kernel, rfl, by decide +kernel, by decide +kernel⟩
theorem walk_Keeper_quarters_with (T : Txt K mg) {f : Addr} {cd : Value} {A : Around} {outer : List Env} {s : Shared} {H : Hp} {E : XK} {ρ : Ent} (hr : Room 0 (A.deeper (envOfC "Keeper.quarters_with" (defScope s_Keeper_quarters_with) s.heap.objs.size f cd))) (gd : A.guards = some []) :
    ∃ ts, QSs (cxOf CX0 P w K mg base N_Keeper_quarters_with "Keeper.quarters_with" (defScope s_Keeper_quarters_with) f cd A outer s H E).nox ρ (defBody s_Keeper_quarters_with) ts as_Keeper_quarters_with := ⟨_, (qss_cons (qs_setF 2 sc_Keeper_quarters_with.nd (q_mul q_int (q_add (q_fld T.o_Keeper (qv 0)) (q_fld T.o_Keeper (qv 1)))))
    (qss_cons (qs_forN (qn_enum T.enumerate (qa_cons (q_fld T.o_Keeper (qv 0)) qa_nil)) (qg_tup (qgs_cons (qg_name 3 sc_Keeper_quarters_with.nd) (qgs_cons (qg_name 4 sc_Keeper_quarters_with.nd) qgs_nil))) (qss_cons (qs_par3 5 6 7 sc_Keeper_quarters_with.nd (qa_cons (q_ixS (q_fld T.o_Keeper (qv 0)) (qv 3)) (qa_cons (q_ixS (q_fld T.o_Keeper (qv 1)) (qv 3)) (qa_cons (q_ixS (q_fld T.o_Keeper (qv 1)) (qv 3)) qa_nil))))
    (qss_one (qs_if (QW.qt (qw_and (qt_cmp (c_eq hr.units) (qv 4) q_int) (qw_and1 (qt_cmp (c_eq hr.units) (qv 5) q_int)))) (qss_one (qs_augA 2 sc_Keeper_quarters_with.nd (q_sub (qv 7) (qv 6)))) (qss_one (qs_if (qt_cmp (c_eq hr.units) (qv 4) q_int) (qss_one (qs_augA 2 sc_Keeper_quarters_with.nd (q_mul (qv 7) (q_sub (q_mul q_int (qv 6)) q_int)))) (qss_one (qs_if (qt_cmp (c_eq hr.units) (qv 5) q_int) (qss_one (qs_augA 2 sc_Keeper_quarters_with.nd (q_mul (qv 6) (q_sub q_int (q_mul q_int (qv 7)))))) qss_nil))))))))
    (qss_one (qs_ret (qv 2)))))⟩
theorem sc_Keeper_take_in : FnScope N_Keeper_take_in ["self", "other"] (defScope s_Keeper_take_in) := ⟨rfl, rfl, rfl, by decide +kernel, rfl, by decide +kernel, by decide +kernel⟩
theorem walk_Keeper_take_in (T : Txt K mg) (c_Keeper_quarters_with : CalM P w K mg base "Keeper" "quarters_with" ["self", "other"] 1 S_Keeper_quarters_with) {f : Addr} {cd : Value} {A : Around} {outer : List Env} {s : Shared} {H : Hp} {E : XK} {ρ : Ent} (hr : Room 1 (A.deeper (envOfC "Keeper.take_in" (defScope s_Keeper_take_in) s.heap.objs.size f cd))) (gd : A.guards = some []) :
    ∃ ts, QSs (cxOf CX0 P w K mg base N_Keeper_take_in "Keeper.take_in" (defScope s_Keeper_take_in) f cd A outer s H E).nox ρ (defBody s_Keeper_take_in) ts as_Keeper_take_in := ⟨_, (qss_cons (qs_fld T.o_Keeper (q_div (q_mod (q_methC c_Keeper_quarters_with (hr.mono (by decide)) gd (qv 0) (qa_cons (qv 1) qa_nil)) q_int) q_int) (qv 0))
    (qss_cons (qs_fld T.o_Keeper (q_sh (q_compN (own := [("one", 2), ("its", 3)]) sc_Keeper_take_in.nd (qn_zip T.zip (qa_cons (q_fld T.o_Keeper (qv 0)) (qa_cons (q_fld T.o_Keeper (qv 1)) qa_nil))) (blkOk_by (own := [("one", 2), ("its", 3)]) (N := N_Keeper_take_in) (sc := defScope s_Keeper_take_in) (by decide +kernel)) (fun _ _ _ _ _ => (qg_tup (qgs_cons (qg_name 2 sc_Keeper_take_in.nd) (qgs_cons (qg_name 3 sc_Keeper_take_in.nd) qgs_nil)))) (fun _ _ _ _ _ => qts_nil) (fun _ _ _ _ _ => (q_xor2 (qv 2) (qv 3))) s)) (qv 0))
    (qss_one (qs_fld T.o_Keeper (q_sh (q_compN (own := [("one", 2), ("its", 3)]) sc_Keeper_take_in.nd (qn_zip T.zip (qa_cons (q_fld T.o_Keeper (qv 0)) (qa_cons (q_fld T.o_Keeper (qv 1)) qa_nil))) (blkOk_by (own := [("one", 2), ("its", 3)]) (N := N_Keeper_take_in) (sc := defScope s_Keeper_take_in) (by decide +kernel)) (fun _ _ _ _ _ => (qg_tup (qgs_cons (qg_name 2 sc_Keeper_take_in.nd) (qgs_cons (qg_name 3 sc_Keeper_take_in.nd) qgs_nil)))) (fun _ _ _ _ _ => qts_nil) (fun _ _ _ _ _ => (q_xor2 (qv 2) (qv 3))) s)) (qv 0)))))⟩
theorem sc_Keeper_letters : FnScope N_Keeper_letters ["self"] (defScope s_Keeper_letters) := ⟨rfl, rfl, rfl, by decide +kernel, rfl, by decide +kernel, by decide +kernel⟩
theorem walk_Keeper_letters (T : Txt K mg) {f : Addr} {cd : Value} {A : Around} {outer : List Env} {s : Shared} {H : Hp} {E : XK} {ρ : Ent} (hr : Room 0 (A.deeper (envOfC "Keeper.letters" (defScope s_Keeper_letters) s.heap.objs.size f cd))) (gd : A.guards = some []) :
    ∃ ts, QSs (cxOf CX0 P w K mg base N_Keeper_letters "Keeper.letters" (defScope s_Keeper_letters) f cd A outer s H E).nox ρ (defBody s_Keeper_letters) ts as_Keeper_letters := ⟨_, (qss_one (qs_ret (q_tup (qa_cons (q_sub q_int (q_mul q_int (q_fld T.o_Keeper (qv 0)))) (qa_cons (q_join q_str (q_compN (own := [("one", 1), ("its", 2)]) sc_Keeper_letters.nd (qn_zip T.zip (qa_cons (q_fld T.o_Keeper (qv 0)) (qa_cons (q_fld T.o_Keeper (qv 0)) qa_nil))) (blkOk_by (own := [("one", 1), ("its", 2)]) (N := N_Keeper_letters) (sc := defScope s_Keeper_letters) (by decide +kernel)) (fun _ _ _ _ _ => (qg_tup (qgs_cons (qg_name 1 sc_Keeper_letters.nd) (qgs_cons (qg_name 2 sc_Keeper_letters.nd) qgs_nil)))) (fun _ _ _ _ _ => qts_nil) (fun _ _ _ _ _ => (q_ixStr (q_ixS (q_glob T.g_SIGNS) (qv 1)) (qv 2))) s)) qa_nil)))))⟩
theorem sc_keepers_behind : FnScope N_keepers_behind ["circuit", "row"] (defScope s_keepers_behind) := ⟨rfl, rfl, rfl, by decide +kernel, rfl, by decide +kernel, by decide +kernel⟩
theorem walk_keepers_behind (T : Txt K mg) (c_Keeper___init__ : CalI P w K mg base "Keeper" ["self", "many", "wire", "minus"] 1 S_Keeper___init__) (c_Keeper_after : CalM P w K mg base "Keeper" "after" ["self", "gate"] 2 S_Keeper_after) {f : Addr} {cd : Value} {A : Around} {outer : List Env} {s : Shared} {H : Hp} {E : XK} {ρ : Ent} (hr : Room 2 (A.deeper (envOfC "keepers_behind" (defScope s_keepers_behind) s.heap.objs.size f cd))) (gd : A.guards = some []) :
    ∃ ts, QSs (cxOf CX0 P w K mg base N_keepers_behind "keepers_behind" (defScope s_keepers_behind) f cd A outer s H E).nox ρ (defBody s_keepers_behind) ts as_keepers_behind := ⟨_, (qss_cons (qs_unp (qv 0) (qg_tup (qgs_cons (qg_name 2 sc_keepers_behind.nd) (qgs_cons (qg_name 3 sc_keepers_behind.nd) qgs_nil))))
    (qss_cons (qs_setLcSh 4 (own := [("wire", 7), ("bit", 8)]) sc_keepers_behind.nd (qi_enumT T.enumerate (qa_cons (qv 1) qa_nil)) (blkOk_by (own := [("wire", 7), ("bit", 8)]) (N := N_keepers_behind) (sc := defScope s_keepers_behind) (by decide +kernel)) (fun _ _ _ _ _ => (qg_tup (qgs_cons (qg_name 7 sc_keepers_behind.nd) (qgs_cons (qg_name 8 sc_keepers_behind.nd) qgs_nil)))) (fun _ _ _ _ _ => qts_nil) (fun _ _ _ _ _ => (q_makeC c_Keeper___init__ (hr.mono (by decide)) gd (qa_cons (qv 2) (qa_cons (qv 7) (qa_cons (qv 8) qa_nil))))) s)
    (qss_cons (qs_for (qi_tup (qv 3)) (qg_name 5 sc_keepers_behind.nd) (qss_one (qs_forM (qj_seq (qv 4)) (qg_name 6 sc_keepers_behind.nd) (qss_one (qs_expr (q_methC c_Keeper_after (hr.mono (by decide)) gd (qv 6) (qa_cons (qv 5) qa_nil)))))))
    (qss_one (qs_ret (qv 4))))))⟩
theorem sc_swept : FnScope N_swept ["keepers", "begin", "columns"] (defScope s_swept) := ⟨rfl, rfl, rfl, by decide +kernel, rfl, by decide +kernel, by decide +kernel⟩
theorem walk_swept (T : Txt K mg) (c_Keeper_take_in : CalM P w K mg base "Keeper" "take_in" ["self", "other"] 2 S_Keeper_take_in) {f : Addr} {cd : Value} {A : Around} {outer : List Env} {s : Shared} {H : Hp} {E : XK} {ρ : Ent} (hr : Room 2 (A.deeper (envOfC "swept" (defScope s_swept) s.heap.objs.size f cd))) (gd : A.guards = some []) :
    ∃ ts, QSs (cxOf CX0 P w K mg base N_swept "swept" (defScope s_swept) f cd A outer s H E).nox ρ (defBody s_swept) ts as_swept := ⟨_, (qss_cons (qs_setF 3 sc_swept.nd (qv 1))
    (qss_cons (qs_for (qi_list (qv 2)) (qg_name 4 sc_swept.nd) (qss_cons (qs_setF 5 sc_swept.nd (q_compM (own := [("keeper", 10)]) sc_swept.nd (qj_seq (qv 0)) (blkOk_by (own := [("keeper", 10)]) (N := N_swept) (sc := defScope s_swept) (by decide +kernel)) (fun _ _ _ _ _ => (qg_name 10 sc_swept.nd)) (fun _ _ _ _ _ => qts_nil) (fun _ _ _ _ _ => (q_col (k := 0) T.o_Keeper (i := 4) (by rfl) (qa_cons (qv 10) qa_nil) gd (hr.mono (by decide)) (vis := by first | exact Or.inl rfl | exact Or.inr (Or.inl rfl) | exact Or.inr (Or.inr rfl)))) s))
    (qss_cons (qs_setLcF 6 (own := [("number", 9)]) sc_swept.nd (qi_range2 T.range (qa_cons (qv 3) (qa_cons (q_len T.len (qv 0)) qa_nil))) (blkOk_by (own := [("number", 9)]) (N := N_swept) (sc := defScope s_swept) (by decide +kernel)) (fun _ _ _ _ _ => (qg_name 9 sc_swept.nd)) (fun _ _ _ _ _ => (qts_one (qt_cmp (c_eq hr.units) (q_ixS (qv 5) (qv 9)) q_int))) (fun _ _ _ _ _ => (qv 9)) s)
    (qss_one (qs_if (qt_cmp (c_neL0 hr.units) (qv 6) (q_lst qa_nil)) (qss_cons (qs_setF 7 sc_swept.nd (q_ixS (qv 6) q_int))
    (qss_cons (qs_setF 8 sc_swept.nd (q_ixS (qv 0) (qv 7)))
    (qss_cons (qs_setI2 (qa_cons (q_ixS (qv 0) (qv 3)) (qa_cons (qv 8) qa_nil)) (qv 0) (qv 7) (qv 0) (qv 3))
    (qss_cons (qs_forN (qn_enum T.enumerate (qa_cons (qv 0) qa_nil)) (qg_tup (qgs_cons (qg_name 9 sc_swept.nd) (qgs_cons (qg_name 10 sc_swept.nd) qgs_nil))) (qss_one (qs_if (QW.qt (qw_and (qt_cmp (c_ne hr.units) (qv 9) (qv 3)) (qw_and1 (qt_cmp (c_eq hr.units) (q_col (k := 0) T.o_Keeper (i := 4) (by rfl) (qa_cons (qv 10) qa_nil) gd (hr.mono (by decide)) (vis := by first | exact Or.inl rfl | exact Or.inr (Or.inl rfl) | exact Or.inr (Or.inr rfl))) q_int)))) (qss_one (qs_expr (q_methC c_Keeper_take_in (hr.mono (by decide)) gd (qv 10) (qa_cons (qv 8) qa_nil)))) qss_nil)))
    (qss_one (qs_augA 3 sc_swept.nd q_int)))))) qss_nil)))))
    (qss_one (qs_ret (qv 3)))))⟩
theorem sc_put_in_order : FnScope N_put_in_order ["keepers", "many"] (defScope s_put_in_order) := ⟨rfl, rfl, rfl, by decide +kernel, rfl, by decide +kernel, by decide +kernel⟩
theorem walk_put_in_order (T : Txt K mg) (c_swept : Cal P w K mg base "swept" ["keepers", "begin", "columns"] 3 S_swept) (c_not_at : Cal P w K mg base "not_at" ["wire"] 1 S_not_at) (c_sign_at : Cal P w K mg base "sign_at" ["wire"] 1 S_sign_at) {f : Addr} {cd : Value} {A : Around} {outer : List Env} {s : Shared} {H : Hp} {E : XK} {ρ : Ent} (hr : Room 3 (A.deeper (envOfC "put_in_order" (defScope s_put_in_order) s.heap.objs.size f cd))) (gd : A.guards = some []) :
    ∃ ts, QSs (cxOf CX0 P w K mg base N_put_in_order "put_in_order" (defScope s_put_in_order) f cd A outer s H E).nox ρ (defBody s_put_in_order) ts as_put_in_order := ⟨_, (qss_cons (qs_setF 2 sc_put_in_order.nd (q_callC c_swept (hr.mono (by decide)) gd (qa_cons (qv 0) (qa_cons q_int (qa_cons (q_comp (own := [("wire", 3)]) sc_put_in_order.nd (qi_range1 T.range (qa_cons (qv 1) qa_nil)) (blkOk_by (own := [("wire", 3)]) (N := N_put_in_order) (sc := defScope s_put_in_order) (by decide +kernel)) (fun _ _ _ _ _ => (qg_name 3 sc_put_in_order.nd)) (fun _ _ _ _ _ => qts_nil) (fun _ _ _ _ _ => (q_callC c_not_at (hr.mono (by decide)) gd (qa_cons (qv 3) qa_nil))) s) qa_nil)))))
    (qss_cons (qs_expr (q_callC c_swept (hr.mono (by decide)) gd (qa_cons (qv 0) (qa_cons (qv 2) (qa_cons (q_comp (own := [("wire", 3)]) sc_put_in_order.nd (qi_range1 T.range (qa_cons (qv 1) qa_nil)) (blkOk_by (own := [("wire", 3)]) (N := N_put_in_order) (sc := defScope s_put_in_order) (by decide +kernel)) (fun _ _ _ _ _ => (qg_name 3 sc_put_in_order.nd)) (fun _ _ _ _ _ => qts_nil) (fun _ _ _ _ _ => (q_callC c_sign_at (hr.mono (by decide)) gd (qa_cons (qv 3) qa_nil))) s) qa_nil)))))
    (qss_one (qs_ret (qv 2)))))⟩
theorem sc_look_short : FnScope N_look_short ["circuit"] (defScope s_look_short) := ⟨rfl, rfl, rfl, by decide +kernel, rfl, by decide +kernel, by decide +kernel⟩
theorem walk_look_short (T : Txt K mg) (c_is_short : Cal P w K mg base "is_short" ["circuit"] 2 S_is_short) (y_NoFit : XclP K "NoFit") (ag : Agr K mg) {f : Addr} {cd : Value} {A : Around} {outer : List Env} {s : Shared} {H : Hp} {E : XK} {ρ : Ent} {xw : XW} (hr : Room 2 (A.deeper (envOfC "look_short" (defScope s_look_short) s.heap.objs.size f cd))) (gd : A.guards = some []) (cn : Conn K ρ (fun cls d _ H => E cls d H) xw) :
    ∃ ts, QSs (cxOf (L2.CX P w) P w K mg base N_look_short "look_short" (defScope s_look_short) f cd A outer s H E) ρ (defBody s_look_short) ts (as_look_short xw) := ⟨_, (qss_one (qs_if (qt_not (qt_val (q_callC c_is_short (hr.mono (by decide)) gd (qa_cons (qv 0) qa_nil)))) (qss_one (q_raiseP y_NoFit ag takes_cx cn q_str)) qss_nil))⟩
theorem sc_letters_of : FnScope N_letters_of ["circuit", "row"] (defScope s_letters_of) := ⟨rfl, rfl, rfl, by decide +kernel, rfl, by decide +kernel, by decide +kernel⟩
theorem walk_letters_of (T : Txt K mg) (c_keepers_behind : Cal P w K mg base "keepers_behind" ["circuit", "row"] 3 S_keepers_behind) (c_put_in_order : Cal P w K mg base "put_in_order" ["keepers", "many"] 4 S_put_in_order) (c_Keeper_letters : CalM P w K mg base "Keeper" "letters" ["self"] 1 S_Keeper_letters) (x_look_short : CalX P w K mg base "look_short" ["circuit"] 3 S_look_short) {f : Addr} {cd : Value} {A : Around} {outer : List Env} {s : Shared} {H : Hp} {E : XK} {ρ : Ent} {xw : XW} (hr : Room 4 (A.deeper (envOfC "letters_of" (defScope s_letters_of) s.heap.objs.size f cd))) (gd : A.guards = some []) (cn : Conn K ρ (fun cls d _ H => E cls d H) xw) :
    ∃ ts, QSs (cxOf (L2.CX P w) P w K mg base N_letters_of "letters_of" (defScope s_letters_of) f cd A outer s H E) ρ (defBody s_letters_of) ts (as_letters_of xw) := ⟨_, (qss_cons (qs_expr (q_callXC x_look_short (hr.mono (by decide)) gd takes_cx cn (qa_cons (qv 0) qa_nil)))
    (qss_cons (qs_setF 2 sc_letters_of.nd (q_callC c_keepers_behind (hr.mono (by decide)) gd (qa_cons (qv 0) (qa_cons (qv 1) qa_nil))))
    (qss_cons (qs_expr (q_callC c_put_in_order (hr.mono (by decide)) gd (qa_cons (qv 2) (qa_cons (q_ixS (qv 0) q_int) qa_nil))))
    (qss_one (qs_ret (q_tuple T.tuple (q_compM (own := [("keeper", 3)]) sc_letters_of.nd (qj_seq (qv 2)) (blkOk_by (own := [("keeper", 3)]) (N := N_letters_of) (sc := defScope s_letters_of) (by decide +kernel)) (fun _ _ _ _ _ => (qg_name 3 sc_letters_of.nd)) (fun _ _ _ _ _ => qts_nil) (fun _ _ _ _ _ => (q_methC0 c_Keeper_letters (hr.mono (by decide)) gd (qv 3) )) s)))))))⟩
theorem sc_done_to : FnScope N_done_to ["letters", "mix"] (defScope s_done_to) := ⟨rfl, rfl, rfl, by decide +kernel, rfl, by decide +kernel, by decide +kernel⟩
theorem walk_done_to (T : Txt K mg) (c_times : Cal P w K mg base "times" ["one", "other"] 3 S_times) (c_root : Cal P w K mg base "root" ["j"] 1 S_root) {f : Addr} {cd : Value} {A : Around} {outer : List Env} {s : Shared} {H : Hp} {E : XK} {ρ : Ent} (hr : Room 3 (A.deeper (envOfC "done_to" (defScope s_done_to) s.heap.objs.size f cd))) (gd : A.guards = some []) :
    ∃ ts, QSs (cxOf CX0 P w K mg base N_done_to "done_to" (defScope s_done_to) f cd A outer s H E).nox ρ (defBody s_done_to) ts as_done_to := ⟨_, (qss_cons (qs_unp (qv 0) (qg_tup (qgs_cons (qg_name 2 sc_done_to.nd) (qgs_cons (qg_name 3 sc_done_to.nd) qgs_nil))))
    (qss_cons (qs_set 4 sc_done_to.nd (q_lst qa_nil))
    (qss_cons (qs_for (qi_tup (qv 1)) (qg_tup (qgs_cons (qg_name 5 sc_done_to.nd) (qgs_cons (qg_name 6 sc_done_to.nd) qgs_nil))) (qss_cons (qs_setLcF 7 (own := [("bit", 10), ("letter", 11)]) sc_done_to.nd (qi_zipA T.zip (qa_cons (qv 5) (qa_cons (qv 3) qa_nil))) (blkOk_by (own := [("bit", 10), ("letter", 11)]) (N := N_done_to) (sc := defScope s_done_to) (by decide +kernel)) (fun _ _ _ _ _ => (qg_tup (qgs_cons (qg_name 10 sc_done_to.nd) (qgs_cons (qg_name 11 sc_done_to.nd) qgs_nil)))) (fun _ _ _ _ _ => (qts_one (qt_cmp c_inSg (qv 11) q_str))) (fun _ _ _ _ _ => (qv 10)) s)
    (qss_cons (qs_setF 8 sc_done_to.nd (q_add (q_add (q_mul q_int (q_sum T.sum (qv 7))) (q_mul q_int (q_cntS (qv 3) q_str))) (q_mul q_int (q_sub q_int (qv 2)))))
    (qss_cons (qs_setF 9 sc_done_to.nd (q_tuple T.tuple (q_comp (own := [("bit", 10), ("letter", 11)]) sc_done_to.nd (qi_zipA T.zip (qa_cons (qv 5) (qa_cons (qv 3) qa_nil))) (blkOk_by (own := [("bit", 10), ("letter", 11)]) (N := N_done_to) (sc := defScope s_done_to) (by decide +kernel)) (fun _ _ _ _ _ => (qg_tup (qgs_cons (qg_name 10 sc_done_to.nd) (qgs_cons (qg_name 11 sc_done_to.nd) qgs_nil)))) (fun _ _ _ _ _ => qts_nil) (fun _ _ _ _ _ => (q_ifExp (qt_cmp c_inSg (qv 11) q_str) (q_sub q_int (qv 10)) (qv 10))) s)))
    (qss_one (qs_expr (q_append (qv 4) (qa_cons (q_tup (qa_cons (qv 9) (qa_cons (q_callC c_times (hr.mono (by decide)) gd (qa_cons (qv 6) (qa_cons (q_callC c_root (hr.mono (by decide)) gd (qa_cons (qv 8) qa_nil)) qa_nil))) qa_nil))) qa_nil))))))))
    (qss_one (qs_ret (q_tuple T.tuple (q_sortD (hu_big hr) T.sorted (qv 4))))))))⟩
theorem sc__law_hand : FnScope N__law_hand ["_law_script", "_law_k"] (defScope s__law_hand) := ⟨rfl, rfl, rfl, by decide +kernel, rfl, by decide +kernel, by decide +kernel⟩
theorem walk__law_hand (T : Txt K mg) {f : Addr} {cd : Value} {A : Around} {outer : List Env} {s : Shared} {H : Hp} {E : XK} {ρ : Ent} (hr : Room 0 (A.deeper (envOfC "_law_hand" (defScope s__law_hand) s.heap.objs.size f cd))) (gd : A.guards = some []) :
    ∃ ts, QSs (cxOf CX0 P w K mg base N__law_hand "_law_hand" (defScope s__law_hand) f cd A outer s H E).nox ρ (defBody s__law_hand) ts as__law_hand := ⟨_, (qss_cons (qs_setF 2 sc__law_hand.nd (q_add (q_mul q_int (qv 1)) (q_len T.len (qv 0))))
    (qss_cons (qs_if (qt_cmp c_lt (qv 1) (q_len T.len (qv 0))) (qss_one (qs_setF 2 sc__law_hand.nd (q_ixS (qv 0) (qv 1)))) qss_nil)
    (qss_cons (qs_setF 3 sc__law_hand.nd (q_mul (q_mod (q_abs T.abs (qv 2)) (q_powW (q_powW q_int q_int) q_int)) (q_intB T.int (q_cmp c_ge (q_abs T.abs (qv 2)) (q_powW q_int q_int)))))
    (qss_one (qs_ret (q_sh (q_lst (qa_cons (qv 3) (qa_cons (q_mod (q_mul (q_add (q_add (q_mod (qv 2) q_int) (q_mul (q_mul q_int (qv 1)) (qv 1))) q_int) q_int) q_int) qa_nil)))))))))⟩
theorem sc__law_take : FnScope N__law_take ["_law_hand_here", "_law_many"] (defScope s__law_take) := ⟨rfl, rfl, rfl, by decide +kernel, rfl, by decide +kernel, by decide +kernel⟩
theorem walk__law_take (T : Txt K mg) {f : Addr} {cd : Value} {A : Around} {outer : List Env} {s : Shared} {H : Hp} {E : XK} {ρ : Ent} (hr : Room 0 (A.deeper (envOfC "_law_take" (defScope s__law_take) s.heap.objs.size f cd))) (gd : A.guards = some []) :
    ∃ ts, QSs (cxOf CX0 P w K mg base N__law_take "_law_take" (defScope s__law_take) f cd A outer s H E).nox ρ (defBody s__law_take) ts as__law_take := ⟨_, (qss_cons (qs_if (qt_cmp c_gt (q_ixS (qv 0) q_int) q_int) (qss_cons (qs_setF 2 sc__law_take.nd (q_mod (q_ixS (qv 0) q_int) (qv 1)))
    (qss_cons (qs_setI (q_div (q_ixS (qv 0) q_int) (qv 1)) (qv 0) q_int)
    (qss_one (qs_ret (qv 2))))) qss_nil)
    (qss_cons (qs_setI (q_mod (q_add (q_mul (q_ixS (qv 0) q_int) q_int) q_int) q_int) (qv 0) q_int)
    (qss_one (qs_ret (q_mod (q_div (q_mod (q_mul (q_div (q_ixS (qv 0) q_int) q_int) (q_add (q_mod (q_ixS (qv 0) q_int) q_int) q_int)) q_int) q_int) (qv 1))))))⟩
theorem sc__law_pick : FnScope N__law_pick ["_law_hand_here", "_law_some"] (defScope s__law_pick) := ⟨rfl, rfl, rfl, by decide +kernel, rfl, by decide +kernel, by decide +kernel⟩
theorem walk__law_pick (T : Txt K mg) (c__law_take : Cal P w K mg base "_law_take" ["_law_hand_here", "_law_many"] 1 S__law_take) {f : Addr} {cd : Value} {A : Around} {outer : List Env} {s : Shared} {H : Hp} {E : XK} {ρ : Ent} (hr : Room 1 (A.deeper (envOfC "_law_pick" (defScope s__law_pick) s.heap.objs.size f cd))) (gd : A.guards = some []) :
    ∃ ts, QSs (cxOf CX0 P w K mg base N__law_pick "_law_pick" (defScope s__law_pick) f cd A outer s H E).nox ρ (defBody s__law_pick) ts as__law_pick := ⟨_, (qss_one (qs_ret (q_ixA (qv 1) (q_callC c__law_take (hr.mono (by decide)) gd (qa_cons (qv 0) (qa_cons (q_lenA T.len (qv 1)) qa_nil))))))⟩
theorem sc__law_controls : FnScope N__law_controls ["_law_hand_here", "_law_many", "_law_wire", "_law_most"] (defScope s__law_controls) := ⟨rfl, rfl, rfl, by decide +kernel, rfl, by decide +kernel, by decide +kernel⟩
theorem walk__law_controls (T : Txt K mg) (c__law_take : Cal P w K mg base "_law_take" ["_law_hand_here", "_law_many"] 1 S__law_take) {f : Addr} {cd : Value} {A : Around} {outer : List Env} {s : Shared} {H : Hp} {E : XK} {ρ : Ent} (hr : Room 1 (A.deeper (envOfC "_law_controls" (defScope s__law_controls) s.heap.objs.size f cd))) (gd : A.guards = some []) :
    ∃ ts, QSs (cxOf CX0 P w K mg base N__law_controls "_law_controls" (defScope s__law_controls) f cd A outer s H E).nox ρ (defBody s__law_controls) ts as__law_controls := ⟨_, (qss_cons (qs_setLc 4 (own := [("_law_one", 7)]) sc__law_controls.nd (qi_range1 T.range (qa_cons (qv 1) qa_nil)) (blkOk_by (own := [("_law_one", 7)]) (N := N__law_controls) (sc := defScope s__law_controls) (by decide +kernel)) (fun _ _ _ _ _ => (qg_name 7 sc__law_controls.nd)) (fun _ _ _ _ _ => (qts_one (qt_cmp (c_ne hr.units) (qv 7) (qv 2)))) (fun _ _ _ _ _ => (qv 7)) s)
    (qss_cons (qs_set 5 sc__law_controls.nd (q_lst qa_nil))
    (qss_cons (qs_for (qi_range1 T.range (qa_cons (q_min2 T.min (qv 3) (q_len T.len (qv 4))) qa_nil)) (qg_name 6 sc__law_controls.nd) (qss_one (qs_expr (q_append (qv 5) (qa_cons (q_popAt (qv 4) (qa_cons (q_callC c__law_take (hr.mono (by decide)) gd (qa_cons (qv 0) (qa_cons (q_len T.len (qv 4)) qa_nil))) qa_nil)) qa_nil)))))
    (qss_one (qs_ret (q_tuple T.tuple (q_sortI T.sorted (qv 5))))))))⟩
theorem sc__law_short_gate : FnScope N__law_short_gate ["_law_hand_here", "_law_many"] (defScope s__law_short_gate) := ⟨rfl, rfl, rfl, by decide +kernel, rfl, by decide +kernel, by decide +kernel⟩
theorem walk__law_short_gate (T : Txt K mg) (c__law_take : Cal P w K mg base "_law_take" ["_law_hand_here", "_law_many"] 1 S__law_take) (c__law_pick : Cal P w K mg base "_law_pick" ["_law_hand_here", "_law_some"] 2 S__law_pick) (c__law_controls : Cal P w K mg base "_law_controls" ["_law_hand_here", "_law_many", "_law_wire", "_law_most"] 2 S__law_controls) {f : Addr} {cd : Value} {A : Around} {outer : List Env} {s : Shared} {H : Hp} {E : XK} {ρ : Ent} (hr : Room 2 (A.deeper (envOfC "_law_short_gate" (defScope s__law_short_gate) s.heap.objs.size f cd))) (gd : A.guards = some []) :
    ∃ ts, QSs (cxOf CX0 P w K mg base N__law_short_gate "_law_short_gate" (defScope s__law_short_gate) f cd A outer s H E).nox ρ (defBody s__law_short_gate) ts as__law_short_gate := ⟨_, (qss_cons (qs_unp (q_tup (qa_cons (q_callC c__law_take (hr.mono (by decide)) gd (qa_cons (qv 0) (qa_cons (qv 1) qa_nil))) (qa_cons (q_callC c__law_take (hr.mono (by decide)) gd (qa_cons (qv 0) (qa_cons q_int qa_nil))) qa_nil))) (qg_tup (qgs_cons (qg_name 2 sc__law_short_gate.nd) (qgs_cons (qg_name 3 sc__law_short_gate.nd) qgs_nil))))
    (qss_cons (qs_if (qt_cmp c_lt (qv 3) q_int) (qss_one (qs_ret (q_tup (qa_cons q_str (qa_cons q_int (qa_cons (q_tup qa_nil) (qa_cons (qv 2) qa_nil))))))) qss_nil)
    (qss_cons (qs_if (qt_cmp (c_eq hr.units) (qv 3) q_int) (qss_one (qs_ret (q_tup (qa_cons q_str (qa_cons (q_callC c__law_pick (hr.mono (by decide)) gd (qa_cons (qv 0) (qa_cons (q_lst (qa_cons q_int (qa_cons q_int (qa_cons q_int qa_nil)))) qa_nil))) (qa_cons (q_tup qa_nil) (qa_cons (qv 2) qa_nil))))))) qss_nil)
    (qss_cons (qs_if (QW.qt (qw_and (qt_cmp (c_eq hr.units) (qv 3) q_int) (qw_and1 (qt_cmp c_gt (qv 1) q_int)))) (qss_cons (qs_setF 4 sc__law_short_gate.nd (q_sortI T.sorted (q_lst (qa_cons (qv 2) (qa_cons (q_callC c__law_pick (hr.mono (by decide)) gd (qa_cons (qv 0) (qa_cons (q_comp (own := [("_law_one", 5)]) sc__law_short_gate.nd (qi_range1 T.range (qa_cons (qv 1) qa_nil)) (blkOk_by (own := [("_law_one", 5)]) (N := N__law_short_gate) (sc := defScope s__law_short_gate) (by decide +kernel)) (fun _ _ _ _ _ => (qg_name 5 sc__law_short_gate.nd)) (fun _ _ _ _ _ => (qts_one (qt_cmp (c_ne hr.units) (qv 5) (qv 2)))) (fun _ _ _ _ _ => (qv 5)) s) qa_nil))) qa_nil)))))
    (qss_one (qs_ret (q_tup (qa_cons q_str (qa_cons q_int (qa_cons (q_tup (qa_cons (q_ixS (qv 4) q_int) qa_nil)) (qa_cons (q_ixS (qv 4) q_int) qa_nil)))))))) qss_nil)
    (qss_cons (qs_if (qt_cmp (c_eq hr.units) (qv 3) q_int) (qss_one (qs_ret (q_tup (qa_cons q_str (qa_cons (q_add q_int (q_callC c__law_take (hr.mono (by decide)) gd (qa_cons (qv 0) (qa_cons q_int qa_nil)))) (qa_cons (q_tup qa_nil) (qa_cons (q_neg q_int) qa_nil))))))) qss_nil)
    (qss_one (qs_ret (q_tup (qa_cons q_str (qa_cons q_int (qa_cons (q_callC c__law_controls (hr.mono (by decide)) gd (qa_cons (qv 0) (qa_cons (qv 1) (qa_cons (qv 2) (qa_cons (q_intB T.int (q_cmp c_gt (qv 3) q_int)) qa_nil))))) (qa_cons (qv 2) qa_nil))))))))))))⟩
theorem sc__law_short : FnScope N__law_short ["_law_hand_here", "_law_many", "_law_size"] (defScope s__law_short) := ⟨rfl, rfl, rfl, by decide +kernel, rfl, by decide +kernel, by decide +kernel⟩
theorem walk__law_short (T : Txt K mg) (c__law_short_gate : Cal P w K mg base "_law_short_gate" ["_law_hand_here", "_law_many"] 3 S__law_short_gate) {f : Addr} {cd : Value} {A : Around} {outer : List Env} {s : Shared} {H : Hp} {E : XK} {ρ : Ent} (hr : Room 3 (A.deeper (envOfC "_law_short" (defScope s__law_short) s.heap.objs.size f cd))) (gd : A.guards = some []) :
    ∃ ts, QSs (cxOf CX0 P w K mg base N__law_short "_law_short" (defScope s__law_short) f cd A outer s H E).nox ρ (defBody s__law_short) ts as__law_short := ⟨_, (qss_one (qs_ret (q_tup (qa_cons (qv 1) (qa_cons (q_tuple T.tuple (q_comp (own := [("_law_turn", 3)]) sc__law_short.nd (qi_range1 T.range (qa_cons (qv 2) qa_nil)) (blkOk_by (own := [("_law_turn", 3)]) (N := N__law_short) (sc := defScope s__law_short) (by decide +kernel)) (fun _ _ _ _ _ => (qg_name 3 sc__law_short.nd)) (fun _ _ _ _ _ => qts_nil) (fun _ _ _ _ _ => (q_callC c__law_short_gate (hr.mono (by decide)) gd (qa_cons (qv 0) (qa_cons (qv 1) qa_nil)))) s)) qa_nil)))))⟩
theorem sc__law_bits : FnScope N__law_bits ["_law_hand_here", "_law_many"] (defScope s__law_bits) := ⟨rfl, rfl, rfl, by decide +kernel, rfl, by decide +kernel, by decide +kernel⟩
theorem walk__law_bits (T : Txt K mg) (c__law_take : Cal P w K mg base "_law_take" ["_law_hand_here", "_law_many"] 1 S__law_take) {f : Addr} {cd : Value} {A : Around} {outer : List Env} {s : Shared} {H : Hp} {E : XK} {ρ : Ent} (hr : Room 1 (A.deeper (envOfC "_law_bits" (defScope s__law_bits) s.heap.objs.size f cd))) (gd : A.guards = some []) :
    ∃ ts, QSs (cxOf CX0 P w K mg base N__law_bits "_law_bits" (defScope s__law_bits) f cd A outer s H E).nox ρ (defBody s__law_bits) ts as__law_bits := ⟨_, (qss_one (qs_ret (q_tuple T.tuple (q_comp (own := [("_law_wire", 2)]) sc__law_bits.nd (qi_range1 T.range (qa_cons (qv 1) qa_nil)) (blkOk_by (own := [("_law_wire", 2)]) (N := N__law_bits) (sc := defScope s__law_bits) (by decide +kernel)) (fun _ _ _ _ _ => (qg_name 2 sc__law_bits.nd)) (fun _ _ _ _ _ => qts_nil) (fun _ _ _ _ _ => (q_callC c__law_take (hr.mono (by decide)) gd (qa_cons (qv 0) (qa_cons q_int qa_nil)))) s))))⟩
theorem sc__law_by_root : FnScope N__law_by_root ["_law_number"] (defScope s__law_by_root) := ⟨rfl, rfl, rfl, by decide +kernel, rfl, by decide +kernel, by decide +kernel⟩
theorem walk__law_by_root (T : Txt K mg) {f : Addr} {cd : Value} {A : Around} {outer : List Env} {s : Shared} {H : Hp} {E : XK} {ρ : Ent} (hr : Room 0 (A.deeper (envOfC "_law_by_root" (defScope s__law_by_root) s.heap.objs.size f cd))) (gd : A.guards = some []) :
    ∃ ts, QSs (cxOf CX0 P w K mg base N__law_by_root "_law_by_root" (defScope s__law_by_root) f cd A outer s H E).nox ρ (defBody s__law_by_root) ts as__law_by_root := ⟨_, (qss_cons (qs_unp (qv 0) (qg_tup (qgs_cons (qg_name 1 sc__law_by_root.nd) (qgs_cons (qg_name 2 sc__law_by_root.nd) (qgs_cons (qg_name 3 sc__law_by_root.nd) (qgs_cons (qg_name 4 sc__law_by_root.nd) (qgs_cons (qg_name 5 sc__law_by_root.nd) qgs_nil)))))))
    (qss_one (qs_ret (q_tup (qa_cons (q_sub q_int (qv 4)) (qa_cons (qv 1) (qa_cons (qv 2) (qa_cons (qv 3) (qa_cons (qv 5) qa_nil)))))))))⟩
theorem sc__law_done : FnScope N__law_done ["_law_letters_here", "_law_mix_here"] (defScope s__law_done) := ⟨rfl, rfl, rfl, by decide +kernel, rfl, by decide +kernel, by decide +kernel⟩
theorem walk__law_done (T : Txt K mg) (c__law_by_root : Cal P w K mg base "_law_by_root" ["_law_number"] 1 S__law_by_root) {f : Addr} {cd : Value} {A : Around} {outer : List Env} {s : Shared} {H : Hp} {E : XK} {ρ : Ent} (hr : Room 1 (A.deeper (envOfC "_law_done" (defScope s__law_done) s.heap.objs.size f cd))) (gd : A.guards = some []) :
    ∃ ts, QSs (cxOf CX0 P w K mg base N__law_done "_law_done" (defScope s__law_done) f cd A outer s H E).nox ρ (defBody s__law_done) ts as__law_done := ⟨_, (qss_cons (qs_set 2 sc__law_done.nd q_tnew)
    (qss_cons (qs_for (qi_tup (qv 1)) (qg_tup (qgs_cons (qg_name 3 sc__law_done.nd) (qgs_cons (qg_name 4 sc__law_done.nd) qgs_nil))) (qss_cons (qs_setF 5 sc__law_done.nd (q_mul q_int (q_intB T.int (q_cmp (c_eq hr.units) (q_ixS (qv 0) q_int) (q_neg q_int)))))
    (qss_cons (qs_set 6 sc__law_done.nd (q_lst qa_nil))
    (qss_cons (qs_for (qi_zipA T.zip (qa_cons (qv 3) (qa_cons (q_ixS (qv 0) q_int) qa_nil))) (qg_tup (qgs_cons (qg_name 8 sc__law_done.nd) (qgs_cons (qg_name 9 sc__law_done.nd) qgs_nil))) (qss_cons (qs_setF 5 sc__law_done.nd (q_add (qv 5) (q_dget hr.units (q_disp (qp_cons q_str q_int (qp_cons q_str q_int (qp_cons q_str (q_mul q_int (qv 8)) (qp_cons q_str (q_add (q_mul q_int (qv 8)) q_int) qp_nil))))) (qv 9))))
    (qss_one (qs_expr (q_append (qv 6) (qa_cons (q_ifExp (qt_cmp c_inSg (qv 9) q_str) (q_sub q_int (qv 8)) (qv 8)) qa_nil))))))
    (qss_cons (qs_for (qi_range1 T.range (qa_cons (q_mod (qv 5) q_int) qa_nil)) (qg_name 7 sc__law_done.nd) (qss_one (qs_setF 4 sc__law_done.nd (q_callC c__law_by_root (hr.mono (by decide)) gd (qa_cons (qv 4) qa_nil)))))
    (qss_one (qs_tput hr.units (qv 4) (qv 2) (q_tuple T.tuple (qv 6)))))))))
    (qss_one (qs_ret (q_tuple T.tuple (q_sortIt (hu_big hr) T.sorted (qv 2)))))))⟩
theorem sc__law_letters : FnScope N__law_letters ["_law_hand_here", "_law_many"] (defScope s__law_letters) := ⟨rfl, rfl, rfl, by decide +kernel, rfl, by decide +kernel, by decide +kernel⟩
theorem walk__law_letters (T : Txt K mg) (c__law_pick : Cal P w K mg base "_law_pick" ["_law_hand_here", "_law_some"] 2 S__law_pick) {f : Addr} {cd : Value} {A : Around} {outer : List Env} {s : Shared} {H : Hp} {E : XK} {ρ : Ent} (hr : Room 2 (A.deeper (envOfC "_law_letters" (defScope s__law_letters) s.heap.objs.size f cd))) (gd : A.guards = some []) :
    ∃ ts, QSs (cxOf CX0 P w K mg base N__law_letters "_law_letters" (defScope s__law_letters) f cd A outer s H E).nox ρ (defBody s__law_letters) ts as__law_letters := ⟨_, (qss_cons (qs_setF 2 sc__law_letters.nd (q_join q_str (q_comp (own := [("_law_wire", 3)]) sc__law_letters.nd (qi_range1 T.range (qa_cons (qv 1) qa_nil)) (blkOk_by (own := [("_law_wire", 3)]) (N := N__law_letters) (sc := defScope s__law_letters) (by decide +kernel)) (fun _ _ _ _ _ => (qg_name 3 sc__law_letters.nd)) (fun _ _ _ _ _ => qts_nil) (fun _ _ _ _ _ => (q_callC c__law_pick (hr.mono (by decide)) gd (qa_cons (qv 0) (qa_cons q_str qa_nil)))) s)))
    (qss_one (qs_ret (q_tup (qa_cons (q_callC c__law_pick (hr.mono (by decide)) gd (qa_cons (qv 0) (qa_cons (q_lst (qa_cons q_int (qa_cons (q_neg q_int) qa_nil))) qa_nil))) (qa_cons (qv 2) qa_nil))))))⟩
theorem sc__law_mix : FnScope N__law_mix ["_law_hand_here", "_law_many"] (defScope s__law_mix) := ⟨rfl, rfl, rfl, by decide +kernel, rfl, by decide +kernel, by decide +kernel⟩
theorem walk__law_mix (T : Txt K mg) (c__law_take : Cal P w K mg base "_law_take" ["_law_hand_here", "_law_many"] 1 S__law_take) (c_lowest : Cal P w K mg base "lowest" ["a", "b", "c", "d", "k"] 2 S_lowest) (c__law_bits : Cal P w K mg base "_law_bits" ["_law_hand_here", "_law_many"] 2 S__law_bits) {f : Addr} {cd : Value} {A : Around} {outer : List Env} {s : Shared} {H : Hp} {E : XK} {ρ : Ent} (hr : Room 2 (A.deeper (envOfC "_law_mix" (defScope s__law_mix) s.heap.objs.size f cd))) (gd : A.guards = some []) :
    ∃ ts, QSs (cxOf CX0 P w K mg base N__law_mix "_law_mix" (defScope s__law_mix) f cd A outer s H E).nox ρ (defBody s__law_mix) ts as__law_mix := ⟨_, (qss_cons (qs_parO1 2 3 sc__law_mix.nd q_tnew (q_add q_int (q_callC c__law_take (hr.mono (by decide)) gd (qa_cons (qv 0) (qa_cons q_int qa_nil)))))
    (qss_cons (qs_for (qi_range1 T.range (qa_cons (q_ixS (q_lst (qa_cons q_int (qa_cons q_int (qa_cons q_int (qa_cons (q_mul q_int (qv 1)) qa_nil))))) (q_callC c__law_take (hr.mono (by decide)) gd (qa_cons (qv 0) (qa_cons q_int qa_nil)))) qa_nil)) (qg_name 4 sc__law_mix.nd) (qss_cons (qs_setLcF 5 (own := [("_law_part", 7)]) sc__law_mix.nd (qi_range1 T.range (qa_cons q_int qa_nil)) (blkOk_by (own := [("_law_part", 7)]) (N := N__law_mix) (sc := defScope s__law_mix) (by decide +kernel)) (fun _ _ _ _ _ => (qg_name 7 sc__law_mix.nd)) (fun _ _ _ _ _ => qts_nil) (fun _ _ _ _ _ => (q_sub (q_callC c__law_take (hr.mono (by decide)) gd (qa_cons (qv 0) (qa_cons q_int qa_nil))) q_int)) s)
    (qss_cons (qs_setF 6 sc__law_mix.nd (q_callC c_lowest (hr.mono (by decide)) gd (qa_cons (q_ixS (qv 5) q_int) (qa_cons (q_ixS (qv 5) q_int) (qa_cons (q_ixS (qv 5) q_int) (qa_cons (q_ixS (qv 5) q_int) (qa_cons (q_callC c__law_take (hr.mono (by decide)) gd (qa_cons (qv 0) (qa_cons (q_add (qv 3) q_int) qa_nil))) qa_nil)))))))
    (qss_one (qs_if (qt_cmp (c_ne hr.units) (qv 6) (q_tup (qa_cons q_int (qa_cons q_int (qa_cons q_int (qa_cons q_int (qa_cons q_int qa_nil))))))) (qss_one (qs_tput hr.units (qv 6) (qv 2) (q_callC c__law_bits (hr.mono (by decide)) gd (qa_cons (qv 0) (qa_cons (qv 1) qa_nil))))) qss_nil)))))
    (qss_one (qs_ret (q_tuple T.tuple (q_sortIt (hu_big hr) T.sorted (qv 2)))))))⟩
theorem sc__law_opposite : FnScope N__law_opposite ["_law_mix_here"] (defScope s__law_opposite) := ⟨rfl, rfl, rfl, by decide +kernel, rfl, by decide +kernel, by decide +kernel⟩
theorem walk__law_opposite (T : Txt K mg) {f : Addr} {cd : Value} {A : Around} {outer : List Env} {s : Shared} {H : Hp} {E : XK} {ρ : Ent} (hr : Room 0 (A.deeper (envOfC "_law_opposite" (defScope s__law_opposite) s.heap.objs.size f cd))) (gd : A.guards = some []) :
    ∃ ts, QSs (cxOf CX0 P w K mg base N__law_opposite "_law_opposite" (defScope s__law_opposite) f cd A outer s H E).nox ρ (defBody s__law_opposite) ts as__law_opposite := ⟨_, (qss_cons (qs_set 1 sc__law_opposite.nd (q_lst qa_nil))
    (qss_cons (qs_for (qi_tup (qv 0)) (qg_tup (qgs_cons (qg_name 2 sc__law_opposite.nd) (qgs_cons (qg_tup (qgs_cons (qg_name 3 sc__law_opposite.nd) (qgs_cons (qg_name 4 sc__law_opposite.nd) (qgs_cons (qg_name 5 sc__law_opposite.nd) (qgs_cons (qg_name 6 sc__law_opposite.nd) (qgs_cons (qg_name 7 sc__law_opposite.nd) qgs_nil)))))) qgs_nil))) (qss_one (qs_expr (q_append (qv 1) (qa_cons (q_tup (qa_cons (qv 2) (qa_cons (q_tup (qa_cons (q_sub q_int (qv 3)) (qa_cons (q_sub q_int (qv 4)) (qa_cons (q_sub q_int (qv 5)) (qa_cons (q_sub q_int (qv 6)) (qa_cons (qv 7) qa_nil)))))) qa_nil))) qa_nil)))))
    (qss_one (qs_ret (q_tuple T.tuple (qv 1))))))⟩
theorem sc__law_two_right : FnScope N__law_two_right ["_law_one", "_law_other", "_law_mix_here"] (defScope s__law_two_right) := ⟨rfl, rfl, rfl, by decide +kernel, rfl, by decide +kernel, by decide +kernel⟩
theorem walk__law_two_right (T : Txt K mg) (c_done_to : Cal P w K mg base "done_to" ["letters", "mix"] 4 S_done_to) (c__law_opposite : Cal P w K mg base "_law_opposite" ["_law_mix_here"] 1 S__law_opposite) {f : Addr} {cd : Value} {A : Around} {outer : List Env} {s : Shared} {H : Hp} {E : XK} {ρ : Ent} (hr : Room 4 (A.deeper (envOfC "_law_two_right" (defScope s__law_two_right) s.heap.objs.size f cd))) (gd : A.guards = some []) :
    ∃ ts, QSs (cxOf CX0 P w K mg base N__law_two_right "_law_two_right" (defScope s__law_two_right) f cd A outer s H E).nox ρ (defBody s__law_two_right) ts as__law_two_right := ⟨_, (qss_cons (qs_par 3 4 sc__law_two_right.nd (qa_cons (q_callC c_done_to (hr.mono (by decide)) gd (qa_cons (qv 0) (qa_cons (q_callC c_done_to (hr.mono (by decide)) gd (qa_cons (qv 1) (qa_cons (qv 2) qa_nil))) qa_nil))) (qa_cons (q_callC c_done_to (hr.mono (by decide)) gd (qa_cons (qv 1) (qa_cons (q_callC c_done_to (hr.mono (by decide)) gd (qa_cons (qv 0) (qa_cons (qv 2) qa_nil))) qa_nil))) qa_nil)))
    (qss_cons (qs_setLcF 5 (own := [("_law_a", 6), ("_law_b", 7)]) sc__law_two_right.nd (qi_zipA T.zip (qa_cons (q_ixS (qv 0) q_int) (qa_cons (q_ixS (qv 1) q_int) qa_nil))) (blkOk_by (own := [("_law_a", 6), ("_law_b", 7)]) (N := N__law_two_right) (sc := defScope s__law_two_right) (by decide +kernel)) (fun _ _ _ _ _ => (qg_tup (qgs_cons (qg_name 6 sc__law_two_right.nd) (qgs_cons (qg_name 7 sc__law_two_right.nd) qgs_nil)))) (fun _ _ _ _ _ => (qts_one (QW.qt (qw_and (qt_cmp c_neS (qv 6) (qv 7)) (qw_and (qt_cmp c_neS (qv 6) q_str) (qw_and1 (qt_cmp c_neS (qv 7) q_str))))))) (fun _ _ _ _ _ => (qv 6)) s)
    (qss_one (qs_ret (q_cmp c_eqS (q_reprN gd (hu_big hr) T.repr (qv 3)) (q_reprN gd (hu_big hr) T.repr (q_ifExp (qt_cmp (c_eq hr.units) (q_mod (q_len T.len (qv 5)) q_int) q_int) (qv 4) (q_callC c__law_opposite (hr.mono (by decide)) gd (qa_cons (qv 4) qa_nil)))))))))⟩
theorem sc_law : FnScope N_law ["_law_script"] (defScope s_law) := ⟨rfl, rfl, rfl, by decide +kernel, rfl, by decide +kernel, by decide +kernel⟩
theorem walk_law (T : Txt K mg) (c__law_hand : Cal P w K mg base "_law_hand" ["_law_script", "_law_k"] 1 S__law_hand) (c__law_take : Cal P w K mg base "_law_take" ["_law_hand_here", "_law_many"] 1 S__law_take) (c__law_short : Cal P w K mg base "_law_short" ["_law_hand_here", "_law_many", "_law_size"] 4 S__law_short) (c__law_letters : Cal P w K mg base "_law_letters" ["_law_hand_here", "_law_many"] 3 S__law_letters) (c__law_pick : Cal P w K mg base "_law_pick" ["_law_hand_here", "_law_some"] 2 S__law_pick) (c__law_bits : Cal P w K mg base "_law_bits" ["_law_hand_here", "_law_many"] 2 S__law_bits) (c__law_mix : Cal P w K mg base "_law_mix" ["_law_hand_here", "_law_many"] 3 S__law_mix) (c_done_to : Cal P w K mg base "done_to" ["letters", "mix"] 4 S_done_to) (c__law_done : Cal P w K mg base "_law_done" ["_law_letters_here", "_law_mix_here"] 2 S__law_done) (c__law_two_right : Cal P w K mg base "_law_two_right" ["_law_one", "_law_other", "_law_mix_here"] 5 S__law_two_right) (x_letters_of : CalX P w K mg base "letters_of" ["circuit", "row"] 5 S_letters_of) {f : Addr} {cd : Value} {A : Around} {outer : List Env} {s : Shared} {H : Hp} {E : XK} {ρ : Ent} (hr : Room 5 (A.deeper (envOfC "law" (defScope s_law) s.heap.objs.size f cd))) (gd : A.guards = some []) :
    ∃ ts, QSs (cxOf CX0 P w K mg base N_law "law" (defScope s_law) f cd A outer s H E).nox ρ (defBody s_law) ts as_law := ⟨_, (qss_cons (qs_for (qi_range1 T.range (qa_cons (q_add q_int (q_min2 T.min q_int (q_len T.len (qv 0)))) qa_nil)) (qg_name 1 sc_law.nd) (qss_cons (qs_setF 2 sc_law.nd (q_callC c__law_hand (hr.mono (by decide)) gd (qa_cons (qv 0) (qa_cons (qv 1) qa_nil))))
    (qss_one (qs_for (qi_range1 T.range (qa_cons q_int qa_nil)) (qg_name 3 sc_law.nd) (qss_cons (qs_setF 4 sc_law.nd (q_add q_int (q_callC c__law_take (hr.mono (by decide)) gd (qa_cons (qv 2) (qa_cons q_int qa_nil)))))
    (qss_cons (qs_setF 5 sc_law.nd (q_callC c__law_short (hr.mono (by decide)) gd (qa_cons (qv 2) (qa_cons (qv 4) (qa_cons (q_callC c__law_take (hr.mono (by decide)) gd (qa_cons (qv 2) (qa_cons q_int qa_nil))) qa_nil)))))
    (qss_cons (qs_set 6 sc_law.nd (q_lst (qa_cons (q_callC c__law_letters (hr.mono (by decide)) gd (qa_cons (qv 2) (qa_cons (qv 4) qa_nil))) (qa_cons (q_callC c__law_letters (hr.mono (by decide)) gd (qa_cons (qv 2) (qa_cons (qv 4) qa_nil))) qa_nil))))
    (qss_cons (qs_expr (q_append (qv 6) (qa_cons (q_callC c__law_pick (hr.mono (by decide)) gd (qa_cons (qv 2) (qa_cons (q_callXC x_letters_of (hr.mono (by decide)) gd takes_no cn_no (qa_cons (qv 5) (qa_cons (q_callC c__law_bits (hr.mono (by decide)) gd (qa_cons (qv 2) (qa_cons (qv 4) qa_nil))) qa_nil))) qa_nil))) qa_nil)))
    (qss_cons (qs_setF 7 sc_law.nd (q_callC c__law_mix (hr.mono (by decide)) gd (qa_cons (qv 2) (qa_cons (qv 4) qa_nil))))
    (qss_cons (qs_setF 8 sc_law.nd (q_reprN gd (hu_big hr) T.repr (q_tup (qa_cons (qv 6) (qa_cons (qv 7) qa_nil)))))
    (qss_cons (qs_for (qi_list (qv 6)) (qg_name 9 sc_law.nd) (qss_cons (qs_setF 10 sc_law.nd (q_callC c_done_to (hr.mono (by decide)) gd (qa_cons (qv 9) (qa_cons (qv 7) qa_nil))))
    (qss_cons (qs_if (QW.qt (qw_or (qt_cmp c_neS (q_reprN gd (hu_big hr) T.repr (qv 10)) (q_reprN gd (hu_big hr) T.repr (q_callC c__law_done (hr.mono (by decide)) gd (qa_cons (qv 9) (qa_cons (qv 7) qa_nil))))) (qw_or1 (qt_cmp c_neS (q_reprN gd (hu_big hr) T.repr (q_callC c_done_to (hr.mono (by decide)) gd (qa_cons (qv 9) (qa_cons (qv 10) qa_nil)))) (q_reprN gd (hu_big hr) T.repr (qv 7)))))) (qss_one (qs_ret q_bl)) qss_nil)
    (qss_one (qs_if (qt_not (qt_val (q_all T.all (q_comp (own := [("_law_other", 11)]) sc_law.nd (qi_list (qv 6)) (blkOk_by (own := [("_law_other", 11)]) (N := N_law) (sc := defScope s_law) (by decide +kernel)) (fun _ _ _ _ _ => (qg_name 11 sc_law.nd)) (fun _ _ _ _ _ => qts_nil) (fun _ _ _ _ _ => (q_callC c__law_two_right (hr.mono (by decide)) gd (qa_cons (qv 9) (qa_cons (qv 11) (qa_cons (qv 7) qa_nil))))) s)))) (qss_one (qs_ret q_bl)) qss_nil)))))
    (qss_one (qs_if (qt_cmp c_neS (q_reprN gd (hu_big hr) T.repr (q_tup (qa_cons (qv 6) (qa_cons (qv 7) qa_nil)))) (qv 8)) (qss_one (qs_ret q_bl)) qss_nil)))))))))))))
    (qss_one (qs_ret q_bl)))⟩
end
section
variable {P : Program} {w : World} {K : PySem.W.Frag} {mg : Str → Option Value} {base : Heap}
theorem ok_can_be_less {f : Addr} {fd : FuncData} (F : Fun K "can_be_less" "can_be_less" s_can_be_less f fd) (T : Txt K mg) : FnG P w K mg base CX0 1 f fd ["a", "b", "c", "d"] (spA K 4 S_can_be_less) :=
  fn_ok F sc_can_be_less ar_can_be_less (fun _ _ _ _ _ _ _ hr gd => walk_can_be_less T hr gd) rd_can_be_less
theorem ok_lowest {f : Addr} {fd : FuncData} (F : Fun K "lowest" "lowest" s_lowest f fd) (T : Txt K mg) (c_can_be_less : Cal P w K mg base "can_be_less" ["a", "b", "c", "d"] 1 S_can_be_less) : FnG P w K mg base CX0 2 f fd ["a", "b", "c", "d", "k"] (spA K 5 S_lowest) :=
  fn_ok F sc_lowest ar_lowest (fun _ _ _ _ _ _ _ hr gd => walk_lowest T c_can_be_less hr gd) rd_lowest
theorem ok_times {f : Addr} {fd : FuncData} (F : Fun K "times" "times" s_times f fd) (T : Txt K mg) (c_lowest : Cal P w K mg base "lowest" ["a", "b", "c", "d", "k"] 2 S_lowest) : FnG P w K mg base CX0 3 f fd ["one", "other"] (spA K 2 S_times) :=
  fn_ok F sc_times ar_times (fun _ _ _ _ _ _ _ hr gd => walk_times T c_lowest hr gd) rd_times
theorem ok_root {f : Addr} {fd : FuncData} (F : Fun K "root" "root" s_root f fd) (T : Txt K mg) : FnG P w K mg base CX0 1 f fd ["j"] (spA K 1 S_root) :=
  fn_ok F sc_root ar_root (fun _ _ _ _ _ _ _ hr gd => walk_root T hr gd) rd_root
theorem ok_is_short_gate {f : Addr} {fd : FuncData} (F : Fun K "is_short_gate" "is_short_gate" s_is_short_gate f fd) (T : Txt K mg) : FnG P w K mg base CX0 1 f fd ["gate"] (spA K 1 S_is_short_gate) :=
  fn_ok F sc_is_short_gate ar_is_short_gate (fun _ _ _ _ _ _ _ hr gd => walk_is_short_gate T hr gd) rd_is_short_gate
theorem ok_is_short {f : Addr} {fd : FuncData} (F : Fun K "is_short" "is_short" s_is_short f fd) (T : Txt K mg) (c_is_short_gate : Cal P w K mg base "is_short_gate" ["gate"] 1 S_is_short_gate) : FnG P w K mg base CX0 2 f fd ["circuit"] (spA K 1 S_is_short) :=
  fn_ok F sc_is_short ar_is_short (fun _ _ _ _ _ _ _ hr gd => walk_is_short T c_is_short_gate hr gd) rd_is_short
theorem ok_Keeper___init__ {f : Addr} {fd : FuncData} (F : Fun K "__init__" "Keeper.__init__" s_Keeper___init__ f fd) (T : Txt K mg) : FnG P w K mg base CX0 1 f fd ["self", "many", "wire", "minus"] (spA K 4 S_Keeper___init__) :=
  fn_ok F sc_Keeper___init__ ar_Keeper___init__ (fun _ _ _ _ _ _ _ hr gd => walk_Keeper___init__ T hr gd) rd_Keeper___init__
theorem ok_Keeper_after_half {f : Addr} {fd : FuncData} (F : Fun K "after_half" "Keeper.after_half" s_Keeper_after_half f fd) (T : Txt K mg) : FnG P w K mg base CX0 1 f fd ["self", "wire"] (spA K 2 S_Keeper_after_half) :=
  fn_ok F sc_Keeper_after_half ar_Keeper_after_half (fun _ _ _ _ _ _ _ hr gd => walk_Keeper_after_half T hr gd) rd_Keeper_after_half
theorem ok_Keeper_after_turn {f : Addr} {fd : FuncData} (F : Fun K "after_turn" "Keeper.after_turn" s_Keeper_after_turn f fd) (T : Txt K mg) : FnG P w K mg base CX0 1 f fd ["self", "j", "wire"] (spA K 3 S_Keeper_after_turn) :=
  fn_ok F sc_Keeper_after_turn ar_Keeper_after_turn (fun _ _ _ _ _ _ _ hr gd => walk_Keeper_after_turn T hr gd) rd_Keeper_after_turn
theorem ok_Keeper_after_not {f : Addr} {fd : FuncData} (F : Fun K "after_not" "Keeper.after_not" s_Keeper_after_not f fd) (T : Txt K mg) : FnG P w K mg base CX0 1 f fd ["self", "controls", "wire"] (spA K 3 S_Keeper_after_not) :=
  fn_ok F sc_Keeper_after_not ar_Keeper_after_not (fun _ _ _ _ _ _ _ hr gd => walk_Keeper_after_not T hr gd) rd_Keeper_after_not
theorem ok_Keeper_after_cross {f : Addr} {fd : FuncData} (F : Fun K "after_cross" "Keeper.after_cross" s_Keeper_after_cross f fd) (T : Txt K mg) : FnG P w K mg base CX0 1 f fd ["self", "other", "wire"] (spA K 3 S_Keeper_after_cross) :=
  fn_ok F sc_Keeper_after_cross ar_Keeper_after_cross (fun _ _ _ _ _ _ _ hr gd => walk_Keeper_after_cross T hr gd) rd_Keeper_after_cross
theorem ok_Keeper_after {f : Addr} {fd : FuncData} (F : Fun K "after" "Keeper.after" s_Keeper_after f fd) (T : Txt K mg) (c_Keeper_after_half : CalM P w K mg base "Keeper" "after_half" ["self", "wire"] 1 S_Keeper_after_half) (c_Keeper_after_turn : CalM P w K mg base "Keeper" "after_turn" ["self", "j", "wire"] 1 S_Keeper_after_turn) (c_Keeper_after_not : CalM P w K mg base "Keeper" "after_not" ["self", "controls", "wire"] 1 S_Keeper_after_not) (c_Keeper_after_cross : CalM P w K mg base "Keeper" "after_cross" ["self", "other", "wire"] 1 S_Keeper_after_cross) : FnG P w K mg base CX0 2 f fd ["self", "gate"] (spA K 2 S_Keeper_after) :=
  fn_ok F sc_Keeper_after ar_Keeper_after (fun _ _ _ _ _ _ _ hr gd => walk_Keeper_after T c_Keeper_after_half c_Keeper_after_turn c_Keeper_after_not c_Keeper_after_cross hr gd) rd_Keeper_after
theorem ok_Keeper_quarters_with {f : Addr} {fd : FuncData} (F : Fun K "quarters_with" "Keeper.quarters_with" s_Keeper_quarters_with f fd) (T : Txt K mg) : FnG P w K mg base CX0 1 f fd ["self", "other"] (spA K 2 S_Keeper_quarters_with) :=
  fn_ok F sc_Keeper_quarters_with ar_Keeper_quarters_with (fun _ _ _ _ _ _ _ hr gd => walk_Keeper_quarters_with T hr gd) rd_Keeper_quarters_with
theorem ok_Keeper_take_in {f : Addr} {fd : FuncData} (F : Fun K "take_in" "Keeper.take_in" s_Keeper_take_in f fd) (T : Txt K mg) (c_Keeper_quarters_with : CalM P w K mg base "Keeper" "quarters_with" ["self", "other"] 1 S_Keeper_quarters_with) : FnG P w K mg base CX0 2 f fd ["self", "other"] (spA K 2 S_Keeper_take_in) :=
  fn_ok F sc_Keeper_take_in ar_Keeper_take_in (fun _ _ _ _ _ _ _ hr gd => walk_Keeper_take_in T c_Keeper_quarters_with hr gd) rd_Keeper_take_in
theorem ok_Keeper_letters {f : Addr} {fd : FuncData} (F : Fun K "letters" "Keeper.letters" s_Keeper_letters f fd) (T : Txt K mg) : FnG P w K mg base CX0 1 f fd ["self"] (spA K 1 S_Keeper_letters) :=
  fn_ok F sc_Keeper_letters ar_Keeper_letters (fun _ _ _ _ _ _ _ hr gd => walk_Keeper_letters T hr gd) rd_Keeper_letters
theorem ok_keepers_behind {f : Addr} {fd : FuncData} (F : Fun K "keepers_behind" "keepers_behind" s_keepers_behind f fd) (T : Txt K mg) (c_Keeper___init__ : CalI P w K mg base "Keeper" ["self", "many", "wire", "minus"] 1 S_Keeper___init__) (c_Keeper_after : CalM P w K mg base "Keeper" "after" ["self", "gate"] 2 S_Keeper_after) : FnG P w K mg base CX0 3 f fd ["circuit", "row"] (spA K 2 S_keepers_behind) :=
  fn_ok F sc_keepers_behind ar_keepers_behind (fun _ _ _ _ _ _ _ hr gd => walk_keepers_behind T c_Keeper___init__ c_Keeper_after hr gd) rd_keepers_behind
theorem ok_swept {f : Addr} {fd : FuncData} (F : Fun K "swept" "swept" s_swept f fd) (T : Txt K mg) (c_Keeper_take_in : CalM P w K mg base "Keeper" "take_in" ["self", "other"] 2 S_Keeper_take_in) : FnG P w K mg base CX0 3 f fd ["keepers", "begin", "columns"] (spA K 3 S_swept) :=
  fn_ok F sc_swept ar_swept (fun _ _ _ _ _ _ _ hr gd => walk_swept T c_Keeper_take_in hr gd) rd_swept
theorem ok_put_in_order {f : Addr} {fd : FuncData} (F : Fun K "put_in_order" "put_in_order" s_put_in_order f fd) (T : Txt K mg) (c_swept : Cal P w K mg base "swept" ["keepers", "begin", "columns"] 3 S_swept) (c_not_at : Cal P w K mg base "not_at" ["wire"] 1 S_not_at) (c_sign_at : Cal P w K mg base "sign_at" ["wire"] 1 S_sign_at) : FnG P w K mg base CX0 4 f fd ["keepers", "many"] (spA K 2 S_put_in_order) :=
  fn_ok F sc_put_in_order ar_put_in_order (fun _ _ _ _ _ _ _ hr gd => walk_put_in_order T c_swept c_not_at c_sign_at hr gd) rd_put_in_order
theorem ok_look_short {f : Addr} {fd : FuncData} (F : Fun K "look_short" "look_short" s_look_short f fd) (T : Txt K mg) (c_is_short : Cal P w K mg base "is_short" ["circuit"] 2 S_is_short) (y_NoFit : XclP K "NoFit") (ag : Agr K mg) : FnG P w K mg base (L2.CX P w) 3 f fd ["circuit"] (spX K 1 S_look_short) :=
  fn_okX F sc_look_short arX_look_short (fun _ _ _ _ _ _ _ _ hr gd cn => walk_look_short T c_is_short y_NoFit ag hr gd cn) rd_look_short
theorem ok_letters_of {f : Addr} {fd : FuncData} (F : Fun K "letters_of" "letters_of" s_letters_of f fd) (T : Txt K mg) (c_keepers_behind : Cal P w K mg base "keepers_behind" ["circuit", "row"] 3 S_keepers_behind) (c_put_in_order : Cal P w K mg base "put_in_order" ["keepers", "many"] 4 S_put_in_order) (c_Keeper_letters : CalM P w K mg base "Keeper" "letters" ["self"] 1 S_Keeper_letters) (x_look_short : CalX P w K mg base "look_short" ["circuit"] 3 S_look_short) : FnG P w K mg base (L2.CX P w) 5 f fd ["circuit", "row"] (spX K 2 S_letters_of) :=
  fn_okXW F sc_letters_of arX_letters_of (fun _ _ _ _ _ _ _ _ hr gd cn => walk_letters_of T c_keepers_behind c_put_in_order c_Keeper_letters x_look_short hr gd cn) rd_letters_of
theorem ok_done_to {f : Addr} {fd : FuncData} (F : Fun K "done_to" "done_to" s_done_to f fd) (T : Txt K mg) (c_times : Cal P w K mg base "times" ["one", "other"] 3 S_times) (c_root : Cal P w K mg base "root" ["j"] 1 S_root) : FnG P w K mg base CX0 4 f fd ["letters", "mix"] (spA K 2 S_done_to) :=
  fn_ok F sc_done_to ar_done_to (fun _ _ _ _ _ _ _ hr gd => walk_done_to T c_times c_root hr gd) rd_done_to
theorem ok__law_hand {f : Addr} {fd : FuncData} (F : Fun K "_law_hand" "_law_hand" s__law_hand f fd) (T : Txt K mg) : FnG P w K mg base CX0 1 f fd ["_law_script", "_law_k"] (spA K 2 S__law_hand) :=
  fn_ok F sc__law_hand ar__law_hand (fun _ _ _ _ _ _ _ hr gd => walk__law_hand T hr gd) rd__law_hand
theorem ok__law_take {f : Addr} {fd : FuncData} (F : Fun K "_law_take" "_law_take" s__law_take f fd) (T : Txt K mg) : FnG P w K mg base CX0 1 f fd ["_law_hand_here", "_law_many"] (spA K 2 S__law_take) :=
  fn_ok F sc__law_take ar__law_take (fun _ _ _ _ _ _ _ hr gd => walk__law_take T hr gd) rd__law_take
theorem ok__law_pick {f : Addr} {fd : FuncData} (F : Fun K "_law_pick" "_law_pick" s__law_pick f fd) (T : Txt K mg) (c__law_take : Cal P w K mg base "_law_take" ["_law_hand_here", "_law_many"] 1 S__law_take) : FnG P w K mg base CX0 2 f fd ["_law_hand_here", "_law_some"] (spA K 2 S__law_pick) :=
  fn_ok F sc__law_pick ar__law_pick (fun _ _ _ _ _ _ _ hr gd => walk__law_pick T c__law_take hr gd) rd__law_pick
theorem ok__law_controls {f : Addr} {fd : FuncData} (F : Fun K "_law_controls" "_law_controls" s__law_controls f fd) (T : Txt K mg) (c__law_take : Cal P w K mg base "_law_take" ["_law_hand_here", "_law_many"] 1 S__law_take) : FnG P w K mg base CX0 2 f fd ["_law_hand_here", "_law_many", "_law_wire", "_law_most"] (spA K 4 S__law_controls) :=
  fn_ok F sc__law_controls ar__law_controls (fun _ _ _ _ _ _ _ hr gd => walk__law_controls T c__law_take hr gd) rd__law_controls
theorem ok__law_short_gate {f : Addr} {fd : FuncData} (F : Fun K "_law_short_gate" "_law_short_gate" s__law_short_gate f fd) (T : Txt K mg) (c__law_take : Cal P w K mg base "_law_take" ["_law_hand_here", "_law_many"] 1 S__law_take) (c__law_pick : Cal P w K mg base "_law_pick" ["_law_hand_here", "_law_some"] 2 S__law_pick) (c__law_controls : Cal P w K mg base "_law_controls" ["_law_hand_here", "_law_many", "_law_wire", "_law_most"] 2 S__law_controls) : FnG P w K mg base CX0 3 f fd ["_law_hand_here", "_law_many"] (spA K 2 S__law_short_gate) :=
  fn_ok F sc__law_short_gate ar__law_short_gate (fun _ _ _ _ _ _ _ hr gd => walk__law_short_gate T c__law_take c__law_pick c__law_controls hr gd) rd__law_short_gate
theorem ok__law_short {f : Addr} {fd : FuncData} (F : Fun K "_law_short" "_law_short" s__law_short f fd) (T : Txt K mg) (c__law_short_gate : Cal P w K mg base "_law_short_gate" ["_law_hand_here", "_law_many"] 3 S__law_short_gate) : FnG P w K mg base CX0 4 f fd ["_law_hand_here", "_law_many", "_law_size"] (spA K 3 S__law_short) :=
  fn_ok F sc__law_short ar__law_short (fun _ _ _ _ _ _ _ hr gd => walk__law_short T c__law_short_gate hr gd) rd__law_short
theorem ok__law_bits {f : Addr} {fd : FuncData} (F : Fun K "_law_bits" "_law_bits" s__law_bits f fd) (T : Txt K mg) (c__law_take : Cal P w K mg base "_law_take" ["_law_hand_here", "_law_many"] 1 S__law_take) : FnG P w K mg base CX0 2 f fd ["_law_hand_here", "_law_many"] (spA K 2 S__law_bits) :=
  fn_ok F sc__law_bits ar__law_bits (fun _ _ _ _ _ _ _ hr gd => walk__law_bits T c__law_take hr gd) rd__law_bits
theorem ok__law_by_root {f : Addr} {fd : FuncData} (F : Fun K "_law_by_root" "_law_by_root" s__law_by_root f fd) (T : Txt K mg) : FnG P w K mg base CX0 1 f fd ["_law_number"] (spA K 1 S__law_by_root) :=
  fn_ok F sc__law_by_root ar__law_by_root (fun _ _ _ _ _ _ _ hr gd => walk__law_by_root T hr gd) rd__law_by_root
theorem ok__law_done {f : Addr} {fd : FuncData} (F : Fun K "_law_done" "_law_done" s__law_done f fd) (T : Txt K mg) (c__law_by_root : Cal P w K mg base "_law_by_root" ["_law_number"] 1 S__law_by_root) : FnG P w K mg base CX0 2 f fd ["_law_letters_here", "_law_mix_here"] (spA K 2 S__law_done) :=
  fn_ok F sc__law_done ar__law_done (fun _ _ _ _ _ _ _ hr gd => walk__law_done T c__law_by_root hr gd) rd__law_done
theorem ok__law_letters {f : Addr} {fd : FuncData} (F : Fun K "_law_letters" "_law_letters" s__law_letters f fd) (T : Txt K mg) (c__law_pick : Cal P w K mg base "_law_pick" ["_law_hand_here", "_law_some"] 2 S__law_pick) : FnG P w K mg base CX0 3 f fd ["_law_hand_here", "_law_many"] (spA K 2 S__law_letters) :=
  fn_ok F sc__law_letters ar__law_letters (fun _ _ _ _ _ _ _ hr gd => walk__law_letters T c__law_pick hr gd) rd__law_letters
theorem ok__law_mix {f : Addr} {fd : FuncData} (F : Fun K "_law_mix" "_law_mix" s__law_mix f fd) (T : Txt K mg) (c__law_take : Cal P w K mg base "_law_take" ["_law_hand_here", "_law_many"] 1 S__law_take) (c_lowest : Cal P w K mg base "lowest" ["a", "b", "c", "d", "k"] 2 S_lowest) (c__law_bits : Cal P w K mg base "_law_bits" ["_law_hand_here", "_law_many"] 2 S__law_bits) : FnG P w K mg base CX0 3 f fd ["_law_hand_here", "_law_many"] (spA K 2 S__law_mix) :=
  fn_ok F sc__law_mix ar__law_mix (fun _ _ _ _ _ _ _ hr gd => walk__law_mix T c__law_take c_lowest c__law_bits hr gd) rd__law_mix
theorem ok__law_opposite {f : Addr} {fd : FuncData} (F : Fun K "_law_opposite" "_law_opposite" s__law_opposite f fd) (T : Txt K mg) : FnG P w K mg base CX0 1 f fd ["_law_mix_here"] (spA K 1 S__law_opposite) :=
  fn_ok F sc__law_opposite ar__law_opposite (fun _ _ _ _ _ _ _ hr gd => walk__law_opposite T hr gd) rd__law_opposite
theorem ok__law_two_right {f : Addr} {fd : FuncData} (F : Fun K "_law_two_right" "_law_two_right" s__law_two_right f fd) (T : Txt K mg) (c_done_to : Cal P w K mg base "done_to" ["letters", "mix"] 4 S_done_to) (c__law_opposite : Cal P w K mg base "_law_opposite" ["_law_mix_here"] 1 S__law_opposite) : FnG P w K mg base CX0 5 f fd ["_law_one", "_law_other", "_law_mix_here"] (spA K 3 S__law_two_right) :=
  fn_ok F sc__law_two_right ar__law_two_right (fun _ _ _ _ _ _ _ hr gd => walk__law_two_right T c_done_to c__law_opposite hr gd) rd__law_two_right
theorem ok_law {f : Addr} {fd : FuncData} (F : Fun K "law" "law" s_law f fd) (T : Txt K mg) (c__law_hand : Cal P w K mg base "_law_hand" ["_law_script", "_law_k"] 1 S__law_hand) (c__law_take : Cal P w K mg base "_law_take" ["_law_hand_here", "_law_many"] 1 S__law_take) (c__law_short : Cal P w K mg base "_law_short" ["_law_hand_here", "_law_many", "_law_size"] 4 S__law_short) (c__law_letters : Cal P w K mg base "_law_letters" ["_law_hand_here", "_law_many"] 3 S__law_letters) (c__law_pick : Cal P w K mg base "_law_pick" ["_law_hand_here", "_law_some"] 2 S__law_pick) (c__law_bits : Cal P w K mg base "_law_bits" ["_law_hand_here", "_law_many"] 2 S__law_bits) (c__law_mix : Cal P w K mg base "_law_mix" ["_law_hand_here", "_law_many"] 3 S__law_mix) (c_done_to : Cal P w K mg base "done_to" ["letters", "mix"] 4 S_done_to) (c__law_done : Cal P w K mg base "_law_done" ["_law_letters_here", "_law_mix_here"] 2 S__law_done) (c__law_two_right : Cal P w K mg base "_law_two_right" ["_law_one", "_law_other", "_law_mix_here"] 5 S__law_two_right) (x_letters_of : CalX P w K mg base "letters_of" ["circuit", "row"] 5 S_letters_of) : FnG P w K mg base CX0 6 f fd ["_law_script"] (spA K 1 S_law) :=
  fn_ok F sc_law ar_law (fun _ _ _ _ _ _ _ hr gd => walk_law T c__law_hand c__law_take c__law_short c__law_letters c__law_pick c__law_bits c__law_mix c_done_to c__law_done c__law_two_right x_letters_of hr gd) rd_law
end
theorem all_mk {l : PySem.W.OpenLaw} {w : World} {K : PySem.W.Frag} {h : Heap} {mg : Str → Option Value} {fa : Addr} (X : K.In h) (G : h.Ns mainGlobals mg) (hfa : mg "law" = some (.ref fa))
    {cL_not_at PT_not_at cL_sign_at PT_sign_at : Addr}
    {O_Keeper : Addr}
    (ca_Keeper : PySem.W.nsIn K mainGlobals "Keeper" = some (some (.ref O_Keeper)))
    (cp_Keeper : PySem.W.plainGet K O_Keeper Str.empty = true)
    (ch_Keeper : PySem.W.hasDictIn K O_Keeper = true)
    (co_Keeper : PySem.W.plainOver K O_Keeper = true)
    (cs_Keeper : PySem.W.findIn K (.ref O_Keeper) "__setattr__" = some (some (.builtin "object.__setattr__")))
    (cm_Keeper : PySem.W.makesIn K O_Keeper = true)
    (ck_Keeper : PySem.W.keepIn K (.ref O_Keeper) = true)
    (cf0_Keeper : PySem.W.findIn K (.ref O_Keeper) "minus" = some none)
    (cf1_Keeper : PySem.W.findIn K (.ref O_Keeper) "nots" = some none)
    (cf2_Keeper : PySem.W.findIn K (.ref O_Keeper) "signs" = some none)
    {f0 : Addr} {od0 an0 : Option Addr} {sl0 : Array (Option Value)} {oc0 kV0 dc0 pm0 cd0 ct0 : Value} (a0 : PySem.W.nsIn K mainGlobals "can_be_less" = some (some (.ref f0))) (l0 : K.lookup f0 = some ⟨oc0, od0, .func (PySem.W.fnOf "can_be_less" "can_be_less" (defArgs s_can_be_less) (defBody s_can_be_less) (defScope s_can_be_less) .none kV0 dc0 pm0 an0 cd0 ct0), sl0⟩) (q0 : PySem.W.codeIn K cd0 "can_be_less" = true) (k0 : PySem.W.keepIn K (.ref f0) = true)
    {f1 : Addr} {od1 an1 : Option Addr} {sl1 : Array (Option Value)} {oc1 kV1 dc1 pm1 cd1 ct1 : Value} (a1 : PySem.W.nsIn K mainGlobals "lowest" = some (some (.ref f1))) (l1 : K.lookup f1 = some ⟨oc1, od1, .func (PySem.W.fnOf "lowest" "lowest" (defArgs s_lowest) (defBody s_lowest) (defScope s_lowest) .none kV1 dc1 pm1 an1 cd1 ct1), sl1⟩) (q1 : PySem.W.codeIn K cd1 "lowest" = true) (k1 : PySem.W.keepIn K (.ref f1) = true)
    {f2 : Addr} {od2 an2 : Option Addr} {sl2 : Array (Option Value)} {oc2 kV2 dc2 pm2 cd2 ct2 : Value} (a2 : PySem.W.nsIn K mainGlobals "times" = some (some (.ref f2))) (l2 : K.lookup f2 = some ⟨oc2, od2, .func (PySem.W.fnOf "times" "times" (defArgs s_times) (defBody s_times) (defScope s_times) .none kV2 dc2 pm2 an2 cd2 ct2), sl2⟩) (q2 : PySem.W.codeIn K cd2 "times" = true) (k2 : PySem.W.keepIn K (.ref f2) = true)
    {f3 : Addr} {od3 an3 : Option Addr} {sl3 : Array (Option Value)} {oc3 kV3 dc3 pm3 cd3 ct3 : Value} (a3 : PySem.W.nsIn K mainGlobals "root" = some (some (.ref f3))) (l3 : K.lookup f3 = some ⟨oc3, od3, .func (PySem.W.fnOf "root" "root" (defArgs s_root) (defBody s_root) (defScope s_root) .none kV3 dc3 pm3 an3 cd3 ct3), sl3⟩) (q3 : PySem.W.codeIn K cd3 "root" = true) (k3 : PySem.W.keepIn K (.ref f3) = true)
    {f4 : Addr} {od4 an4 : Option Addr} {sl4 : Array (Option Value)} {oc4 kV4 dc4 pm4 cd4 ct4 : Value} (a4 : PySem.W.nsIn K mainGlobals "is_short_gate" = some (some (.ref f4))) (l4 : K.lookup f4 = some ⟨oc4, od4, .func (PySem.W.fnOf "is_short_gate" "is_short_gate" (defArgs s_is_short_gate) (defBody s_is_short_gate) (defScope s_is_short_gate) .none kV4 dc4 pm4 an4 cd4 ct4), sl4⟩) (q4 : PySem.W.codeIn K cd4 "is_short_gate" = true) (k4 : PySem.W.keepIn K (.ref f4) = true)
    {f5 : Addr} {od5 an5 : Option Addr} {sl5 : Array (Option Value)} {oc5 kV5 dc5 pm5 cd5 ct5 : Value} (a5 : PySem.W.nsIn K mainGlobals "is_short" = some (some (.ref f5))) (l5 : K.lookup f5 = some ⟨oc5, od5, .func (PySem.W.fnOf "is_short" "is_short" (defArgs s_is_short) (defBody s_is_short) (defScope s_is_short) .none kV5 dc5 pm5 an5 cd5 ct5), sl5⟩) (q5 : PySem.W.codeIn K cd5 "is_short" = true) (k5 : PySem.W.keepIn K (.ref f5) = true)
    {f6 : Addr} {od6 an6 : Option Addr} {sl6 : Array (Option Value)} {oc6 kV6 dc6 pm6 cd6 ct6 : Value} (a6 : PySem.W.findIn K (.ref O_Keeper) "__init__" = some (some (.ref f6))) (i6 : PySem.W.isFn K (.ref f6) = true) (l6 : K.lookup f6 = some ⟨oc6, od6, .func (PySem.W.fnOf "__init__" "Keeper.__init__" (defArgs s_Keeper___init__) (defBody s_Keeper___init__) (defScope s_Keeper___init__) .none kV6 dc6 pm6 an6 cd6 ct6), sl6⟩) (q6 : PySem.W.codeIn K cd6 "Keeper.__init__" = true) (k6 : PySem.W.keepIn K (.ref f6) = true)
    {f7 : Addr} {od7 an7 : Option Addr} {sl7 : Array (Option Value)} {oc7 kV7 dc7 pm7 cd7 ct7 : Value} (a7 : PySem.W.findIn K (.ref O_Keeper) "after_half" = some (some (.ref f7))) (i7 : PySem.W.isFn K (.ref f7) = true) (l7 : K.lookup f7 = some ⟨oc7, od7, .func (PySem.W.fnOf "after_half" "Keeper.after_half" (defArgs s_Keeper_after_half) (defBody s_Keeper_after_half) (defScope s_Keeper_after_half) .none kV7 dc7 pm7 an7 cd7 ct7), sl7⟩) (q7 : PySem.W.codeIn K cd7 "Keeper.after_half" = true) (k7 : PySem.W.keepIn K (.ref f7) = true)
    {f8 : Addr} {od8 an8 : Option Addr} {sl8 : Array (Option Value)} {oc8 kV8 dc8 pm8 cd8 ct8 : Value} (a8 : PySem.W.findIn K (.ref O_Keeper) "after_turn" = some (some (.ref f8))) (i8 : PySem.W.isFn K (.ref f8) = true) (l8 : K.lookup f8 = some ⟨oc8, od8, .func (PySem.W.fnOf "after_turn" "Keeper.after_turn" (defArgs s_Keeper_after_turn) (defBody s_Keeper_after_turn) (defScope s_Keeper_after_turn) .none kV8 dc8 pm8 an8 cd8 ct8), sl8⟩) (q8 : PySem.W.codeIn K cd8 "Keeper.after_turn" = true) (k8 : PySem.W.keepIn K (.ref f8) = true)
    {f9 : Addr} {od9 an9 : Option Addr} {sl9 : Array (Option Value)} {oc9 kV9 dc9 pm9 cd9 ct9 : Value} (a9 : PySem.W.findIn K (.ref O_Keeper) "after_not" = some (some (.ref f9))) (i9 : PySem.W.isFn K (.ref f9) = true) (l9 : K.lookup f9 = some ⟨oc9, od9, .func (PySem.W.fnOf "after_not" "Keeper.after_not" (defArgs s_Keeper_after_not) (defBody s_Keeper_after_not) (defScope s_Keeper_after_not) .none kV9 dc9 pm9 an9 cd9 ct9), sl9⟩) (q9 : PySem.W.codeIn K cd9 "Keeper.after_not" = true) (k9 : PySem.W.keepIn K (.ref f9) = true)
    {f10 : Addr} {od10 an10 : Option Addr} {sl10 : Array (Option Value)} {oc10 kV10 dc10 pm10 cd10 ct10 : Value} (a10 : PySem.W.findIn K (.ref O_Keeper) "after_cross" = some (some (.ref f10))) (i10 : PySem.W.isFn K (.ref f10) = true) (l10 : K.lookup f10 = some ⟨oc10, od10, .func (PySem.W.fnOf "after_cross" "Keeper.after_cross" (defArgs s_Keeper_after_cross) (defBody s_Keeper_after_cross) (defScope s_Keeper_after_cross) .none kV10 dc10 pm10 an10 cd10 ct10), sl10⟩) (q10 : PySem.W.codeIn K cd10 "Keeper.after_cross" = true) (k10 : PySem.W.keepIn K (.ref f10) = true)
    {f11 : Addr} {od11 an11 : Option Addr} {sl11 : Array (Option Value)} {oc11 kV11 dc11 pm11 cd11 ct11 : Value} (a11 : PySem.W.findIn K (.ref O_Keeper) "after" = some (some (.ref f11))) (i11 : PySem.W.isFn K (.ref f11) = true) (l11 : K.lookup f11 = some ⟨oc11, od11, .func (PySem.W.fnOf "after" "Keeper.after" (defArgs s_Keeper_after) (defBody s_Keeper_after) (defScope s_Keeper_after) .none kV11 dc11 pm11 an11 cd11 ct11), sl11⟩) (q11 : PySem.W.codeIn K cd11 "Keeper.after" = true) (k11 : PySem.W.keepIn K (.ref f11) = true)
    {f12 : Addr} {od12 an12 : Option Addr} {sl12 : Array (Option Value)} {oc12 kV12 dc12 pm12 cd12 ct12 : Value} (a12 : PySem.W.findIn K (.ref O_Keeper) "quarters_with" = some (some (.ref f12))) (i12 : PySem.W.isFn K (.ref f12) = true) (l12 : K.lookup f12 = some ⟨oc12, od12, .func (PySem.W.fnOf "quarters_with" "Keeper.quarters_with" (defArgs s_Keeper_quarters_with) (defBody s_Keeper_quarters_with) (defScope s_Keeper_quarters_with) .none kV12 dc12 pm12 an12 cd12 ct12), sl12⟩) (q12 : PySem.W.codeIn K cd12 "Keeper.quarters_with" = true) (k12 : PySem.W.keepIn K (.ref f12) = true)
    {f13 : Addr} {od13 an13 : Option Addr} {sl13 : Array (Option Value)} {oc13 kV13 dc13 pm13 cd13 ct13 : Value} (a13 : PySem.W.findIn K (.ref O_Keeper) "take_in" = some (some (.ref f13))) (i13 : PySem.W.isFn K (.ref f13) = true) (l13 : K.lookup f13 = some ⟨oc13, od13, .func (PySem.W.fnOf "take_in" "Keeper.take_in" (defArgs s_Keeper_take_in) (defBody s_Keeper_take_in) (defScope s_Keeper_take_in) .none kV13 dc13 pm13 an13 cd13 ct13), sl13⟩) (q13 : PySem.W.codeIn K cd13 "Keeper.take_in" = true) (k13 : PySem.W.keepIn K (.ref f13) = true)
    {f14 : Addr} {od14 an14 : Option Addr} {sl14 : Array (Option Value)} {oc14 kV14 dc14 pm14 cd14 ct14 : Value} (a14 : PySem.W.findIn K (.ref O_Keeper) "letters" = some (some (.ref f14))) (i14 : PySem.W.isFn K (.ref f14) = true) (l14 : K.lookup f14 = some ⟨oc14, od14, .func (PySem.W.fnOf "letters" "Keeper.letters" (defArgs s_Keeper_letters) (defBody s_Keeper_letters) (defScope s_Keeper_letters) .none kV14 dc14 pm14 an14 cd14 ct14), sl14⟩) (q14 : PySem.W.codeIn K cd14 "Keeper.letters" = true) (k14 : PySem.W.keepIn K (.ref f14) = true)
    {f15 : Addr} {od15 an15 : Option Addr} {sl15 : Array (Option Value)} {oc15 kV15 dc15 pm15 cd15 ct15 : Value} (a15 : PySem.W.nsIn K mainGlobals "keepers_behind" = some (some (.ref f15))) (l15 : K.lookup f15 = some ⟨oc15, od15, .func (PySem.W.fnOf "keepers_behind" "keepers_behind" (defArgs s_keepers_behind) (defBody s_keepers_behind) (defScope s_keepers_behind) .none kV15 dc15 pm15 an15 cd15 ct15), sl15⟩) (q15 : PySem.W.codeIn K cd15 "keepers_behind" = true) (k15 : PySem.W.keepIn K (.ref f15) = true)
    {f16 : Addr} {od16 an16 : Option Addr} {sl16 : Array (Option Value)} {oc16 kV16 dc16 pm16 cd16 ct16 : Value} (a16 : PySem.W.nsIn K mainGlobals "swept" = some (some (.ref f16))) (l16 : K.lookup f16 = some ⟨oc16, od16, .func (PySem.W.fnOf "swept" "swept" (defArgs s_swept) (defBody s_swept) (defScope s_swept) .none kV16 dc16 pm16 an16 cd16 ct16), sl16⟩) (q16 : PySem.W.codeIn K cd16 "swept" = true) (k16 : PySem.W.keepIn K (.ref f16) = true)
    {f17 : Addr} {od17 an17 : Option Addr} {sl17 : Array (Option Value)} {oc17 kV17 dc17 pm17 ct17 : Value} (a17 : PySem.W.nsIn K mainGlobals "not_at" = some (some (.ref f17))) (l17 : K.lookup f17 = some ⟨oc17, od17, .func (PySem.W.fnOf "not_at" "not_at" (defArgs s_not_at) (defBody s_not_at) (defScope s_not_at) .none kV17 dc17 pm17 an17 (.ref cL_not_at) ct17), sl17⟩) (q17 : PySem.W.codeIn K (.ref cL_not_at) "not_at" = true) (k17 : PySem.W.keepIn K (.ref f17) = true)
    {f18 : Addr} {od18 an18 : Option Addr} {sl18 : Array (Option Value)} {oc18 kV18 dc18 pm18 ct18 : Value} (a18 : PySem.W.nsIn K mainGlobals "sign_at" = some (some (.ref f18))) (l18 : K.lookup f18 = some ⟨oc18, od18, .func (PySem.W.fnOf "sign_at" "sign_at" (defArgs s_sign_at) (defBody s_sign_at) (defScope s_sign_at) .none kV18 dc18 pm18 an18 (.ref cL_sign_at) ct18), sl18⟩) (q18 : PySem.W.codeIn K (.ref cL_sign_at) "sign_at" = true) (k18 : PySem.W.keepIn K (.ref f18) = true)
    {f19 : Addr} {od19 an19 : Option Addr} {sl19 : Array (Option Value)} {oc19 kV19 dc19 pm19 cd19 ct19 : Value} (a19 : PySem.W.nsIn K mainGlobals "put_in_order" = some (some (.ref f19))) (l19 : K.lookup f19 = some ⟨oc19, od19, .func (PySem.W.fnOf "put_in_order" "put_in_order" (defArgs s_put_in_order) (defBody s_put_in_order) (defScope s_put_in_order) .none kV19 dc19 pm19 an19 cd19 ct19), sl19⟩) (q19 : PySem.W.codeIn K cd19 "put_in_order" = true) (k19 : PySem.W.keepIn K (.ref f19) = true)
    {f20 : Addr} {od20 an20 : Option Addr} {sl20 : Array (Option Value)} {oc20 kV20 dc20 pm20 cd20 ct20 : Value} (a20 : PySem.W.nsIn K mainGlobals "look_short" = some (some (.ref f20))) (l20 : K.lookup f20 = some ⟨oc20, od20, .func (PySem.W.fnOf "look_short" "look_short" (defArgs s_look_short) (defBody s_look_short) (defScope s_look_short) .none kV20 dc20 pm20 an20 cd20 ct20), sl20⟩) (q20 : PySem.W.codeIn K cd20 "look_short" = true) (k20 : PySem.W.keepIn K (.ref f20) = true)
    {f21 : Addr} {od21 an21 : Option Addr} {sl21 : Array (Option Value)} {oc21 kV21 dc21 pm21 cd21 ct21 : Value} (a21 : PySem.W.nsIn K mainGlobals "letters_of" = some (some (.ref f21))) (l21 : K.lookup f21 = some ⟨oc21, od21, .func (PySem.W.fnOf "letters_of" "letters_of" (defArgs s_letters_of) (defBody s_letters_of) (defScope s_letters_of) .none kV21 dc21 pm21 an21 cd21 ct21), sl21⟩) (q21 : PySem.W.codeIn K cd21 "letters_of" = true) (k21 : PySem.W.keepIn K (.ref f21) = true)
    {f22 : Addr} {od22 an22 : Option Addr} {sl22 : Array (Option Value)} {oc22 kV22 dc22 pm22 cd22 ct22 : Value} (a22 : PySem.W.nsIn K mainGlobals "done_to" = some (some (.ref f22))) (l22 : K.lookup f22 = some ⟨oc22, od22, .func (PySem.W.fnOf "done_to" "done_to" (defArgs s_done_to) (defBody s_done_to) (defScope s_done_to) .none kV22 dc22 pm22 an22 cd22 ct22), sl22⟩) (q22 : PySem.W.codeIn K cd22 "done_to" = true) (k22 : PySem.W.keepIn K (.ref f22) = true)
    {f23 : Addr} {od23 an23 : Option Addr} {sl23 : Array (Option Value)} {oc23 kV23 dc23 pm23 cd23 ct23 : Value} (a23 : PySem.W.nsIn K mainGlobals "_law_hand" = some (some (.ref f23))) (l23 : K.lookup f23 = some ⟨oc23, od23, .func (PySem.W.fnOf "_law_hand" "_law_hand" (defArgs s__law_hand) (defBody s__law_hand) (defScope s__law_hand) .none kV23 dc23 pm23 an23 cd23 ct23), sl23⟩) (q23 : PySem.W.codeIn K cd23 "_law_hand" = true) (k23 : PySem.W.keepIn K (.ref f23) = true)
    {f24 : Addr} {od24 an24 : Option Addr} {sl24 : Array (Option Value)} {oc24 kV24 dc24 pm24 cd24 ct24 : Value} (a24 : PySem.W.nsIn K mainGlobals "_law_take" = some (some (.ref f24))) (l24 : K.lookup f24 = some ⟨oc24, od24, .func (PySem.W.fnOf "_law_take" "_law_take" (defArgs s__law_take) (defBody s__law_take) (defScope s__law_take) .none kV24 dc24 pm24 an24 cd24 ct24), sl24⟩) (q24 : PySem.W.codeIn K cd24 "_law_take" = true) (k24 : PySem.W.keepIn K (.ref f24) = true)
    {f25 : Addr} {od25 an25 : Option Addr} {sl25 : Array (Option Value)} {oc25 kV25 dc25 pm25 cd25 ct25 : Value} (a25 : PySem.W.nsIn K mainGlobals "_law_pick" = some (some (.ref f25))) (l25 : K.lookup f25 = some ⟨oc25, od25, .func (PySem.W.fnOf "_law_pick" "_law_pick" (defArgs s__law_pick) (defBody s__law_pick) (defScope s__law_pick) .none kV25 dc25 pm25 an25 cd25 ct25), sl25⟩) (q25 : PySem.W.codeIn K cd25 "_law_pick" = true) (k25 : PySem.W.keepIn K (.ref f25) = true)
    {f26 : Addr} {od26 an26 : Option Addr} {sl26 : Array (Option Value)} {oc26 kV26 dc26 pm26 cd26 ct26 : Value} (a26 : PySem.W.nsIn K mainGlobals "_law_controls" = some (some (.ref f26))) (l26 : K.lookup f26 = some ⟨oc26, od26, .func (PySem.W.fnOf "_law_controls" "_law_controls" (defArgs s__law_controls) (defBody s__law_controls) (defScope s__law_controls) .none kV26 dc26 pm26 an26 cd26 ct26), sl26⟩) (q26 : PySem.W.codeIn K cd26 "_law_controls" = true) (k26 : PySem.W.keepIn K (.ref f26) = true)
    {f27 : Addr} {od27 an27 : Option Addr} {sl27 : Array (Option Value)} {oc27 kV27 dc27 pm27 cd27 ct27 : Value} (a27 : PySem.W.nsIn K mainGlobals "_law_short_gate" = some (some (.ref f27))) (l27 : K.lookup f27 = some ⟨oc27, od27, .func (PySem.W.fnOf "_law_short_gate" "_law_short_gate" (defArgs s__law_short_gate) (defBody s__law_short_gate) (defScope s__law_short_gate) .none kV27 dc27 pm27 an27 cd27 ct27), sl27⟩) (q27 : PySem.W.codeIn K cd27 "_law_short_gate" = true) (k27 : PySem.W.keepIn K (.ref f27) = true)
    {f28 : Addr} {od28 an28 : Option Addr} {sl28 : Array (Option Value)} {oc28 kV28 dc28 pm28 cd28 ct28 : Value} (a28 : PySem.W.nsIn K mainGlobals "_law_short" = some (some (.ref f28))) (l28 : K.lookup f28 = some ⟨oc28, od28, .func (PySem.W.fnOf "_law_short" "_law_short" (defArgs s__law_short) (defBody s__law_short) (defScope s__law_short) .none kV28 dc28 pm28 an28 cd28 ct28), sl28⟩) (q28 : PySem.W.codeIn K cd28 "_law_short" = true) (k28 : PySem.W.keepIn K (.ref f28) = true)
    {f29 : Addr} {od29 an29 : Option Addr} {sl29 : Array (Option Value)} {oc29 kV29 dc29 pm29 cd29 ct29 : Value} (a29 : PySem.W.nsIn K mainGlobals "_law_bits" = some (some (.ref f29))) (l29 : K.lookup f29 = some ⟨oc29, od29, .func (PySem.W.fnOf "_law_bits" "_law_bits" (defArgs s__law_bits) (defBody s__law_bits) (defScope s__law_bits) .none kV29 dc29 pm29 an29 cd29 ct29), sl29⟩) (q29 : PySem.W.codeIn K cd29 "_law_bits" = true) (k29 : PySem.W.keepIn K (.ref f29) = true)
    {f30 : Addr} {od30 an30 : Option Addr} {sl30 : Array (Option Value)} {oc30 kV30 dc30 pm30 cd30 ct30 : Value} (a30 : PySem.W.nsIn K mainGlobals "_law_by_root" = some (some (.ref f30))) (l30 : K.lookup f30 = some ⟨oc30, od30, .func (PySem.W.fnOf "_law_by_root" "_law_by_root" (defArgs s__law_by_root) (defBody s__law_by_root) (defScope s__law_by_root) .none kV30 dc30 pm30 an30 cd30 ct30), sl30⟩) (q30 : PySem.W.codeIn K cd30 "_law_by_root" = true) (k30 : PySem.W.keepIn K (.ref f30) = true)
    {f31 : Addr} {od31 an31 : Option Addr} {sl31 : Array (Option Value)} {oc31 kV31 dc31 pm31 cd31 ct31 : Value} (a31 : PySem.W.nsIn K mainGlobals "_law_done" = some (some (.ref f31))) (l31 : K.lookup f31 = some ⟨oc31, od31, .func (PySem.W.fnOf "_law_done" "_law_done" (defArgs s__law_done) (defBody s__law_done) (defScope s__law_done) .none kV31 dc31 pm31 an31 cd31 ct31), sl31⟩) (q31 : PySem.W.codeIn K cd31 "_law_done" = true) (k31 : PySem.W.keepIn K (.ref f31) = true)
    {f32 : Addr} {od32 an32 : Option Addr} {sl32 : Array (Option Value)} {oc32 kV32 dc32 pm32 cd32 ct32 : Value} (a32 : PySem.W.nsIn K mainGlobals "_law_letters" = some (some (.ref f32))) (l32 : K.lookup f32 = some ⟨oc32, od32, .func (PySem.W.fnOf "_law_letters" "_law_letters" (defArgs s__law_letters) (defBody s__law_letters) (defScope s__law_letters) .none kV32 dc32 pm32 an32 cd32 ct32), sl32⟩) (q32 : PySem.W.codeIn K cd32 "_law_letters" = true) (k32 : PySem.W.keepIn K (.ref f32) = true)
    {f33 : Addr} {od33 an33 : Option Addr} {sl33 : Array (Option Value)} {oc33 kV33 dc33 pm33 cd33 ct33 : Value} (a33 : PySem.W.nsIn K mainGlobals "_law_mix" = some (some (.ref f33))) (l33 : K.lookup f33 = some ⟨oc33, od33, .func (PySem.W.fnOf "_law_mix" "_law_mix" (defArgs s__law_mix) (defBody s__law_mix) (defScope s__law_mix) .none kV33 dc33 pm33 an33 cd33 ct33), sl33⟩) (q33 : PySem.W.codeIn K cd33 "_law_mix" = true) (k33 : PySem.W.keepIn K (.ref f33) = true)
    {f34 : Addr} {od34 an34 : Option Addr} {sl34 : Array (Option Value)} {oc34 kV34 dc34 pm34 cd34 ct34 : Value} (a34 : PySem.W.nsIn K mainGlobals "_law_opposite" = some (some (.ref f34))) (l34 : K.lookup f34 = some ⟨oc34, od34, .func (PySem.W.fnOf "_law_opposite" "_law_opposite" (defArgs s__law_opposite) (defBody s__law_opposite) (defScope s__law_opposite) .none kV34 dc34 pm34 an34 cd34 ct34), sl34⟩) (q34 : PySem.W.codeIn K cd34 "_law_opposite" = true) (k34 : PySem.W.keepIn K (.ref f34) = true)
    {f35 : Addr} {od35 an35 : Option Addr} {sl35 : Array (Option Value)} {oc35 kV35 dc35 pm35 cd35 ct35 : Value} (a35 : PySem.W.nsIn K mainGlobals "_law_two_right" = some (some (.ref f35))) (l35 : K.lookup f35 = some ⟨oc35, od35, .func (PySem.W.fnOf "_law_two_right" "_law_two_right" (defArgs s__law_two_right) (defBody s__law_two_right) (defScope s__law_two_right) .none kV35 dc35 pm35 an35 cd35 ct35), sl35⟩) (q35 : PySem.W.codeIn K cd35 "_law_two_right" = true) (k35 : PySem.W.keepIn K (.ref f35) = true)
    {f36 : Addr} {od36 an36 : Option Addr} {sl36 : Array (Option Value)} {oc36 kV36 dc36 pm36 cd36 ct36 : Value} (a36 : PySem.W.nsIn K mainGlobals "law" = some (some (.ref f36))) (l36 : K.lookup f36 = some ⟨oc36, od36, .func (PySem.W.fnOf "law" "law" (defArgs s_law) (defBody s_law) (defScope s_law) .none kV36 dc36 pm36 an36 cd36 ct36), sl36⟩) (q36 : PySem.W.codeIn K cd36 "law" = true) (k36 : PySem.W.keepIn K (.ref f36) = true)
    (z_len : PySem.W.nsIn K mainGlobals "len" = some none)
    (z_all : PySem.W.nsIn K mainGlobals "all" = some none)
    (z_enumerate : PySem.W.nsIn K mainGlobals "enumerate" = some none)
    (z_zip : PySem.W.nsIn K mainGlobals "zip" = some none)
    (z_range : PySem.W.nsIn K mainGlobals "range" = some none)
    (z_tuple : PySem.W.nsIn K mainGlobals "tuple" = some none)
    (z_sum : PySem.W.nsIn K mainGlobals "sum" = some none)
    (z_sorted : PySem.W.nsIn K mainGlobals "sorted" = some none)
    (z_abs : PySem.W.nsIn K mainGlobals "abs" = some none)
    (z_int : PySem.W.nsIn K mainGlobals "int" = some none)
    (z_min : PySem.W.nsIn K mainGlobals "min" = some none)
    (z_repr : PySem.W.nsIn K mainGlobals "repr" = some none)
    {C_NoFit : Addr}
    (xa_NoFit : PySem.W.nsIn K mainGlobals "NoFit" = some (some (.ref C_NoFit)))
    (xp_NoFit : PySem.W.excIn K C_NoFit [.type "ValueError", .type "Exception", .type "BaseException", .type "object"] "ValueError.__new__" = true)
    (xk_NoFit : PySem.W.keepIn K (.ref C_NoFit) = true)
    (xe_NoFit : PySem.W.subIn K (.ref C_NoFit) (.type "BaseException") = some true)
    (xy_NoFit : PySem.W.typeIn K (.ref C_NoFit) = some (.type "type"))
    {p_NOUGHT : Addr} {t_NOUGHT_0 t_NOUGHT_1 t_NOUGHT_2 t_NOUGHT_3 t_NOUGHT_4 : Tok} {n_NOUGHT : Nat} {s_NOUGHT : Array (Option Value)} (g_NOUGHT : PySem.W.nsIn K mainGlobals "NOUGHT" = some (some (.ref p_NOUGHT))) (h_NOUGHT : K.lookup p_NOUGHT = some ⟨.type "tuple", none, .seq #[.int (0) t_NOUGHT_0, .int (0) t_NOUGHT_1, .int (0) t_NOUGHT_2, .int (0) t_NOUGHT_3, .int (0) t_NOUGHT_4] n_NOUGHT, s_NOUGHT⟩)
    {p_SIGNS : Addr} {t_SIGNS_0 t_SIGNS_1 : Tok} {n_SIGNS : Nat} {s_SIGNS : Array (Option Value)} (g_SIGNS : PySem.W.nsIn K mainGlobals "SIGNS" = some (some (.ref p_SIGNS))) (h_SIGNS : K.lookup p_SIGNS = some ⟨.type "tuple", none, .seq #[.str "iz" t_SIGNS_0, .str "xy" t_SIGNS_1] n_SIGNS, s_SIGNS⟩)
    {oc_not_at : Value} {od_not_at : Option Addr} {vs_not_at : Array Value} {sl_not_at : Array (Option Value)} (hC_not_at : K.lookup cL_not_at = some ⟨oc_not_at, od_not_at, .fields vs_not_at, sl_not_at⟩) (hV_not_at : (vs_not_at[11]? : Option Value) = some (.ref PT_not_at)) (tH_not_at : PySem.W.codeHdIn K cL_not_at PT_not_at = true) (tN_not_at : K.lookup PT_not_at = none)
    {oc_sign_at : Value} {od_sign_at : Option Addr} {vs_sign_at : Array Value} {sl_sign_at : Array (Option Value)} (hC_sign_at : K.lookup cL_sign_at = some ⟨oc_sign_at, od_sign_at, .fields vs_sign_at, sl_sign_at⟩) (hV_sign_at : (vs_sign_at[11]? : Option Value) = some (.ref PT_sign_at)) (tH_sign_at : PySem.W.codeHdIn K cL_sign_at PT_sign_at = true) (tN_sign_at : K.lookup PT_sign_at = none)
    (tD : [PT_not_at, PT_sign_at].Nodup) :
    ∃ (fd : FuncData) (Ms : List Mk3), Ms.map (·.1) = (["not_at", "sign_at"] : List Str) ∧ (∀ m ∈ Ms, PySem.W.tabIn K m.1 = some (m.2.1, m.2.2) ∧ PySem.W.codeHdIn K m.2.1 m.2.2 = true ∧ K.lookup m.2.2 = none) ∧ (∀ (s : Shared) (v : Value), BindsTo s fd ⟨[v], []⟩ [("_law_script", v)]) ∧ ∀ base : Heap, K.In base → base.Ns mainGlobals mg → (∀ m ∈ Ms, LamX.TabB base mg m.2.1 m.2.2) → FnG l.prog w K mg base CX0 6 fa fd ["_law_script"] (spLawN K SLawP Ms) := by
  have oe_Keeper : clsAd K "Keeper" = O_Keeper := by unfold clsAd; rw [ca_Keeper]
  have oc_Keeper : PySem.W.nsIn K mainGlobals "Keeper" = some (some (.ref (clsAd K "Keeper"))) := by rw [oe_Keeper]; exact ca_Keeper
  have ok_Keeper : Cls K (clsAd K "Keeper") := by rw [oe_Keeper]; exact ⟨cp_Keeper, ch_Keeper, co_Keeper, cs_Keeper⟩
  have op_Keeper : ClsP K "Keeper" ["minus", "nots", "signs"] := ⟨O_Keeper, ca_Keeper, ⟨cp_Keeper, ch_Keeper, co_Keeper, cs_Keeper⟩, fun f hf => by simp only [List.mem_cons, List.not_mem_nil, or_false] at hf; rcases hf with rfl | rfl | rfl <;> first | exact cf0_Keeper | exact cf1_Keeper | exact cf2_Keeper⟩
  have T : Txt K mg := ⟨PySem.W.mg_none_of X G z_len, PySem.W.mg_none_of X G z_all, PySem.W.mg_none_of X G z_enumerate, PySem.W.mg_none_of X G z_zip, PySem.W.mg_none_of X G z_range, PySem.W.mg_none_of X G z_tuple, PySem.W.mg_none_of X G z_sum, PySem.W.mg_none_of X G z_sorted, PySem.W.mg_none_of X G z_abs, PySem.W.mg_none_of X G z_int, PySem.W.mg_none_of X G z_min, PySem.W.mg_none_of X G z_repr, glob_tup (xs := [.int (0), .int (0), .int (0), .int (0), .int (0)]) (PySem.W.mg_of X G g_NOUGHT) h_NOUGHT rfl rfl rfl (by simp [sizeLine]) (.cons ⟨_, rfl⟩ (.cons ⟨_, rfl⟩ (.cons ⟨_, rfl⟩ (.cons ⟨_, rfl⟩ (.cons ⟨_, rfl⟩ (.nil)))))) (fun _ => by simp [RepL, Rep]), glob_tup (xs := [.str "iz", .str "xy"]) (PySem.W.mg_of X G g_SIGNS) h_SIGNS rfl rfl rfl (by simp [sizeLine]) (.cons ⟨_, rfl⟩ (.cons ⟨_, rfl⟩ (.nil))) (fun _ => by simp [RepL, Rep]), op_Keeper⟩
  have e := hfa.symm.trans (PySem.W.mg_of X G a36)
  cases e
  have tI_not_at : PySem.W.tabIn K "not_at" = some (cL_not_at, PT_not_at) := by unfold PySem.W.tabIn; simp only [a17, l17, PySem.W.fnOf, hC_not_at, hV_not_at]
  have tI_sign_at : PySem.W.tabIn K "sign_at" = some (cL_sign_at, PT_sign_at) := by unfold PySem.W.tabIn; simp only [a18, l18, PySem.W.fnOf, hC_sign_at, hV_sign_at]
  refine ⟨_, [("not_at", cL_not_at, PT_not_at), ("sign_at", cL_sign_at, PT_sign_at)], rfl, fun m hm => ?_, fun s v => BindsTo.of_eq (fd := PySem.W.fnOf "law" "law" (defArgs s_law) (defBody s_law) (defScope s_law) .none kV36 dc36 pm36 an36 cd36 ct36) rfl, fun base _ _ hTB => ?_⟩
  · simp only [List.mem_cons, List.not_mem_nil, or_false] at hm
    rcases hm with rfl | rfl <;> first | exact ⟨tI_not_at, tH_not_at, tN_not_at⟩ | exact ⟨tI_sign_at, tH_sign_at, tN_sign_at⟩
  have ag : Agr K mg := agr_of X G
  have e_NoFit : clsAd K "NoFit" = C_NoFit := by unfold clsAd; rw [xa_NoFit]
  have y_NoFit : XclP K "NoFit" := ⟨by rw [e_NoFit]; exact xa_NoFit, ⟨_, _, _, _, PySem.F.excBase_ValueError, by rw [e_NoFit]; exact xp_NoFit⟩, by rw [e_NoFit]; exact xk_NoFit, by rw [e_NoFit]; exact xe_NoFit, by rw [e_NoFit]; exact xy_NoFit⟩
  have F_can_be_less := fun_mk (st := s_can_be_less) l0 q0 k0
  have c_can_be_less : Cal l.prog w K mg base "can_be_less" ["a", "b", "c", "d"] 1 S_can_be_less := ⟨_, _, ok_can_be_less F_can_be_less T, PySem.W.mg_of X G a0, k0, F_can_be_less.binds fun _ _ _ _ _ _ us hl => match us, hl with | [_, _, _, _], _ => rfl, ar_can_be_less⟩
  have F_lowest := fun_mk (st := s_lowest) l1 q1 k1
  have c_lowest : Cal l.prog w K mg base "lowest" ["a", "b", "c", "d", "k"] 2 S_lowest := ⟨_, _, ok_lowest F_lowest T c_can_be_less, PySem.W.mg_of X G a1, k1, F_lowest.binds fun _ _ _ _ _ _ us hl => match us, hl with | [_, _, _, _, _], _ => rfl, ar_lowest⟩
  have F_times := fun_mk (st := s_times) l2 q2 k2
  have c_times : Cal l.prog w K mg base "times" ["one", "other"] 3 S_times := ⟨_, _, ok_times F_times T c_lowest, PySem.W.mg_of X G a2, k2, F_times.binds fun _ _ _ _ _ _ us hl => match us, hl with | [_, _], _ => rfl, ar_times⟩
  have F_root := fun_mk (st := s_root) l3 q3 k3
  have c_root : Cal l.prog w K mg base "root" ["j"] 1 S_root := ⟨_, _, ok_root F_root T, PySem.W.mg_of X G a3, k3, F_root.binds fun _ _ _ _ _ _ us hl => match us, hl with | [_], _ => rfl, ar_root⟩
  have F_is_short_gate := fun_mk (st := s_is_short_gate) l4 q4 k4
  have c_is_short_gate : Cal l.prog w K mg base "is_short_gate" ["gate"] 1 S_is_short_gate := ⟨_, _, ok_is_short_gate F_is_short_gate T, PySem.W.mg_of X G a4, k4, F_is_short_gate.binds fun _ _ _ _ _ _ us hl => match us, hl with | [_], _ => rfl, ar_is_short_gate⟩
  have F_is_short := fun_mk (st := s_is_short) l5 q5 k5
  have c_is_short : Cal l.prog w K mg base "is_short" ["circuit"] 2 S_is_short := ⟨_, _, ok_is_short F_is_short T c_is_short_gate, PySem.W.mg_of X G a5, k5, F_is_short.binds fun _ _ _ _ _ _ us hl => match us, hl with | [_], _ => rfl, ar_is_short⟩
  have F_Keeper___init__ := fun_mk (st := s_Keeper___init__) l6 q6 k6
  have c_Keeper___init__ : CalI l.prog w K mg base "Keeper" ["self", "many", "wire", "minus"] 1 S_Keeper___init__ := ⟨oc_Keeper, by rw [oe_Keeper]; exact PySem.W.mg_of X G ca_Keeper, _, _, by rw [oe_Keeper]; exact ⟨cm_Keeper, a6, i6, ck_Keeper⟩, ok_Keeper___init__ F_Keeper___init__ T, F_Keeper___init__.binds fun _ _ _ _ _ _ us hl => match us, hl with | [_, _, _, _], _ => rfl, ar_Keeper___init__⟩
  have F_Keeper_after_half := fun_mk (st := s_Keeper_after_half) l7 q7 k7
  have m_Keeper_after_half : Meth K (clsAd K "Keeper") "after_half" f7 := by rw [oe_Keeper]; exact ⟨a7, i7, k7⟩
  have b_Keeper_after_half : Binds K _ ["self", "wire"] [] := F_Keeper_after_half.binds fun _ _ _ _ _ _ us hl => match us, hl with | [_, _], _ => rfl
  have c_Keeper_after_half : CalM l.prog w K mg base "Keeper" "after_half" ["self", "wire"] 1 S_Keeper_after_half := ⟨oc_Keeper, ok_Keeper, _, _, m_Keeper_after_half, ok_Keeper_after_half F_Keeper_after_half T, b_Keeper_after_half, ar_Keeper_after_half⟩
  have F_Keeper_after_turn := fun_mk (st := s_Keeper_after_turn) l8 q8 k8
  have m_Keeper_after_turn : Meth K (clsAd K "Keeper") "after_turn" f8 := by rw [oe_Keeper]; exact ⟨a8, i8, k8⟩
  have b_Keeper_after_turn : Binds K _ ["self", "j", "wire"] [] := F_Keeper_after_turn.binds fun _ _ _ _ _ _ us hl => match us, hl with | [_, _, _], _ => rfl
  have c_Keeper_after_turn : CalM l.prog w K mg base "Keeper" "after_turn" ["self", "j", "wire"] 1 S_Keeper_after_turn := ⟨oc_Keeper, ok_Keeper, _, _, m_Keeper_after_turn, ok_Keeper_after_turn F_Keeper_after_turn T, b_Keeper_after_turn, ar_Keeper_after_turn⟩
  have F_Keeper_after_not := fun_mk (st := s_Keeper_after_not) l9 q9 k9
  have m_Keeper_after_not : Meth K (clsAd K "Keeper") "after_not" f9 := by rw [oe_Keeper]; exact ⟨a9, i9, k9⟩
  have b_Keeper_after_not : Binds K _ ["self", "controls", "wire"] [] := F_Keeper_after_not.binds fun _ _ _ _ _ _ us hl => match us, hl with | [_, _, _], _ => rfl
  have c_Keeper_after_not : CalM l.prog w K mg base "Keeper" "after_not" ["self", "controls", "wire"] 1 S_Keeper_after_not := ⟨oc_Keeper, ok_Keeper, _, _, m_Keeper_after_not, ok_Keeper_after_not F_Keeper_after_not T, b_Keeper_after_not, ar_Keeper_after_not⟩
  have F_Keeper_after_cross := fun_mk (st := s_Keeper_after_cross) l10 q10 k10
  have m_Keeper_after_cross : Meth K (clsAd K "Keeper") "after_cross" f10 := by rw [oe_Keeper]; exact ⟨a10, i10, k10⟩
  have b_Keeper_after_cross : Binds K _ ["self", "other", "wire"] [] := F_Keeper_after_cross.binds fun _ _ _ _ _ _ us hl => match us, hl with | [_, _, _], _ => rfl
  have c_Keeper_after_cross : CalM l.prog w K mg base "Keeper" "after_cross" ["self", "other", "wire"] 1 S_Keeper_after_cross := ⟨oc_Keeper, ok_Keeper, _, _, m_Keeper_after_cross, ok_Keeper_after_cross F_Keeper_after_cross T, b_Keeper_after_cross, ar_Keeper_after_cross⟩
  have F_Keeper_after := fun_mk (st := s_Keeper_after) l11 q11 k11
  have m_Keeper_after : Meth K (clsAd K "Keeper") "after" f11 := by rw [oe_Keeper]; exact ⟨a11, i11, k11⟩
  have b_Keeper_after : Binds K _ ["self", "gate"] [] := F_Keeper_after.binds fun _ _ _ _ _ _ us hl => match us, hl with | [_, _], _ => rfl
  have c_Keeper_after : CalM l.prog w K mg base "Keeper" "after" ["self", "gate"] 2 S_Keeper_after := ⟨oc_Keeper, ok_Keeper, _, _, m_Keeper_after, ok_Keeper_after F_Keeper_after T c_Keeper_after_half c_Keeper_after_turn c_Keeper_after_not c_Keeper_after_cross, b_Keeper_after, ar_Keeper_after⟩
  have F_Keeper_quarters_with := fun_mk (st := s_Keeper_quarters_with) l12 q12 k12
  have m_Keeper_quarters_with : Meth K (clsAd K "Keeper") "quarters_with" f12 := by rw [oe_Keeper]; exact ⟨a12, i12, k12⟩
  have b_Keeper_quarters_with : Binds K _ ["self", "other"] [] := F_Keeper_quarters_with.binds fun _ _ _ _ _ _ us hl => match us, hl with | [_, _], _ => rfl
  have c_Keeper_quarters_with : CalM l.prog w K mg base "Keeper" "quarters_with" ["self", "other"] 1 S_Keeper_quarters_with := ⟨oc_Keeper, ok_Keeper, _, _, m_Keeper_quarters_with, ok_Keeper_quarters_with F_Keeper_quarters_with T, b_Keeper_quarters_with, ar_Keeper_quarters_with⟩
  have F_Keeper_take_in := fun_mk (st := s_Keeper_take_in) l13 q13 k13
  have m_Keeper_take_in : Meth K (clsAd K "Keeper") "take_in" f13 := by rw [oe_Keeper]; exact ⟨a13, i13, k13⟩
  have b_Keeper_take_in : Binds K _ ["self", "other"] [] := F_Keeper_take_in.binds fun _ _ _ _ _ _ us hl => match us, hl with | [_, _], _ => rfl
  have c_Keeper_take_in : CalM l.prog w K mg base "Keeper" "take_in" ["self", "other"] 2 S_Keeper_take_in := ⟨oc_Keeper, ok_Keeper, _, _, m_Keeper_take_in, ok_Keeper_take_in F_Keeper_take_in T c_Keeper_quarters_with, b_Keeper_take_in, ar_Keeper_take_in⟩
  have F_Keeper_letters := fun_mk (st := s_Keeper_letters) l14 q14 k14
  have m_Keeper_letters : Meth K (clsAd K "Keeper") "letters" f14 := by rw [oe_Keeper]; exact ⟨a14, i14, k14⟩
  have b_Keeper_letters : Binds K _ ["self"] [] := F_Keeper_letters.binds fun _ _ _ _ _ _ us hl => match us, hl with | [_], _ => rfl
  have c_Keeper_letters : CalM l.prog w K mg base "Keeper" "letters" ["self"] 1 S_Keeper_letters := ⟨oc_Keeper, ok_Keeper, _, _, m_Keeper_letters, ok_Keeper_letters F_Keeper_letters T, b_Keeper_letters, ar_Keeper_letters⟩
  have F_keepers_behind := fun_mk (st := s_keepers_behind) l15 q15 k15
  have c_keepers_behind : Cal l.prog w K mg base "keepers_behind" ["circuit", "row"] 3 S_keepers_behind := ⟨_, _, ok_keepers_behind F_keepers_behind T c_Keeper___init__ c_Keeper_after, PySem.W.mg_of X G a15, k15, F_keepers_behind.binds fun _ _ _ _ _ _ us hl => match us, hl with | [_, _], _ => rfl, ar_keepers_behind⟩
  have F_swept := fun_mk (st := s_swept) l16 q16 k16
  have c_swept : Cal l.prog w K mg base "swept" ["keepers", "begin", "columns"] 3 S_swept := ⟨_, _, ok_swept F_swept T c_Keeper_take_in, PySem.W.mg_of X G a16, k16, F_swept.binds fun _ _ _ _ _ _ us hl => match us, hl with | [_, _, _], _ => rfl, ar_swept⟩
  have F_not_at := fun_mk (st := s_not_at) l17 q17 k17
  have c_not_at : Cal l.prog w K mg base "not_at" ["wire"] 1 S_not_at := ⟨_, _, fn_maker (k := 0) (F := "nots") (p := ⟨124, 18, 124, 24⟩) (p1 := ⟨124, 26, 124, 32⟩) (p2 := ⟨124, 26, 124, 37⟩) (p3 := ⟨124, 38, 124, 42⟩) (p4 := ⟨124, 26, 124, 43⟩) (p5 := ⟨124, 11, 124, 43⟩) (p6 := ⟨124, 4, 124, 43⟩) l17 q17 tI_not_at (hTB ("not_at", cL_not_at, PT_not_at) (by simp)), PySem.W.mg_of X G a17, k17, F_not_at.binds fun _ _ _ _ _ _ us hl => match us, hl with | [_], _ => rfl, ar_not_at⟩
  have F_sign_at := fun_mk (st := s_sign_at) l18 q18 k18
  have c_sign_at : Cal l.prog w K mg base "sign_at" ["wire"] 1 S_sign_at := ⟨_, _, fn_maker (k := 0) (F := "signs") (p := ⟨126, 18, 126, 24⟩) (p1 := ⟨126, 26, 126, 32⟩) (p2 := ⟨126, 26, 126, 38⟩) (p3 := ⟨126, 39, 126, 43⟩) (p4 := ⟨126, 26, 126, 44⟩) (p5 := ⟨126, 11, 126, 44⟩) (p6 := ⟨126, 4, 126, 44⟩) l18 q18 tI_sign_at (hTB ("sign_at", cL_sign_at, PT_sign_at) (by simp)), PySem.W.mg_of X G a18, k18, F_sign_at.binds fun _ _ _ _ _ _ us hl => match us, hl with | [_], _ => rfl, ar_sign_at⟩
  have F_put_in_order := fun_mk (st := s_put_in_order) l19 q19 k19
  have c_put_in_order : Cal l.prog w K mg base "put_in_order" ["keepers", "many"] 4 S_put_in_order := ⟨_, _, ok_put_in_order F_put_in_order T c_swept c_not_at c_sign_at, PySem.W.mg_of X G a19, k19, F_put_in_order.binds fun _ _ _ _ _ _ us hl => match us, hl with | [_, _], _ => rfl, ar_put_in_order⟩
  have F_look_short := fun_mk (st := s_look_short) l20 q20 k20
  have x_look_short : CalX l.prog w K mg base "look_short" ["circuit"] 3 S_look_short := ⟨⟨_, _, ok_look_short F_look_short T c_is_short y_NoFit ag, PySem.W.mg_of X G a20, k20, F_look_short.binds fun _ _ _ _ _ _ us hl => match us, hl with | [_], _ => rfl⟩, arX_look_short⟩
  have F_letters_of := fun_mk (st := s_letters_of) l21 q21 k21
  have x_letters_of : CalX l.prog w K mg base "letters_of" ["circuit", "row"] 5 S_letters_of := ⟨⟨_, _, ok_letters_of F_letters_of T c_keepers_behind c_put_in_order c_Keeper_letters x_look_short, PySem.W.mg_of X G a21, k21, F_letters_of.binds fun _ _ _ _ _ _ us hl => match us, hl with | [_, _], _ => rfl⟩, arX_letters_of⟩
  have F_done_to := fun_mk (st := s_done_to) l22 q22 k22
  have c_done_to : Cal l.prog w K mg base "done_to" ["letters", "mix"] 4 S_done_to := ⟨_, _, ok_done_to F_done_to T c_times c_root, PySem.W.mg_of X G a22, k22, F_done_to.binds fun _ _ _ _ _ _ us hl => match us, hl with | [_, _], _ => rfl, ar_done_to⟩
  have F__law_hand := fun_mk (st := s__law_hand) l23 q23 k23
  have c__law_hand : Cal l.prog w K mg base "_law_hand" ["_law_script", "_law_k"] 1 S__law_hand := ⟨_, _, ok__law_hand F__law_hand T, PySem.W.mg_of X G a23, k23, F__law_hand.binds fun _ _ _ _ _ _ us hl => match us, hl with | [_, _], _ => rfl, ar__law_hand⟩
  have F__law_take := fun_mk (st := s__law_take) l24 q24 k24
  have c__law_take : Cal l.prog w K mg base "_law_take" ["_law_hand_here", "_law_many"] 1 S__law_take := ⟨_, _, ok__law_take F__law_take T, PySem.W.mg_of X G a24, k24, F__law_take.binds fun _ _ _ _ _ _ us hl => match us, hl with | [_, _], _ => rfl, ar__law_take⟩
  have F__law_pick := fun_mk (st := s__law_pick) l25 q25 k25
  have c__law_pick : Cal l.prog w K mg base "_law_pick" ["_law_hand_here", "_law_some"] 2 S__law_pick := ⟨_, _, ok__law_pick F__law_pick T c__law_take, PySem.W.mg_of X G a25, k25, F__law_pick.binds fun _ _ _ _ _ _ us hl => match us, hl with | [_, _], _ => rfl, ar__law_pick⟩
  have F__law_controls := fun_mk (st := s__law_controls) l26 q26 k26
  have c__law_controls : Cal l.prog w K mg base "_law_controls" ["_law_hand_here", "_law_many", "_law_wire", "_law_most"] 2 S__law_controls := ⟨_, _, ok__law_controls F__law_controls T c__law_take, PySem.W.mg_of X G a26, k26, F__law_controls.binds fun _ _ _ _ _ _ us hl => match us, hl with | [_, _, _, _], _ => rfl, ar__law_controls⟩
  have F__law_short_gate := fun_mk (st := s__law_short_gate) l27 q27 k27
  have c__law_short_gate : Cal l.prog w K mg base "_law_short_gate" ["_law_hand_here", "_law_many"] 3 S__law_short_gate := ⟨_, _, ok__law_short_gate F__law_short_gate T c__law_take c__law_pick c__law_controls, PySem.W.mg_of X G a27, k27, F__law_short_gate.binds fun _ _ _ _ _ _ us hl => match us, hl with | [_, _], _ => rfl, ar__law_short_gate⟩
  have F__law_short := fun_mk (st := s__law_short) l28 q28 k28
  have c__law_short : Cal l.prog w K mg base "_law_short" ["_law_hand_here", "_law_many", "_law_size"] 4 S__law_short := ⟨_, _, ok__law_short F__law_short T c__law_short_gate, PySem.W.mg_of X G a28, k28, F__law_short.binds fun _ _ _ _ _ _ us hl => match us, hl with | [_, _, _], _ => rfl, ar__law_short⟩
  have F__law_bits := fun_mk (st := s__law_bits) l29 q29 k29
  have c__law_bits : Cal l.prog w K mg base "_law_bits" ["_law_hand_here", "_law_many"] 2 S__law_bits := ⟨_, _, ok__law_bits F__law_bits T c__law_take, PySem.W.mg_of X G a29, k29, F__law_bits.binds fun _ _ _ _ _ _ us hl => match us, hl with | [_, _], _ => rfl, ar__law_bits⟩
  have F__law_by_root := fun_mk (st := s__law_by_root) l30 q30 k30
  have c__law_by_root : Cal l.prog w K mg base "_law_by_root" ["_law_number"] 1 S__law_by_root := ⟨_, _, ok__law_by_root F__law_by_root T, PySem.W.mg_of X G a30, k30, F__law_by_root.binds fun _ _ _ _ _ _ us hl => match us, hl with | [_], _ => rfl, ar__law_by_root⟩
  have F__law_done := fun_mk (st := s__law_done) l31 q31 k31
  have c__law_done : Cal l.prog w K mg base "_law_done" ["_law_letters_here", "_law_mix_here"] 2 S__law_done := ⟨_, _, ok__law_done F__law_done T c__law_by_root, PySem.W.mg_of X G a31, k31, F__law_done.binds fun _ _ _ _ _ _ us hl => match us, hl with | [_, _], _ => rfl, ar__law_done⟩
  have F__law_letters := fun_mk (st := s__law_letters) l32 q32 k32
  have c__law_letters : Cal l.prog w K mg base "_law_letters" ["_law_hand_here", "_law_many"] 3 S__law_letters := ⟨_, _, ok__law_letters F__law_letters T c__law_pick, PySem.W.mg_of X G a32, k32, F__law_letters.binds fun _ _ _ _ _ _ us hl => match us, hl with | [_, _], _ => rfl, ar__law_letters⟩
  have F__law_mix := fun_mk (st := s__law_mix) l33 q33 k33
  have c__law_mix : Cal l.prog w K mg base "_law_mix" ["_law_hand_here", "_law_many"] 3 S__law_mix := ⟨_, _, ok__law_mix F__law_mix T c__law_take c_lowest c__law_bits, PySem.W.mg_of X G a33, k33, F__law_mix.binds fun _ _ _ _ _ _ us hl => match us, hl with | [_, _], _ => rfl, ar__law_mix⟩
  have F__law_opposite := fun_mk (st := s__law_opposite) l34 q34 k34
  have c__law_opposite : Cal l.prog w K mg base "_law_opposite" ["_law_mix_here"] 1 S__law_opposite := ⟨_, _, ok__law_opposite F__law_opposite T, PySem.W.mg_of X G a34, k34, F__law_opposite.binds fun _ _ _ _ _ _ us hl => match us, hl with | [_], _ => rfl, ar__law_opposite⟩
  have F__law_two_right := fun_mk (st := s__law_two_right) l35 q35 k35
  have c__law_two_right : Cal l.prog w K mg base "_law_two_right" ["_law_one", "_law_other", "_law_mix_here"] 5 S__law_two_right := ⟨_, _, ok__law_two_right F__law_two_right T c_done_to c__law_opposite, PySem.W.mg_of X G a35, k35, F__law_two_right.binds fun _ _ _ _ _ _ us hl => match us, hl with | [_, _, _], _ => rfl, ar__law_two_right⟩
  exact law_fnN tD (fun m hm => by simp only [List.mem_cons, List.not_mem_nil, or_false] at hm; rcases hm with rfl | rfl <;> first | exact TabAt.of tI_not_at | exact TabAt.of tI_sign_at) ((ok_law (fun_mk (st := s_law) l36 q36 k36) T c__law_hand c__law_take c__law_short c__law_letters c__law_pick c__law_bits c__law_mix c_done_to c__law_done c__law_two_right x_letters_of).impA fun ds M Q h => ⟨[("not_at", cL_not_at, PT_not_at), ("sign_at", cL_sign_at, PT_sign_at)], rfl, tD, h⟩)
theorem walk {l : PySem.W.OpenLaw} {q : Program} {loose : List Str} {XP : (Str → Option Value) → Heap → Prop} {YP : World → Heap → Prop} {d : DefRec} {K : Params → PySem.W.Frag} (hn : l.most = some 63) (hdf : d.params.defaults = [])
    (hY : ∀ (w : World) (h : Heap), YP w h → (K w.params).In h)
    (isD : ∀ y ∈ (["not_at", "sign_at"] : List Str), ∃ r, (recsOf q).find? (fun e => e.name == y) = some r)
    (F : ∀ (w : World) (mg : Str → Option Value) (fa : Addr) (h : Heap), (K w.params).In h → h.Ns mainGlobals mg → mg d.name = some (.ref fa) → ∃ (fd : FuncData) (Ms : List Mk3), Ms.map (·.1) = (["not_at", "sign_at"] : List Str) ∧ (∀ m ∈ Ms, PySem.W.tabIn (K w.params) m.1 = some (m.2.1, m.2.2) ∧ PySem.W.codeHdIn (K w.params) m.2.1 m.2.2 = true ∧ (K w.params).lookup m.2.2 = none) ∧ (∀ (s : Shared) (u : Value), BindsTo s fd ⟨[u], []⟩ [("_law_script", u)]) ∧
      ∀ base : Heap, (K w.params).In base → base.Ns mainGlobals mg → (∀ m ∈ Ms, LamX.TabB base mg m.2.1 m.2.2) → FnG l.prog w (K w.params) mg base CX0 6 fa fd ["_law_script"] (spLawN (K w.params) SLawP Ms)) : PySem.W.WalkO q loose XP YP l.row.toRowW d [] (fun f vs => PySem.call f vs) :=
  law_walkN (n := 63) (k := 6) hn (by decide) hdf ⟨rfl, by decide, by decide⟩ hY isD F sLawP_all
end Law
open PySem PySem.W PyProof.Rows in
set_option maxRecDepth 100000 in
set_option maxHeartbeats 0 in
theorem PySem.Challenge.cw_gatewaves_k67_what_letters_do_holds : PySem.Challenge.rw_gatewaves_k67_what_letters_do.Holds := by
  w_on; o_law; k_head; (case hw => w_witness2)
  k_fill
  refine Law.walk (l := PySem.Challenge.rw_gatewaves_k67_what_letters_do) rfl rfl (fun w h Y => PySem.W.km_in_of Y) ?isD ?F
  (case isD => intro y hy; simp only [List.mem_cons, List.not_mem_nil, or_false] at hy; rcases hy with rfl | rfl <;> exact ⟨_, by first | rfl | kernel_rfl⟩)
  case F =>
    intro w mg fa h KX G hmg
    refine' Law.all_mk KX G hmg ?ca_Keeper ?cp_Keeper ?ch_Keeper ?co_Keeper ?cs_Keeper ?cm_Keeper ?ck_Keeper ?cf0_Keeper ?cf1_Keeper ?cf2_Keeper ?a0 ?l0 ?q0 ?k0 ?a1 ?l1 ?q1 ?k1 ?a2 ?l2 ?q2 ?k2 ?a3 ?l3 ?q3 ?k3 ?a4 ?l4 ?q4 ?k4 ?a5 ?l5 ?q5 ?k5 ?a6 ?i6 ?l6 ?q6 ?k6 ?a7 ?i7 ?l7 ?q7 ?k7 ?a8 ?i8 ?l8 ?q8 ?k8 ?a9 ?i9 ?l9 ?q9 ?k9 ?a10 ?i10 ?l10 ?q10 ?k10 ?a11 ?i11 ?l11 ?q11 ?k11 ?a12 ?i12 ?l12 ?q12 ?k12 ?a13 ?i13 ?l13 ?q13 ?k13 ?a14 ?i14 ?l14 ?q14 ?k14 ?a15 ?l15 ?q15 ?k15 ?a16 ?l16 ?q16 ?k16 ?a17 ?l17 ?q17 ?k17 ?a18 ?l18 ?q18 ?k18 ?a19 ?l19 ?q19 ?k19 ?a20 ?l20 ?q20 ?k20 ?a21 ?l21 ?q21 ?k21 ?a22 ?l22 ?q22 ?k22 ?a23 ?l23 ?q23 ?k23 ?a24 ?l24 ?q24 ?k24 ?a25 ?l25 ?q25 ?k25 ?a26 ?l26 ?q26 ?k26 ?a27 ?l27 ?q27 ?k27 ?a28 ?l28 ?q28 ?k28 ?a29 ?l29 ?q29 ?k29 ?a30 ?l30 ?q30 ?k30 ?a31 ?l31 ?q31 ?k31 ?a32 ?l32 ?q32 ?k32 ?a33 ?l33 ?q33 ?k33 ?a34 ?l34 ?q34 ?k34 ?a35 ?l35 ?q35 ?k35 ?a36 ?l36 ?q36 ?k36 ?z_len ?z_all ?z_enumerate ?z_zip ?z_range ?z_tuple ?z_sum ?z_sorted ?z_abs ?z_int ?z_min ?z_repr ?xa_NoFit ?xp_NoFit ?xk_NoFit ?xe_NoFit ?xy_NoFit ?g_NOUGHT ?h_NOUGHT ?g_SIGNS ?h_SIGNS ?hC_not_at ?hV_not_at ?tH_not_at ?tN_not_at ?hC_sign_at ?hV_sign_at ?tH_sign_at ?tN_sign_at ?tD
    (case ca_Keeper => k_is)
    (case cp_Keeper => k_is)
    (case ch_Keeper => k_is)
    (case co_Keeper => k_is)
    (case cs_Keeper => k_is)
    (case cm_Keeper => k_is)
    (case ck_Keeper => k_is)
    (case cf0_Keeper => k_is)
    (case cf1_Keeper => k_is)
    (case cf2_Keeper => k_is)
    (case a0 => k_is)
    (case l0 => k_is)
    (case q0 => k_is)
    (case k0 => k_is)
    (case a1 => k_is)
    (case l1 => k_is)
    (case q1 => k_is)
    (case k1 => k_is)
    (case a2 => k_is)
    (case l2 => k_is)
    (case q2 => k_is)
    (case k2 => k_is)
    (case a3 => k_is)
    (case l3 => k_is)
    (case q3 => k_is)
    (case k3 => k_is)
    (case a4 => k_is)
    (case l4 => k_is)
    (case q4 => k_is)
    (case k4 => k_is)
    (case a5 => k_is)
    (case l5 => k_is)
    (case q5 => k_is)
    (case k5 => k_is)
    (case a6 => k_is)
    (case i6 => k_is)
    (case l6 => k_is)
    (case q6 => k_is)
    (case k6 => k_is)
    (case a7 => k_is)
    (case i7 => k_is)
    (case l7 => k_is)
    (case q7 => k_is)
    (case k7 => k_is)
    (case a8 => k_is)
    (case i8 => k_is)
    (case l8 => k_is)
    (case q8 => k_is)
    (case k8 => k_is)
    (case a9 => k_is)
    (case i9 => k_is)
    (case l9 => k_is)
    (case q9 => k_is)
    (case k9 => k_is)
    (case a10 => k_is)
    (case i10 => k_is)
    (case l10 => k_is)
    (case q10 => k_is)
    (case k10 => k_is)
    (case a11 => k_is)
    (case i11 => k_is)
    (case l11 => k_is)
    (case q11 => k_is)
    (case k11 => k_is)
    (case a12 => k_is)
    (case i12 => k_is)
    (case l12 => k_is)
    (case q12 => k_is)
    (case k12 => k_is)
    (case a13 => k_is)
    (case i13 => k_is)
    (case l13 => k_is)
    (case q13 => k_is)
    (case k13 => k_is)
    (case a14 => k_is)
    (case i14 => k_is)
    (case l14 => k_is)
    (case q14 => k_is)
    (case k14 => k_is)
    (case a15 => k_is)
    (case l15 => k_is)
    (case q15 => k_is)
    (case k15 => k_is)
    (case a16 => k_is)
    (case l16 => k_is)
    (case q16 => k_is)
    (case k16 => k_is)
    (case a17 => k_is)
    (case l17 => k_is)
    (case q17 => k_is)
    (case k17 => k_is)
    (case a18 => k_is)
    (case l18 => k_is)
    (case q18 => k_is)
    (case k18 => k_is)
    (case a19 => k_is)
    (case l19 => k_is)
    (case q19 => k_is)
    (case k19 => k_is)
    (case a20 => k_is)
    (case l20 => k_is)
    (case q20 => k_is)
    (case k20 => k_is)
    (case a21 => k_is)
    (case l21 => k_is)
    (case q21 => k_is)
    (case k21 => k_is)
    (case a22 => k_is)
    (case l22 => k_is)
    (case q22 => k_is)
    (case k22 => k_is)
    (case a23 => k_is)
    (case l23 => k_is)
    (case q23 => k_is)
    (case k23 => k_is)
    (case a24 => k_is)
    (case l24 => k_is)
    (case q24 => k_is)
    (case k24 => k_is)
    (case a25 => k_is)
    (case l25 => k_is)
    (case q25 => k_is)
    (case k25 => k_is)
    (case a26 => k_is)
    (case l26 => k_is)
    (case q26 => k_is)
    (case k26 => k_is)
    (case a27 => k_is)
    (case l27 => k_is)
    (case q27 => k_is)
    (case k27 => k_is)
    (case a28 => k_is)
    (case l28 => k_is)
    (case q28 => k_is)
    (case k28 => k_is)
    (case a29 => k_is)
    (case l29 => k_is)
    (case q29 => k_is)
    (case k29 => k_is)
    (case a30 => k_is)
    (case l30 => k_is)
    (case q30 => k_is)
    (case k30 => k_is)
    (case a31 => k_is)
    (case l31 => k_is)
    (case q31 => k_is)
    (case k31 => k_is)
    (case a32 => k_is)
    (case l32 => k_is)
    (case q32 => k_is)
    (case k32 => k_is)
    (case a33 => k_is)
    (case l33 => k_is)
    (case q33 => k_is)
    (case k33 => k_is)
    (case a34 => k_is)
    (case l34 => k_is)
    (case q34 => k_is)
    (case k34 => k_is)
    (case a35 => k_is)
    (case l35 => k_is)
    (case q35 => k_is)
    (case k35 => k_is)
    (case a36 => k_is)
    (case l36 => k_is)
    (case q36 => k_is)
    (case k36 => k_is)
    (case z_len => k_is)
    (case z_all => k_is)
    (case z_enumerate => k_is)
    (case z_zip => k_is)
    (case z_range => k_is)
    (case z_tuple => k_is)
    (case z_sum => k_is)
    (case z_sorted => k_is)
    (case z_abs => k_is)
    (case z_int => k_is)
    (case z_min => k_is)
    (case z_repr => k_is)
    (case xa_NoFit => k_is)
    (case xp_NoFit => kernel_rfl)
    (case xk_NoFit => k_is)
    (case xe_NoFit => k_is)
    (case xy_NoFit => k_is)
    (case g_NOUGHT => k_is)
    (case h_NOUGHT => k_is)
    (case g_SIGNS => k_is)
    (case h_SIGNS => k_is)
    (case hC_not_at => k_is)
    (case hV_not_at => rfl)
    (case tH_not_at => kernel_rfl)
    (case tN_not_at => kernel_rfl)
    (case hC_sign_at => k_is)
    (case hV_sign_at => rfl)
    (case tH_sign_at => kernel_rfl)
    (case tN_sign_at => kernel_rfl)
    (case tD => decide)
