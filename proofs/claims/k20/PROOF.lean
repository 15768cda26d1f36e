import PyProof.Rows.All
import Wide.All
import OpenK.AllK
import Wide.FinOn
import HandS.Base
import HandS.Call
import HandS.List
import HandS.Comp
import HandS.Ends
import HandS.Dict
import HandS.Iter
import HandS.Text
import HandS.Words
import HandS.Exc
import HandS.ExcOwn
import HandS.HeadHook1
import KE.KDictKeyed
import HandS.CallSlots
import HandS.Zip
import HandS.WordsExc
import HandS.Wide
import HandS.TupAny
import HandS.Deep
import HandS.IsInst
import HandS.Conv
import HandS.StrMore
import HandS.RaiseMore
import PyProof.ReprReads
import PyProof.ReprRoads
import PyProof.Rows.StrOr
import PyProof.FitsBits
import PyProof.ReprLen
import PyProof.FitsInt
import HandS.ExcIs
import PyProof.ExcBaseAll.ValueError
import KE.DataFind
import KE.DataEq
import HandS.SortInts
import PyProof.ListStr
import PyProof.StrOps2
import KE.SortData
import KE.GoesNew
import KE.GoesMore
import KE.GoesEnum
import KE.GoesZip
import KE.KDictSum
import KE.KDictCopyH
import HandS.Style
import PySem.Challenge.RW_sentback_k20_closed_classes
set_option Elab.async false
set_option linter.all false
set_option maxRecDepth 100000
/-! D: a layer of data over the hand layer. Values are trees; what may change is an entry of a store. -/
namespace DL
open PySem PySem.Spec PyProof.Rows L2

/-- a value: a tree that never changes, an entry of the store, a tuple of such -/
inductive DV where
  | sh (d : PyData)
  | own (k : Nat)
  | tup (xs : List DV)
/-- what an entry of the store is -/
inductive Ent where
  | lst (xs : List DV)
  | dK (kvs : List (Key × DV))
  | dT (kvs : List (NestedKey × DV))
  | ins (C : Addr) (fs : List (Str × DV))
  | exc (nm : Str) (fs : List (Str × DV))
  | fK (kvs : List (Key × DV))
  | fT (kvs : List (NestedKey × DV))
  | drw (q : Nat)
  | frz (d : PyData)
  | gone
abbrev Store := List Ent
abbrev DEnv := List (Option DV)
def Ent.live : Ent → Bool
  | .frz _ => false
  | .fK _ => false
  | .fT _ => false
  | .gone => false
  | _ => true

mutual
inductive VR (K : PySem.W.Frag) (S : Hp) (ad : List Addr) : V → DV → Prop
  | sh {v : V} {d : PyData} : Dp K S v d → VR K S ad v (.sh d)
  | own {k : Nat} {a : Addr} : ad[k]? = some a → VR K S ad (.ref a) (.own k)
  | tup {a : Addr} {vs : List V} {xs : List DV} : SqT K S a vs → VRs K S ad vs xs → VR K S ad (.ref a) (.tup xs)
inductive VRs (K : PySem.W.Frag) (S : Hp) (ad : List Addr) : List V → List DV → Prop
  | nil : VRs K S ad [] []
  | cons {v : V} {vs : List V} {x : DV} {xs : List DV} : VR K S ad v x → VRs K S ad vs xs → VRs K S ad (v :: vs) (x :: xs)
end
def Ext (S S' : Hp) : Prop := ∀ a o, S a = some o → S' a = some o
def Pfx (ad ad' : List Addr) : Prop := ∀ (k : Nat) (a : Addr), ad[k]? = some a → ad'[k]? = some a
theorem Ext.refl (S : Hp) : Ext S S := fun _ _ h => h
theorem Ext.trans {S S1 S2 : Hp} (a : Ext S S1) (b : Ext S1 S2) : Ext S S2 := fun x o h => b x o (a x o h)
theorem Pfx.refl (l : List Addr) : Pfx l l := fun _ _ h => h
theorem Pfx.trans {a b c : List Addr} (h : Pfx a b) (g : Pfx b c) : Pfx a c := fun k x e => g k x (h k x e)
theorem Pfx.app (l r : List Addr) : Pfx l (l ++ r) := fun k a h => by
  have hk : k < l.length := (List.getElem?_eq_some_iff.mp h).1
  rw [List.getElem?_append_left hk]; exact h
section
variable {K : PySem.W.Frag} {S S' H H' : Hp} {ad ad' : List Addr}
theorem rd_ext (e : Ext S S') {a : Addr} {u : HO} (h : Rd S a u) : Rd S' a u := by
  rcases h with h | ⟨o, h⟩
  · exact .inl (e _ _ h)
  · exact .inr ⟨o, e _ _ h⟩
theorem sql_ext (e : Ext S S') {a : Addr} {xs : List V} (h : SqL K S a xs) : SqL K S' a xs := by
  rcases h with h | h
  · exact .inl (rd_ext e h)
  · exact .inr h
theorem sqt_ext (e : Ext S S') {a : Addr} {xs : List V} (h : SqT K S a xs) : SqT K S' a xs := by
  rcases h with h | h
  · exact .inl (rd_ext e h)
  · exact .inr h
mutual
theorem dp_ext (e : Ext S S') : ∀ {d : PyData} {v : V}, Dp K S v d → Dp K S' v d
  | .none, _, h => by cases h; exact .non
  | .bool b, _, h => by cases h; exact .bl b
  | .int i, _, h => by cases h; exact .int i
  | .str x, _, h => by cases h; exact .str x
  | .list ds, _, h => by cases h with | lst hs ha => exact .lst (sql_ext e hs) (dpa_ext e ha)
  | .tuple ds, _, h => by cases h with | tup hs ha => exact .tup (sqt_ext e hs) (dpa_ext e ha)
  | .dict _, _, h => by cases h
theorem dpa_ext (e : Ext S S') : ∀ {ds : List PyData} {vs : List V}, DpAll K S vs ds → DpAll K S' vs ds
  | [], _, h => by cases h; exact .nil
  | d :: ds, _, h => by cases h with | cons a b => exact .cons (dp_ext e a) (dpa_ext e b)
end
mutual
theorem VR.mono (e : Ext S S') (p : Pfx ad ad') : ∀ {x : DV} {v : V}, VR K S ad v x → VR K S' ad' v x
  | .sh d, _, h => by cases h with | sh h => exact .sh (dp_ext e h)
  | .own k, _, h => by cases h with | own h => exact .own (p _ _ h)
  | .tup xs, _, h => by cases h with | tup h g => exact .tup (sqt_ext e h) (VRs.mono e p g)
theorem VRs.mono (e : Ext S S') (p : Pfx ad ad') : ∀ {xs : List DV} {vs : List V}, VRs K S ad vs xs → VRs K S' ad' vs xs
  | [], _, h => by cases h; exact .nil
  | x :: xs, _, h => by cases h with | cons a b => exact .cons (VR.mono e p a) (VRs.mono e p b)
end
theorem VRs.length : ∀ {vs : List V} {xs : List DV}, VRs K S ad vs xs → vs.length = xs.length
  | _, _, .nil => rfl
  | _, _, .cons _ t => by simp only [List.length_cons]; rw [VRs.length t]
theorem VRs.get : ∀ {vs : List V} {xs : List DV} {i : Nat} {x : DV}, VRs K S ad vs xs → xs[i]? = some x → ∃ v, vs[i]? = some v ∧ VR K S ad v x
  | _, _, _, _, .nil, e => by simp at e
  | _, _, 0, _, .cons r _, e => by simp at e; subst e; exact ⟨_, rfl, r⟩
  | _, _, i + 1, x, .cons _ t, e => by
    obtain ⟨v, h1, h2⟩ := VRs.get (i := i) (x := x) t (by simpa using e)
    exact ⟨v, by simpa using h1, h2⟩
theorem VRs.getV : ∀ {vs : List V} {xs : List DV} {i : Nat} {v : V}, VRs K S ad vs xs → vs[i]? = some v → ∃ x, xs[i]? = some x ∧ VR K S ad v x
  | _, _, _, _, .nil, e => by simp at e
  | _, _, 0, _, .cons r _, e => by simp at e; subst e; exact ⟨_, rfl, r⟩
  | _, _, i + 1, v, .cons _ t, e => by
    obtain ⟨x, h1, h2⟩ := VRs.getV (i := i) (v := v) t (by simpa using e)
    exact ⟨x, by simpa using h1, h2⟩
theorem VRs.append : ∀ {vs ws : List V} {xs ys : List DV}, VRs K S ad vs xs → VRs K S ad ws ys → VRs K S ad (vs ++ ws) (xs ++ ys)
  | _, _, _, _, .nil, s => s
  | _, _, _, _, .cons r t, s => .cons r (VRs.append t s)
theorem VRs.take : ∀ {vs : List V} {xs : List DV} (n : Nat), VRs K S ad vs xs → VRs K S ad (vs.take n) (xs.take n)
  | _, _, 0, _ => by simpa using VRs.nil
  | _, _, _ + 1, .nil => by simpa using VRs.nil
  | _, _, n + 1, .cons r t => by simpa using VRs.cons r (VRs.take n t)
theorem VRs.drop : ∀ {vs : List V} {xs : List DV} (n : Nat), VRs K S ad vs xs → VRs K S ad (vs.drop n) (xs.drop n)
  | _, _, 0, r => by simpa using r
  | _, _, _ + 1, .nil => by simpa using VRs.nil
  | _, _, n + 1, .cons _ t => by simpa using VRs.drop n t
theorem VRs.set {v : V} {x : DV} (r : VR K S ad v x) : ∀ {vs : List V} {xs : List DV} (i : Nat), VRs K S ad vs xs → VRs K S ad (vs.set i v) (xs.set i x)
  | _, _, _, .nil => .nil
  | _, _, 0, .cons _ t => .cons r t
  | _, _, i + 1, .cons q t => .cons q (VRs.set r i t)
theorem VRs.reverse : ∀ {vs : List V} {xs : List DV}, VRs K S ad vs xs → VRs K S ad vs.reverse xs.reverse
  | _, _, .nil => .nil
  | _, _, .cons r t => by
    rw [List.reverse_cons, List.reverse_cons]
    exact (VRs.reverse t).append (.cons r .nil)
theorem vrs_sh : ∀ {vs : List V} {ds : List PyData}, DpAll K S vs ds → VRs K S ad vs (ds.map .sh)
  | _, _, .nil => .nil
  | _, _, .cons a b => .cons (.sh a) (vrs_sh b)
theorem sh_vrs : ∀ {vs : List V} {ds : List PyData}, VRs K S ad vs (ds.map .sh) → DpAll K S vs ds
  | [], [], _ => .nil
  | _, d :: ds, h => by
    cases h with
    | cons a b =>
      cases a with
      | sh a => exact .cons a (sh_vrs b)
end

/-- an exception that is kept, of the class cls, with its own dict or none -/
def exV (cls : Value) (od : Option Addr) (a : Addr) : HO := .ext fun h => ∃ (oe : Obj) (vs : Array Value), h.get? a = some oe ∧ Zc cls od oe ∧ oe.data = .fields vs
/-- what stands at an entry's address -/
def KVR (K : PySem.W.Frag) (S : Hp) (ad : List Addr) {κ : Type} : List (κ × V) → List (κ × DV) → Prop := Paired fun p q => p.1 = q.1 ∧ VR K S ad p.2 q.2
/-- an error's own attributes -/
def ExF (K : PySem.W.Frag) (S : Hp) (ad : List Addr) : Option Addr → List (Str × DV) → Prop
  | none, fs => fs = []
  | some dx, fs => fs ≠ [] ∧ ∃ vs, S dx = some (.xd vs) ∧ KVR K S ad vs fs
theorem ExF.nil {K : PySem.W.Frag} {S : Hp} {ad : List Addr} : ∀ {od : Option Addr}, ExF K S ad od [] → od = none
  | none, _ => rfl
  | some _, h => absurd rfl h.1
/-! what a tree is as a key: a tuple of numbers, None and tuples of such -/
mutual
def nk : PyData → Option NestedKey
  | .none => some .none
  | .int i => some (.num i)
  | .tuple ds => (nkAll ds).map .tup
  | _ => none
def nkAll : List PyData → Option (List NestedKey)
  | [] => some []
  | d :: ds => match nk d, nkAll ds with
    | some k, some ks => some (k :: ks)
    | _, _ => none
end
def keyT (d : PyData) : Option NestedKey := match nk d with
  | some (.tup ks) => if (NestedKey.tup ks).depth ≤ 8 then some (.tup ks) else none
  | _ => none
def NkAt (K : PySem.W.Frag) (S : Hp) (b : Addr) (k : NestedKey) : Prop := ∃ ds, Dp K S (.ref b) (.tuple ds) ∧ keyT (.tuple ds) = some k
/-- a dict whose keys are tuples: each key, where it stands, what is kept under it -/
def dicT (es : List (NestedKey × Addr × V)) (a : Addr) : HO := .ext fun h => ∃ (w' : World) (o : Obj) (arr : Array DictEntry) (ep : Nat) (xs : List (NestedKey × Addr × Value)), h.get? a = some o ∧ o.ExactDict ∧ o.data = .dict arr ep ∧
  arr.toList = xs.map (fun x => ⟨x.1.hash w', .ref x.2.1, x.2.2⟩) ∧ (xs.map (·.1)).Nodup ∧ Paired (fun p q => p.1 = q.1 ∧ p.2.1 = q.2.1 ∧ RelV p.2.2 q.2.2) es xs ∧ (a == sysModules) = false ∧ es.length ≤ sizeLine
def KTR (K : PySem.W.Frag) (S : Hp) (ad : List Addr) : List (NestedKey × Addr × V) → List (NestedKey × DV) → Prop := Paired fun p q => p.1 = q.1 ∧ NkAt K S p.2.1 p.1 ∧ VR K S ad p.2.2 q.2
def EntR (K : PySem.W.Frag) (H F S : Hp) (ad : List Addr) (a : Addr) : Ent → Prop
  | .lst xs => F a = none ∧ ∃ vs, H a = some (.lst vs) ∧ VRs K S ad vs xs
  | .dK kvs => F a = none ∧ ∃ vs, H a = some (.dK vs) ∧ KVR K S ad vs kvs
  | .dT kvs => F a = none ∧ ∃ vs, H a = some (dicT vs a) ∧ KTR K S ad vs kvs
  | .fK kvs => ∃ o vs, S a = some (.frz o (.dK vs)) ∧ KVR K S ad vs kvs
  | .fT kvs => ∃ o vs, S a = some (.frz o (dicT vs a)) ∧ KTR K S ad vs kvs
  | .ins C fs => F a = none ∧ ∃ dx vs, H a = some (.ins C dx vs) ∧ KVR K S ad vs fs
  | .exc C fs => F a = none ∧ ∃ od, H a = some (exV (.ref (He.ga K C)) od a) ∧ ExF K S ad od fs
  | .drw q => F a = none ∧ ∃ (n : Addr) (ns l : List Int), (l.length = q ∧ ns.length ≤ 15) ∧ H a = some (.lst (.ref n :: l.map V.int)) ∧ SqL K S n (ns.map V.int)
  | .frz d => Dp K S (.ref a) d
  | .gone => True
structure Core (K : PySem.W.Frag) (H F S : Hp) (ad : List Addr) (m : Store) : Prop where
  sF : Ext S F
  FH : Ext F H
  len : ad.length = m.length
  nd : ∀ (i j : Nat) (a : Addr) (e u : Ent), ad[i]? = some a → ad[j]? = some a → m[i]? = some e → m[j]? = some u → e.live = true → u.live = true → i = j
  ent : ∀ (k : Nat) (e : Ent) (a : Addr), m[k]? = some e → ad[k]? = some a → EntR K H F S ad a e
/-- a step: what was known is known, new trees are not made of what is merely kept -/
structure Stp (F S : Hp) (ad : List Addr) (F' S' : Hp) (ad' : List Addr) : Prop where
  s : Ext S S'
  f : Ext F F'
  p : Pfx ad ad'
  n : ∀ a u o, F a = some u → S' a = some o → S a = some o
theorem Stp.refl (F S : Hp) (ad : List Addr) : Stp F S ad F S ad := ⟨Ext.refl _, Ext.refl _, Pfx.refl _, fun _ _ _ _ h => h⟩
theorem Stp.trans {F S F1 S1 F2 S2 : Hp} {ad ad1 ad2 : List Addr} (a : Stp F S ad F1 S1 ad1) (b : Stp F1 S1 ad1 F2 S2 ad2) : Stp F S ad F2 S2 ad2 :=
  ⟨a.s.trans b.s, a.f.trans b.f, a.p.trans b.p, fun x u o h g => a.n x u o h (b.n x u o (a.f x u h) g)⟩
section
variable {K : PySem.W.Frag} {S S' H H' F F' : Hp} {ad ad' : List Addr} {m t : Store}
theorem VR.stp (x : Stp F S ad F' S' ad') {v : V} {d : DV} (h : VR K S ad v d) : VR K S' ad' v d := h.mono x.s x.p
theorem VRs.stp (x : Stp F S ad F' S' ad') {v : List V} {d : List DV} (h : VRs K S ad v d) : VRs K S' ad' v d := h.mono x.s x.p
theorem kvr_mono {κ : Type} (e : Ext S S') (p : Pfx ad ad') {vs : List (κ × V)} {xs : List (κ × DV)} (h : KVR K S ad vs xs) : KVR K S' ad' vs xs :=
  Paired.mapP h fun _ _ q => ⟨q.1, q.2.mono e p⟩
theorem ktr_mono (e : Ext S S') (p : Pfx ad ad') {vs : List (NestedKey × Addr × V)} {xs : List (NestedKey × DV)} (h : KTR K S ad vs xs) : KTR K S' ad' vs xs :=
  Paired.mapP h fun _ _ q => ⟨q.1, let ⟨ds, d, k⟩ := q.2.1; ⟨ds, dp_ext e d, k⟩, q.2.2.mono e p⟩
theorem ExF.mono (e : Ext S S') (p : Pfx ad ad') : ∀ {od : Option Addr} {fs : List (Str × DV)}, ExF K S ad od fs → ExF K S' ad' od fs
  | none, _, h => h
  | some _, _, h => by obtain ⟨z, vs, q, r⟩ := h; exact ⟨z, vs, e _ _ q, kvr_mono e p r⟩
theorem EntR.mono {a : Addr} {e : Ent} (h : EntR K H F S ad a e) (x : Ext S S') (p : Pfx ad ad') (hs : e.live = true → F a = none → F' a = none) (hh : e.live = true → H' a = H a) : EntR K H' F' S' ad' a e := by
  cases e with
  | lst xs => obtain ⟨z, vs, q, r⟩ := h; exact ⟨hs rfl z, vs, (hh rfl).trans q, r.mono x p⟩
  | dK kvs => obtain ⟨z, vs, q, r⟩ := h; exact ⟨hs rfl z, vs, (hh rfl).trans q, kvr_mono x p r⟩
  | dT kvs => obtain ⟨z, vs, q, r⟩ := h; exact ⟨hs rfl z, vs, (hh rfl).trans q, ktr_mono x p r⟩
  | fK kvs => obtain ⟨o, vs, q, r⟩ := h; exact ⟨o, vs, x _ _ q, kvr_mono x p r⟩
  | fT kvs => obtain ⟨o, vs, q, r⟩ := h; exact ⟨o, vs, x _ _ q, ktr_mono x p r⟩
  | ins C fs => obtain ⟨z, dx, vs, q, r⟩ := h; exact ⟨hs rfl z, dx, vs, (hh rfl).trans q, kvr_mono x p r⟩
  | exc C fs => obtain ⟨z, od, q, r⟩ := h; exact ⟨hs rfl z, od, (hh rfl).trans q, r.mono x p⟩
  | drw qq => obtain ⟨z, n, ns, l, e, q, r⟩ := h; exact ⟨hs rfl z, n, ns, l, e, (hh rfl).trans q, sql_ext x r⟩
  | frz d => exact dp_ext x h
  | gone => trivial
theorem EntR.there {a : Addr} {e : Ent} (h : EntR K H F S ad a e) (l : e.live = true) : ∃ o, H a = some o := by
  cases e with
  | lst xs => obtain ⟨z, vs, q, r⟩ := h; exact ⟨_, q⟩
  | dK kvs => obtain ⟨z, vs, q, r⟩ := h; exact ⟨_, q⟩
  | dT kvs => obtain ⟨z, vs, q, r⟩ := h; exact ⟨_, q⟩
  | fK kvs => cases l
  | fT kvs => cases l
  | ins C fs => obtain ⟨z, dx, vs, q, r⟩ := h; exact ⟨_, q⟩
  | exc C fs => obtain ⟨z, od, q, r⟩ := h; exact ⟨_, q⟩
  | drw qq => obtain ⟨z, n, ns, l, e, q, r⟩ := h; exact ⟨_, q⟩
  | frz d => cases l
  | gone => cases l
theorem EntR.notF {a : Addr} {e : Ent} (h : EntR K H F S ad a e) (l : e.live = true) : F a = none := by
  cases e with
  | frz d => cases l
  | gone => cases l
  | fK d => cases l
  | fT d => cases l
  | _ => exact h.1
theorem ext_new {p : Addr} {o : HO} (h : S p = none) : Ext S (upd S p o) := fun a u e => by
  rw [upd_ne (ne_of_none e h)]; exact e
theorem ext_upd (h : Ext S H) {p : Addr} {o : HO} (z : S p = none) : Ext S (upd H p o) := fun a u e => by
  rw [upd_ne (ne_of_none e z)]; exact h a u e
theorem ext_upd2 (h : Ext S H) {p : Addr} {o : HO} : Ext (upd S p o) (upd H p o) := fun a u e => by
  by_cases q : a = p
  · subst q; rw [upd_same] at e ⊢; exact e
  · rw [upd_ne q] at e ⊢; exact h a u e
theorem Core.noF (C : Core K H F S ad m) {p : Addr} (h : H p = none) : F p = none := by
  cases q : F p with
  | none => rfl
  | some o => rw [C.FH p o q] at h; cases h
theorem Core.noS (C : Core K H F S ad m) {p : Addr} (h : F p = none) : S p = none := by
  cases q : S p with
  | none => rfl
  | some o => rw [C.sF p o q] at h; cases h
theorem Core.apart (C : Core K H F S ad m) {p : Addr} (h : H p = none) {k : Nat} {e : Ent} {a : Addr} (hm : m[k]? = some e) (ha : ad[k]? = some a) (l : e.live = true) : a ≠ p := by
  obtain ⟨u, hu⟩ := (C.ent k e a hm ha).there l
  exact ne_of_none hu h
/-- a new object that never changes -/
theorem Core.shared (C : Core K H F S ad m) {p : Addr} {o : HO} (h : H p = none) : Core K (upd H p o) (upd F p o) (upd S p o) ad m ∧ Stp F S ad (upd F p o) (upd S p o) ad := by
  have nF := C.noF h
  have nS := C.noS nF
  refine ⟨⟨ext_upd2 C.sF, ext_upd2 C.FH, C.len, C.nd, fun k e a hm ha => ?_⟩, ext_new nS, ext_new nF, Pfx.refl _, fun a u x ha hx => ?_⟩
  · exact (C.ent k e a hm ha).mono (ext_new nS) (Pfx.refl _) (fun l z => by rw [upd_ne (C.apart h hm ha l)]; exact z) fun l => upd_ne (C.apart h hm ha l)
  · rw [upd_ne (ne_of_none ha nF)] at hx; exact hx
/-- a new object that is kept -/
theorem Core.keepNew (C : Core K H F S ad m) {p : Addr} {o : HO} (h : H p = none) : Core K (upd H p o) (upd F p o) S ad m ∧ Stp F S ad (upd F p o) S ad := by
  have nF := C.noF h
  have nS := C.noS nF
  refine ⟨⟨ext_upd C.sF nS, ext_upd2 C.FH, C.len, C.nd, fun k e a hm ha => ?_⟩, Ext.refl _, ext_new nF, Pfx.refl _, fun a u x ha hx => hx⟩
  exact (C.ent k e a hm ha).mono (Ext.refl _) (Pfx.refl _) (fun l z => by rw [upd_ne (C.apart h hm ha l)]; exact z) fun l => upd_ne (C.apart h hm ha l)
/-- an object laid that nobody speaks of -/
theorem Core.laid (C : Core K H F S ad m) {p : Addr} {o : HO} (h : H p = none) : Core K (upd H p o) F S ad m :=
  ⟨C.sF, ext_upd C.FH (C.noF h), C.len, C.nd, fun k e a hm ha => (C.ent k e a hm ha).mono (Ext.refl _) (Pfx.refl _) (fun _ z => z) fun l => upd_ne (C.apart h hm ha l)⟩
/-- a kept object changes (it is no tree's) -/
theorem Core.keepUpd (C : Core K H F S ad m) {p : Addr} {o u : HO} (h : F p = some u) (nS : S p = none) : Core K (upd H p o) (upd F p o) S ad m := by
  refine ⟨ext_upd C.sF nS, ext_upd2 C.FH, C.len, C.nd, fun k e a hm ha => ?_⟩
  have ne : e.live = true → a ≠ p := fun l q => by
    subst q
    rw [(C.ent k e a hm ha).notF l] at h; cases h
  exact (C.ent k e a hm ha).mono (Ext.refl _) (Pfx.refl _) (fun l z => by rw [upd_ne (ne l)]; exact z) fun l => upd_ne (ne l)
theorem app_cases {k : Nat} {e e' : Ent} {a p : Addr} (hl : ad.length = m.length) (h1 : (m ++ [e])[k]? = some e') (h2 : (ad ++ [p])[k]? = some a) :
    (k < m.length ∧ m[k]? = some e' ∧ ad[k]? = some a) ∨ (k = m.length ∧ e' = e ∧ a = p) := by
  by_cases hk : k < m.length
  · rw [List.getElem?_append_left hk] at h1
    rw [List.getElem?_append_left (by rw [hl]; exact hk)] at h2
    exact .inl ⟨hk, h1, h2⟩
  · have hl2 : k < (m ++ [e]).length := (List.getElem?_eq_some_iff.mp h1).1
    rw [List.length_append] at hl2
    have hk2 : k = m.length := by simp at hl2; omega
    subst hk2
    rw [List.getElem?_append_right (Nat.le_refl _)] at h1
    rw [← hl, List.getElem?_append_right (Nat.le_refl _)] at h2
    simp at h1 h2
    exact .inr ⟨rfl, h1.symm, h2.symm⟩
/-- a new entry -/
theorem Core.newE (C : Core K H F S ad m) {p : Addr} {o : HO} {e : Ent} (h : H p = none) (r : EntR K (upd H p o) F S (ad ++ [p]) p e) :
    Core K (upd H p o) F S (ad ++ [p]) (m ++ [e]) ∧ Stp F S ad F S (ad ++ [p]) := by
  have far : ∀ (k : Nat) (e' : Ent), m[k]? = some e' → ad[k]? = some p → e'.live = true → False := fun k e' h1 h2 l => C.apart h h1 h2 l rfl
  refine ⟨⟨C.sF, ext_upd C.FH (C.noF h), by rw [List.length_append, List.length_append, C.len]; rfl, fun i j a e1 e2 h1 h2 g1 g2 l1 l2 => ?_, fun k e' a h1 h2 => ?_⟩, Ext.refl _, Ext.refl _, Pfx.app _ _, fun _ _ _ _ z => z⟩
  · rcases app_cases C.len g1 h1 with ⟨a1, a2, a3⟩ | ⟨a1, a2, a3⟩
    · rcases app_cases C.len g2 h2 with ⟨b1, b2, b3⟩ | ⟨b1, b2, b3⟩
      · exact C.nd i j a e1 e2 a3 b3 a2 b2 l1 l2
      · subst b3; exact (far i e1 a2 a3 l1).elim
    · rcases app_cases C.len g2 h2 with ⟨b1, b2, b3⟩ | ⟨b1, b2, b3⟩
      · subst a3; exact (far j e2 b2 b3 l2).elim
      · rw [a1, b1]
  · rcases app_cases C.len h1 h2 with ⟨a1, a2, a3⟩ | ⟨a1, a2, a3⟩
    · exact (C.ent k e' a a2 a3).mono (Ext.refl _) (Pfx.app _ _) (fun _ z => z) fun l => upd_ne (C.apart h a2 a3 l)
    · subst a2; subst a3; exact r
/-- a kept object becomes an entry -/
theorem Core.freeE (C : Core K H F S ad m) {F0 : Hp} {p : Addr} {u : HO} {e : Ent} (hF : F p = some u) (nS : S p = none) (h0 : Ext F0 F) (n0 : F0 p = none) (s0 : Ext S F0)
    (r : EntR K H F0 S (ad ++ [p]) p e) : Core K H F0 S (ad ++ [p]) (m ++ [e]) := by
  have far : ∀ (k : Nat) (e' : Ent), m[k]? = some e' → ad[k]? = some p → e'.live = true → False := fun k e' h1 h2 l => by
    rw [(C.ent k e' p h1 h2).notF l] at hF; cases hF
  refine ⟨s0, h0.trans C.FH, by rw [List.length_append, List.length_append, C.len]; rfl, fun i j a e1 e2 h1 h2 g1 g2 l1 l2 => ?_, fun k e' a h1 h2 => ?_⟩
  · rcases app_cases C.len g1 h1 with ⟨a1, a2, a3⟩ | ⟨a1, a2, a3⟩
    · rcases app_cases C.len g2 h2 with ⟨b1, b2, b3⟩ | ⟨b1, b2, b3⟩
      · exact C.nd i j a e1 e2 a3 b3 a2 b2 l1 l2
      · subst b3; exact (far i e1 a2 a3 l1).elim
    · rcases app_cases C.len g2 h2 with ⟨b1, b2, b3⟩ | ⟨b1, b2, b3⟩
      · subst a3; exact (far j e2 b2 b3 l2).elim
      · rw [a1, b1]
  · rcases app_cases C.len h1 h2 with ⟨a1, a2, a3⟩ | ⟨a1, a2, a3⟩
    · refine (C.ent k e' a a2 a3).mono (Ext.refl _) (Pfx.app _ _) (fun _ z => ?_) fun _ => rfl
      cases q : F0 a with
      | none => rfl
      | some x => rw [h0 a x q] at z; cases z
    · subst a2; subst a3; exact r
/-- an entry is changed -/
theorem Core.setE (C : Core K H F S ad m) {k : Nat} {a : Addr} {o : HO} {e e' : Ent} (hm : m[k]? = some e) (ha : ad[k]? = some a) (l : e.live = true) (r : EntR K (upd H a o) F S ad a e') : Core K (upd H a o) F S ad (m.set k e') := by
  have hk : k < m.length := (List.getElem?_eq_some_iff.mp hm).1
  have z := (C.ent k e a hm ha).notF l
  refine ⟨C.sF, ext_upd C.FH z, by rw [List.length_set]; exact C.len, fun i j b e1 e2 h1 h2 g1 g2 l1 l2 => ?_, fun i e1 b h1 h2 => ?_⟩
  · by_cases hi : i = k
    · by_cases hj : j = k
      · rw [hi, hj]
      · rw [List.getElem?_set_ne (Ne.symm hj)] at g2
        subst hi
        have : b = a := Option.some.inj (h1.symm.trans ha)
        subst this
        exact C.nd i j b e e2 h1 h2 hm g2 l l2
    · rw [List.getElem?_set_ne (Ne.symm hi)] at g1
      by_cases hj : j = k
      · subst hj
        have : b = a := Option.some.inj (h2.symm.trans ha)
        subst this
        exact C.nd i j b e1 e h1 h2 g1 hm l1 l
      · rw [List.getElem?_set_ne (Ne.symm hj)] at g2
        exact C.nd i j b e1 e2 h1 h2 g1 g2 l1 l2
  · by_cases hi : i = k
    · subst hi
      rw [List.getElem?_set_self hk] at h1
      cases h1
      have : b = a := Option.some.inj (h2.symm.trans ha)
      subst this
      exact r
    · rw [List.getElem?_set_ne (Ne.symm hi)] at h1
      refine (C.ent i e1 b h1 h2).mono (Ext.refl _) (Pfx.refl _) (fun _ y => y) fun l1 => ?_
      exact upd_ne fun q => by
        subst q
        exact hi (C.nd i k b e1 e h2 ha h1 hm l1 l)

/-! ### entries at the end are forgotten -/
mutual
def DV.sc (n : Nat) : DV → Prop
  | .sh _ => True
  | .own k => k < n
  | .tup xs => DV.scs n xs
def DV.scs (n : Nat) : List DV → Prop
  | [] => True
  | x :: xs => DV.sc n x ∧ DV.scs n xs
end
def kvsc (n : Nat) {κ : Type} (kvs : List (κ × DV)) : Prop := ∀ p ∈ kvs, p.2.sc n
def Ent.sc (n : Nat) : Ent → Prop
  | .lst xs => DV.scs n xs
  | .dK kvs => kvsc n kvs
  | .dT kvs => kvsc n kvs
  | .fK kvs => kvsc n kvs
  | .fT kvs => kvsc n kvs
  | .ins _ fs => kvsc n fs
  | .exc _ fs => kvsc n fs
  | _ => True
def Scp (m : Store) : Prop := ∀ (k : Nat) (e : Ent), m[k]? = some e → e.sc m.length
mutual
theorem VR.scd : ∀ {x : DV} {v : V}, VR K S ad v x → x.sc ad.length
  | .sh d, _, h => trivial
  | .own k, _, h => by cases h with | own h => exact (List.getElem?_eq_some_iff.mp h).1
  | .tup xs, _, h => by cases h with | tup h g => exact VRs.scd g
theorem VRs.scd : ∀ {xs : List DV} {vs : List V}, VRs K S ad vs xs → DV.scs ad.length xs
  | [], _, _ => trivial
  | x :: xs, _, h => by cases h with | cons a b => exact ⟨VR.scd a, VRs.scd b⟩
end
mutual
theorem VR.cutd {n : Nat} : ∀ {x : DV} {v : V}, VR K S ad v x → x.sc n → VR K S (ad.take n) v x
  | .sh d, _, h, _ => by cases h with | sh h => exact .sh h
  | .own k, _, h, hk => by cases h with | own h => exact .own (by rw [List.getElem?_take_of_lt hk]; exact h)
  | .tup xs, _, h, hk => by cases h with | tup h g => exact .tup h (VRs.cutd g hk)
theorem VRs.cutd {n : Nat} : ∀ {xs : List DV} {vs : List V}, VRs K S ad vs xs → DV.scs n xs → VRs K S (ad.take n) vs xs
  | [], _, h, _ => by cases h; exact .nil
  | x :: xs, _, h, hk => by cases h with | cons a b => exact .cons (VR.cutd a hk.1) (VRs.cutd b hk.2)
end
theorem paired_mem {α β : Type} {R : α → β → Prop} : ∀ {xs : List α} {ys : List β}, Paired R xs ys → ∀ y ∈ ys, ∃ x ∈ xs, R x y
  | _, _, .nil, y, h => by cases h
  | _, _, .cons r t, y, h => by
    rcases List.mem_cons.mp h with rfl | h
    · exact ⟨_, List.mem_cons_self, r⟩
    · obtain ⟨x, hx, q⟩ := paired_mem t y h
      exact ⟨x, List.mem_cons_of_mem _ hx, q⟩
theorem kvr_scd {κ : Type} {vs : List (κ × V)} {xs : List (κ × DV)} (h : KVR K S ad vs xs) : kvsc ad.length xs := fun p hp => by
  obtain ⟨q, _, _, r⟩ := paired_mem h p hp
  exact r.scd
theorem kvr_cut {κ : Type} {n : Nat} {vs : List (κ × V)} {xs : List (κ × DV)} (h : KVR K S ad vs xs) (hk : kvsc n xs) : KVR K S (ad.take n) vs xs := by
  unfold KVR at h ⊢
  induction h with
  | nil => exact .nil
  | cons r t ih => exact .cons ⟨r.1, r.2.cutd (hk _ List.mem_cons_self)⟩ (ih fun p hp => hk p (List.mem_cons_of_mem _ hp))
theorem ktr_scd {vs : List (NestedKey × Addr × V)} {xs : List (NestedKey × DV)} (h : KTR K S ad vs xs) : kvsc ad.length xs := fun p hp => by
  obtain ⟨q, _, _, _, r⟩ := paired_mem h p hp
  exact r.scd
theorem ktr_cut {n : Nat} {vs : List (NestedKey × Addr × V)} {xs : List (NestedKey × DV)} (h : KTR K S ad vs xs) (hk : kvsc n xs) : KTR K S (ad.take n) vs xs := by
  unfold KTR at h ⊢
  induction h with
  | nil => exact .nil
  | cons r t ih => exact .cons ⟨r.1, r.2.1, r.2.2.cutd (hk _ List.mem_cons_self)⟩ (ih fun p hp => hk p (List.mem_cons_of_mem _ hp))
theorem ExF.scd : ∀ {od : Option Addr} {fs : List (Str × DV)}, ExF K S ad od fs → kvsc ad.length fs
  | none, _, h => by have h : _ = [] := h; subst h; exact fun p hp => absurd hp List.not_mem_nil
  | some _, _, h => by obtain ⟨z, vs, q, r⟩ := h; exact kvr_scd r
theorem ExF.cut {n : Nat} : ∀ {od : Option Addr} {fs : List (Str × DV)}, ExF K S ad od fs → kvsc n fs → ExF K S (ad.take n) od fs
  | none, _, h, _ => h
  | some _, _, h, hk => by obtain ⟨z, vs, q, r⟩ := h; exact ⟨z, vs, q, kvr_cut r hk⟩
theorem EntR.scd {a : Addr} {e : Ent} (h : EntR K H F S ad a e) : e.sc ad.length := by
  cases e with
  | lst xs => obtain ⟨z, vs, q, r⟩ := h; exact r.scd
  | dK kvs => obtain ⟨z, vs, q, r⟩ := h; exact kvr_scd r
  | dT kvs => obtain ⟨z, vs, q, r⟩ := h; exact ktr_scd r
  | fK kvs => obtain ⟨o, vs, q, r⟩ := h; exact kvr_scd r
  | fT kvs => obtain ⟨o, vs, q, r⟩ := h; exact ktr_scd r
  | ins C fs => obtain ⟨z, dx, vs, q, r⟩ := h; exact kvr_scd r
  | exc C fs => obtain ⟨z, od, q, r⟩ := h; exact r.scd
  | drw q => trivial
  | frz d => trivial
  | gone => trivial
theorem Core.scp (C : Core K H F S ad m) : Scp m := fun k e h => by
  have hk : k < ad.length := by rw [C.len]; exact (List.getElem?_eq_some_iff.mp h).1
  have := (C.ent k e ad[k] h (List.getElem?_eq_getElem hk)).scd
  rwa [C.len] at this
theorem EntR.cutd {a : Addr} {e : Ent} {n : Nat} (h : EntR K H F S ad a e) (hk : e.sc n) : EntR K H F S (ad.take n) a e := by
  cases e with
  | lst xs => obtain ⟨z, vs, q, r⟩ := h; exact ⟨z, vs, q, r.cutd hk⟩
  | dK kvs => obtain ⟨z, vs, q, r⟩ := h; exact ⟨z, vs, q, kvr_cut r hk⟩
  | dT kvs => obtain ⟨z, vs, q, r⟩ := h; exact ⟨z, vs, q, ktr_cut r hk⟩
  | fK kvs => obtain ⟨o, vs, q, r⟩ := h; exact ⟨o, vs, q, kvr_cut r hk⟩
  | fT kvs => obtain ⟨o, vs, q, r⟩ := h; exact ⟨o, vs, q, ktr_cut r hk⟩
  | ins C fs => obtain ⟨z, dx, vs, q, r⟩ := h; exact ⟨z, dx, vs, q, kvr_cut r hk⟩
  | exc C fs => obtain ⟨z, od, q, r⟩ := h; exact ⟨z, od, q, r.cut hk⟩
  | drw q => exact h
  | frz d => exact h
  | gone => trivial
theorem Core.cut (C : Core K H F S ad (m ++ t)) (sc : Scp m) : Core K H F S (ad.take m.length) m := by
  have at_ : ∀ {k : Nat} {e : Ent} {a : Addr}, m[k]? = some e → (ad.take m.length)[k]? = some a → (m ++ t)[k]? = some e ∧ ad[k]? = some a := fun {k e a} h1 h2 => by
    have hk : k < m.length := (List.getElem?_eq_some_iff.mp h1).1
    rw [List.getElem?_take_of_lt hk] at h2
    rw [List.getElem?_append_left hk]
    exact ⟨h1, h2⟩
  refine ⟨C.sF, C.FH, ?_, fun i j a e u h1 h2 g1 g2 l1 l2 => ?_, fun k e a h1 h2 => ?_⟩
  · rw [List.length_take, C.len, List.length_append]; omega
  · exact C.nd i j a e u (at_ g1 h1).2 (at_ g2 h2).2 (at_ g1 h1).1 (at_ g2 h2).1 l1 l2
  · exact (C.ent k e a (at_ h1 h2).1 (at_ h1 h2).2).cutd (sc k e h1)
end
end DL
namespace DL
open PySem PySem.Spec PyProof.Rows L2
abbrev St := L2.St

abbrev DQ := DV → Store → Prop
structure DX where
  nm : Str
  fs : List (Str × DV) := []
abbrev DXK := DX → Store → Prop
def XR (K : PySem.W.Frag) (S : Hp) (ad : List Addr) (cls : Value) (d : Option Addr) (_ : Hp) (x : DX) : Prop := cls = .ref (He.ga K x.nm) ∧ ExF K S ad d x.fs
structure SR (K : PySem.W.Frag) (S : Hp) (ad : List Addr) (σ : St) (δ : DEnv) : Prop where
  len : σ.length = δ.length
  get : ∀ (i : Nat) (x : DV), δ[i]? = some (some x) → ∃ v, σ[i]? = some (some v) ∧ VR K S ad v x
section
variable {K : PySem.W.Frag} {S S' H H' F F' : Hp} {ad ad' : List Addr} {m t : Store} {σ : St} {δ : DEnv}
theorem SR.stp (h : SR K S ad σ δ) (x : Stp F S ad F' S' ad') : SR K S' ad' σ δ :=
  ⟨h.len, fun i y e => let ⟨v, a, b⟩ := h.get i y e; ⟨v, a, b.stp x⟩⟩
theorem SR.set (h : SR K S ad σ δ) {v : V} {x : DV} (r : VR K S ad v x) (i : Nat) : SR K S ad (σ.set i (some v)) (δ.set i (some x)) := by
  refine ⟨by rw [List.length_set, List.length_set]; exact h.len, fun j y e => ?_⟩
  by_cases hj : j = i
  · subst hj
    have hl : j < δ.length := by
      have := (List.getElem?_eq_some_iff.mp e).1
      rwa [List.length_set] at this
    rw [List.getElem?_set_self hl] at e
    cases e
    exact ⟨v, by rw [List.getElem?_set_self (by rw [h.len]; exact hl)], r⟩
  · rw [List.getElem?_set_ne (Ne.symm hj)] at e
    obtain ⟨u, a, b⟩ := h.get j y e
    exact ⟨u, by rw [List.getElem?_set_ne (Ne.symm hj)]; exact a, b⟩
end
def KQ (K : PySem.W.Frag) (F S : Hp) (ad : List Addr) (Qd : DQ) (Q : VK) : Prop :=
  ∀ v H' F' S' ad' m' x, Stp F S ad F' S' ad' → Core K H' F' S' ad' m' → VR K S' ad' v x → Qd x m' → Q v H'
def KB (K : PySem.W.Frag) (F S : Hp) (ad : List Addr) (Qd : Bool → Store → Prop) (Q : Bool → Hp → Prop) : Prop :=
  ∀ b H' F' S' ad' m', Stp F S ad F' S' ad' → Core K H' F' S' ad' m' → Qd b m' → Q b H'
def KA (K : PySem.W.Frag) (F S : Hp) (ad : List Addr) (Qd : List DV → Store → Prop) (Q : List V → Hp → Prop) : Prop :=
  ∀ vs H' F' S' ad' m' xs, Stp F S ad F' S' ad' → Core K H' F' S' ad' m' → VRs K S' ad' vs xs → Qd xs m' → Q vs H'
def KX (K : PySem.W.Frag) (F S : Hp) (ad : List Addr) (Ed : DXK) (W : XK) : Prop :=
  ∀ cls d H' F' S' ad' m' x, Stp F S ad F' S' ad' → Core K H' F' S' ad' m' → XR K S' ad' cls d H' x → Ed x m' → W cls d H'
section
variable {K : PySem.W.Frag} {S S' H H' F F' : Hp} {ad ad' : List Addr}
theorem KQ.stp {Qd : DQ} {Q : VK} (h : KQ K F S ad Qd Q) (x : Stp F S ad F' S' ad') : KQ K F' S' ad' Qd Q := fun v H' F2 S2 a2 m' y s c r q => h v H' F2 S2 a2 m' y (x.trans s) c r q
theorem KB.stp {Qd : Bool → Store → Prop} {Q : Bool → Hp → Prop} (h : KB K F S ad Qd Q) (x : Stp F S ad F' S' ad') : KB K F' S' ad' Qd Q := fun v H' F2 S2 a2 m' s c q => h v H' F2 S2 a2 m' (x.trans s) c q
theorem KX.stp {Ed : DXK} {W : XK} (h : KX K F S ad Ed W) (x : Stp F S ad F' S' ad') : KX K F' S' ad' Ed W := fun c d H' F2 S2 a2 m' y s k r q => h c d H' F2 S2 a2 m' y (x.trans s) k r q
end
abbrev DT := DEnv → Store → DQ → DXK → Prop
abbrev DTB := DEnv → Store → (Bool → Store → Prop) → DXK → Prop
abbrev DTA := DEnv → Store → (List DV → Store → Prop) → DXK → Prop
/-- an expression's reading over data -/
structure DE (X : Cx) (W : WX) (e : Expr) (t : DT) : Prop where
  ex : ∃ te, PE X e te ∧ ∀ σ H F S ad m δ Qd Ed Q, Core X.K H F S ad m → SR X.K S ad σ δ → t δ m Qd Ed → KQ X.K F S ad Qd Q → KX X.K F S ad Ed (fun c d H' => W c d σ H') → te σ H Q
structure DB (X : Cx) (W : WX) (e : Expr) (t : DTB) : Prop where
  ex : ∃ tt, PT X e tt ∧ ∀ σ H F S ad m δ Qd Ed Q, Core X.K H F S ad m → SR X.K S ad σ δ → t δ m Qd Ed → KB X.K F S ad Qd Q → KX X.K F S ad Ed (fun c d H' => W c d σ H') → tt σ H Q
structure DBW (X : Cx) (W : WX) (e : Expr) (t : DTB) : Prop where
  ex : ∃ tt, PW X e tt ∧ ∀ σ H F S ad m δ Qd Ed Q, Core X.K H F S ad m → SR X.K S ad σ δ → t δ m Qd Ed → KB X.K F S ad Qd Q → KX X.K F S ad Ed (fun c d H' => W c d σ H') → tt σ H Q
structure DA (X : Cx) (W : WX) (es : List Expr) (t : DTA) : Prop where
  ex : ∃ ta, PA X es ta ∧ ∀ σ H F S ad m δ Qd Ed Q, Core X.K H F S ad m → SR X.K S ad σ δ → t δ m Qd Ed → KA X.K F S ad Qd Q → KX X.K F S ad Ed (fun c d H' => W c d σ H') → ta σ H Q

section
variable {X : Cx} {W : WX} {a b c e : Expr} {ta tb tc : DT} {es : List Expr} {tA tB : DTB} {tr : DTA} {pos : Pos}
/-! ### names and constants -/
abbrev dVar (i : Nat) : DT := fun δ m Q _ => match δ[i]? with
  | some (some x) => Q x m
  | _ => False
abbrev dC (x : DV) : DT := fun _ m Q _ => Q x m
theorem de_var (i : Nat) {x : Str} (hN : X.N[i]? = some x := by rfl) (hv : Vis X.env.scope x := by first | exact Or.inl rfl | exact Or.inr (Or.inl rfl) | exact Or.inr (Or.inr rfl)) (hd : (x == ("__debug__" : Str)) = false := by decide)
    (hcd : (x == ("__classdict__" : Str)) = false := by decide) : DE X W (.Name x pos) (dVar i) := ⟨_, pe_var hN hv hd hcd, fun σ H F S ad m δ Qd Ed Q C R h kq kx => by
  unfold dVar at h
  split at h
  · rename_i y e
    obtain ⟨v, h1, h2⟩ := R.get i y e
    exact ⟨v, h1, kq v H F S ad m y (Stp.refl _ _ _) C h2 h⟩
  · exact h.elim⟩
theorem de_const {v : V} {d : PyData} (hp : PE X e (tC v)) (hd : ∀ S, Dp X.K S v d) : DE X W e (dC (.sh d)) :=
  ⟨_, hp, fun σ H F S ad m δ Qd Ed Q C R h kq kx => kq _ H F S ad m _ (Stp.refl _ _ _) C (.sh (hd _)) h⟩
theorem de_int {i j} : DE X W (.Constant (.int i) j pos) (dC (.sh (.int i))) := de_const pe_int fun _ => .int i
theorem de_bl {b j} : DE X W (.Constant (.bool b) j pos) (dC (.sh (.bool b))) := de_const pe_bl fun _ => .bl b
theorem de_non {j} : DE X W (.Constant .none j pos) (dC (.sh .none)) := de_const pe_non fun _ => .non
theorem de_str {x j} : DE X W (.Constant (.str x) j pos) (dC (.sh (.str x))) := de_const pe_str fun _ => .str x
/-- a module's constant -/
theorem de_glob {x : Str} {v : V} {u : Value} {d : PyData} (hg : Gl X x) (hm : X.mg x = some u) (r : RelV v u) (hd : ∀ S, Dp X.K S v d) (hdb : (x == ("__debug__" : Str)) = false := by decide) : DE X W (.Name x pos) (dC (.sh d)) :=
  de_const (pe_glob hg hm r hdb) hd

/-! ### operators -/
/-- by values: the hand layer's rule r serves what g asks -/
def Lk2 (K : PySem.W.Frag) (r : R2) (g : DV → DV → Store → DQ → Prop) : Prop :=
  ∀ H F S ad m v u x y Qd Q, Core K H F S ad m → VR K S ad v x → VR K S ad u y → g x y m Qd → KQ K F S ad Qd Q → r v u H Q
abbrev dBin (g : DV → DV → Store → DQ → Prop) (ta tb : DT) : DT := fun δ m Q E => ta δ m (fun x m1 => tb δ m1 (fun y m2 => g x y m2 Q) E) E
theorem run2 {te1 te2 : TE} {σ : St} {H F S : Hp} {ad : List Addr} {m : Store} {δ : DEnv} {Ed : DXK} {R : DV → DV → Store → Prop} {Q : V → V → Hp → Prop}
    (h1 : ∀ σ H F S ad m δ Qd Ed Q, Core X.K H F S ad m → SR X.K S ad σ δ → ta δ m Qd Ed → KQ X.K F S ad Qd Q → KX X.K F S ad Ed (fun c d H' => W c d σ H') → te1 σ H Q)
    (h2 : ∀ σ H F S ad m δ Qd Ed Q, Core X.K H F S ad m → SR X.K S ad σ δ → tb δ m Qd Ed → KQ X.K F S ad Qd Q → KX X.K F S ad Ed (fun c d H' => W c d σ H') → te2 σ H Q)
    (C : Core X.K H F S ad m) (r : SR X.K S ad σ δ) (h : ta δ m (fun x m1 => tb δ m1 (fun y m2 => R x y m2) Ed) Ed) (kx : KX X.K F S ad Ed (fun c d H' => W c d σ H'))
    (k : ∀ v u H' F' S' ad' m' x y, Stp F S ad F' S' ad' → Core X.K H' F' S' ad' m' → VR X.K S' ad' v x → VR X.K S' ad' u y → R x y m' → Q v u H') :
    te1 σ H fun v H1 => te2 σ H1 fun u H2 => Q v u H2 := by
  refine h1 σ H F S ad m δ _ Ed _ C r h (fun v H1 F1 S1 ad1 m1 x s1 C1 rv q1 => ?_) kx
  refine h2 σ H1 F1 S1 ad1 m1 δ _ Ed _ C1 (r.stp s1) q1 (fun u H2 F2 S2 ad2 m2 y s2 C2 ru q2 => ?_) (kx.stp s1)
  exact k v u H2 F2 S2 ad2 m2 x y (s1.trans s2) C2 (rv.stp s2) ru q2
theorem de_op {op : Operator} {r : R2} {g : DV → DV → Store → DQ → Prop} (ho : OpR X (binaryOp op) r) (hl : Lk2 X.K r g) (ha : DE X W a ta) (hb : DE X W b tb) : DE X W (.BinOp a op b pos) (dBin g ta tb) := by
  obtain ⟨te1, p1, h1⟩ := ha
  obtain ⟨te2, p2, h2⟩ := hb
  refine ⟨_, pe_op ho p1 p2, fun σ H F S ad m δ Qd Ed Q C R h kq kx => ?_⟩
  exact run2 (Q := fun v u H' => r v u H' Q) h1 h2 C R h kx fun v u H' F' S' ad' m' x y s C' rv ru q => hl _ _ _ _ _ _ _ _ _ _ _ C' rv ru q (kq.stp s)
abbrev dUn (g : DV → Store → DQ → Prop) (ta : DT) : DT := fun δ m Q E => ta δ m (fun x m1 => g x m1 Q) E
def Lk1 (K : PySem.W.Frag) (r : V → Hp → VK → Prop) (g : DV → Store → DQ → Prop) : Prop :=
  ∀ H F S ad m v x Qd Q, Core K H F S ad m → VR K S ad v x → g x m Qd → KQ K F S ad Qd Q → r v H Q
theorem de_un {op : UnaryOp} {r : V → Hp → VK → Prop} {g : DV → Store → DQ → Prop} (ho : UnR X (unaryOp op) r) (hl : Lk1 X.K r g) (ha : DE X W a ta) : DE X W (.UnaryOp op a pos) (dUn g ta) := by
  obtain ⟨te1, p1, h1⟩ := ha
  refine ⟨_, pe_un ho p1, fun σ H F S ad m δ Qd Ed Q C R h kq kx => ?_⟩
  exact h1 σ H F S ad m δ _ Ed _ C R h (fun v H1 F1 S1 ad1 m1 x s1 C1 rv q1 => hl _ _ _ _ _ _ _ _ _ C1 rv q1 (kq.stp s1)) kx
/-! ### comparisons -/
theorem de_cmp {op : CmpOp} {r : R2} {g : DV → DV → Store → DQ → Prop} (ho : OpR X (compareOp op) r) (hl : Lk2 X.K r g) (ha : DE X W a ta) (hb : DE X W b tb) (hm : behindInMarks op b = false) : DE X W (.Compare a [op] [b] pos) (dBin g ta tb) := by
  obtain ⟨te1, p1, h1⟩ := ha
  obtain ⟨te2, p2, h2⟩ := hb
  refine ⟨_, pe_cmpR ho p1 p2 hm, fun σ H F S ad m δ Qd Ed Q C R h kq kx => ?_⟩
  exact run2 (Q := fun v u H' => r v u H' Q) h1 h2 C R h kx fun v u H' F' S' ad' m' x y s C' rv ru q => hl _ _ _ _ _ _ _ _ _ _ _ C' rv ru q (kq.stp s)
/-- a value that is a bool, as a test -/
abbrev tstQ (Q : Bool → Store → Prop) : DQ := fun x m1 => match x with
  | .sh (.bool b) => Q b m1
  | _ => False
abbrev dTst (ta : DT) : DTB := fun δ m Q E => ta δ m (tstQ Q) E
theorem kq_tst {K : PySem.W.Frag} {F S : Hp} {ad : List Addr} {Qd : Bool → Store → Prop} {Q : Bool → Hp → Prop} (kb : KB K F S ad Qd Q) :
    KQ K F S ad (tstQ Qd) (fun v H' => ∃ k, v = .bl k ∧ Q k H') := fun v H1 F1 S1 ad1 m1 x s1 C1 rv q1 => by
  unfold tstQ at q1
  split at q1
  · rename_i b
    cases rv with
    | sh h =>
      cases h
      exact ⟨b, rfl, kb b H1 F1 S1 ad1 m1 s1 C1 q1⟩
  · exact q1.elim
theorem db_cmp {op : CmpOp} {r : R2} {g : DV → DV → Store → DQ → Prop} (ho : OpR X (compareOp op) r) (hl : Lk2 X.K r g) (ha : DE X W a ta) (hb : DE X W b tb) (hm : behindInMarks op b = false) : DB X W (.Compare a [op] [b] pos) (dTst (dBin g ta tb)) := by
  obtain ⟨te1, p1, h1⟩ := ha
  obtain ⟨te2, p2, h2⟩ := hb
  refine ⟨_, pt_cmpR ho p1 p2 hm, fun σ H F S ad m δ Qd Ed Q C R h kb kx => ?_⟩
  exact run2 (Q := fun v u H' => r v u H' fun z H2 => ∃ k, z = .bl k ∧ Q k H2) h1 h2 C R h kx fun v u H' F' S' ad' m' x y s C' rv ru q => hl _ _ _ _ _ _ _ _ _ _ _ C' rv ru q (kq_tst (kb.stp s))
theorem db_val (h : DE X W e ta) (he : ∀ whole, isTrue e X.env whole = (do let v ← whole; standAt e.pos; holding [v] (truthy v)) := by intro _; rfl) : DB X W e (dTst ta) := by
  obtain ⟨te1, p1, h1⟩ := h
  refine ⟨_, pt_val p1 he, fun σ H F S ad m δ Qd Ed Q C R h kb kx => ?_⟩
  exact h1 σ H F S ad m δ _ Ed _ C R h (kq_tst kb) kx
/-- a < b < c -/
abbrev dChain (g g' : DV → DV → Store → DQ → Prop) (ta tb tc : DT) : DT := fun δ m Q E => ta δ m (fun x m1 => tb δ m1 (fun y m2 => g x y m2 (fun z m3 => match z with
  | .sh (.bool true) => tc δ m3 (fun w m4 => g' y w m4 Q) E
  | .sh (.bool false) => Q (.sh (.bool false)) m3
  | _ => False)) E) E
theorem chain_run {te1 te2 te3 : TE} {r r' : R2} {g g' : DV → DV → Store → DQ → Prop} {σ : St} {H F S : Hp} {ad : List Addr} {m : Store} {δ : DEnv} {Ed : DXK} {Qd : DQ} {Q : VK} (hl : Lk2 X.K r g) (hl' : Lk2 X.K r' g')
    (h1 : ∀ σ H F S ad m δ Qd Ed Q, Core X.K H F S ad m → SR X.K S ad σ δ → ta δ m Qd Ed → KQ X.K F S ad Qd Q → KX X.K F S ad Ed (fun c d H' => W c d σ H') → te1 σ H Q)
    (h2 : ∀ σ H F S ad m δ Qd Ed Q, Core X.K H F S ad m → SR X.K S ad σ δ → tb δ m Qd Ed → KQ X.K F S ad Qd Q → KX X.K F S ad Ed (fun c d H' => W c d σ H') → te2 σ H Q)
    (h3 : ∀ σ H F S ad m δ Qd Ed Q, Core X.K H F S ad m → SR X.K S ad σ δ → tc δ m Qd Ed → KQ X.K F S ad Qd Q → KX X.K F S ad Ed (fun c d H' => W c d σ H') → te3 σ H Q)
    (C : Core X.K H F S ad m) (R : SR X.K S ad σ δ) (h : dChain g g' ta tb tc δ m Qd Ed) (kq : KQ X.K F S ad Qd Q) (kx : KX X.K F S ad Ed (fun c d H' => W c d σ H')) :
    te1 σ H fun x H1 => te2 σ H1 fun y H2 => r x y H2 fun z H3 => ∃ k, z = .bl k ∧ if k = true then te3 σ H3 fun w H4 => r' y w H4 Q else Q (.bl false) H3 := by
  refine run2 (Q := fun x y H2 => r x y H2 fun z H3 => ∃ k, z = .bl k ∧ if k = true then te3 σ H3 fun w H4 => r' y w H4 Q else Q (.bl false) H3) h1 h2 C R h kx fun v u H' F' S' ad' m' x y s C' rv ru q => ?_
  refine hl _ _ _ _ _ _ _ _ _ _ _ C' rv ru q fun z H3 F3 S3 ad3 m3 zz s3 C3 rz q3 => ?_
  split at q3
  · cases rz with
    | sh hz =>
      cases hz
      refine ⟨true, rfl, ?_⟩
      rw [if_pos rfl]
      exact h3 σ H3 F3 S3 ad3 m3 δ _ Ed _ C3 ((R.stp s).stp s3) q3 (fun w H4 F4 S4 ad4 m4 ww s4 C4 rw4 q4 => hl' _ _ _ _ _ _ _ _ _ _ _ C4 ((ru.stp s3).stp s4) rw4 q4 (((kq.stp s).stp s3).stp s4)) ((kx.stp s).stp s3)
  · cases rz with
    | sh hz =>
      cases hz
      refine ⟨false, rfl, ?_⟩
      rw [if_neg Bool.false_ne_true]
      exact kq _ _ _ _ _ _ _ (s.trans s3) C3 (.sh (.bl false)) q3
  · exact q3.elim
theorem de_chain {op op' : CmpOp} {r r' : R2} {g g' : DV → DV → Store → DQ → Prop} (ho : OpR X (compareOp op) r) (hl : Lk2 X.K r g) (ho' : OpR X (compareOp op') r') (hl' : Lk2 X.K r' g') (ha : DE X W a ta) (hb : DE X W b tb) (hc : DE X W c tc)
    (hm : lastMarks [op, op'] [b, c] = false := by with_unfolding_all rfl) : DE X W (.Compare a [op, op'] [b, c] pos) (dChain g g' ta tb tc) := by
  obtain ⟨te1, p1, h1⟩ := ha
  obtain ⟨te2, p2, h2⟩ := hb
  obtain ⟨te3, p3, h3⟩ := hc
  refine ⟨_, pe_chain ho ho' p1 p2 p3 hm, fun σ H F S ad m δ Qd Ed Q C R h kq kx => ?_⟩
  exact chain_run hl hl' h1 h2 h3 C R h kq kx
theorem db_chain {op op' : CmpOp} {r r' : R2} {g g' : DV → DV → Store → DQ → Prop} (ho : OpR X (compareOp op) r) (hl : Lk2 X.K r g) (ho' : OpR X (compareOp op') r') (hl' : Lk2 X.K r' g') (ha : DE X W a ta) (hb : DE X W b tb) (hc : DE X W c tc)
    (hm : lastMarks [op, op'] [b, c] = false := by with_unfolding_all rfl) : DB X W (.Compare a [op, op'] [b, c] pos) (dTst (dChain g g' ta tb tc)) := by
  obtain ⟨te1, p1, h1⟩ := ha
  obtain ⟨te2, p2, h2⟩ := hb
  obtain ⟨te3, p3, h3⟩ := hc
  refine ⟨_, pt_chain ho ho' p1 p2 p3 hm, fun σ H F S ad m δ Qd Ed Q C R h kb kx => ?_⟩
  exact chain_run (Q := fun z H2 => ∃ k, z = .bl k ∧ Q k H2) hl hl' h1 h2 h3 C R h (kq_tst kb) kx

/-! ### and, or, not, if -/
abbrev dAndT (tA tB : DTB) : DTB := fun δ m Q E => tA δ m (fun c m1 => if c = true then tB δ m1 Q E else Q false m1) E
abbrev dOrT (tA tB : DTB) : DTB := fun δ m Q E => tA δ m (fun c m1 => if c = true then Q true m1 else tB δ m1 Q E) E
abbrev dNotT (tA : DTB) : DTB := fun δ m Q E => tA δ m (fun c m1 => Q (!c) m1) E
theorem dw_and1 (h : DB X W a tA) : DBW X W (.BoolOp .And [a] pos) tA := by
  obtain ⟨tt, p, h⟩ := h
  exact ⟨_, pw_and1 p, h⟩
theorem dw_or1 (h : DB X W a tA) : DBW X W (.BoolOp .Or [a] pos) tA := by
  obtain ⟨tt, p, h⟩ := h
  exact ⟨_, pw_or1 p, h⟩
theorem dw_and (h : DB X W a tA) (g : DBW X W (.BoolOp .And (b :: es) pos) tB) : DBW X W (.BoolOp .And (a :: b :: es) pos) (dAndT tA tB) := by
  obtain ⟨tt, p, h⟩ := h
  obtain ⟨uu, q, g⟩ := g
  refine ⟨_, pw_and p q, fun σ H F S ad m δ Qd Ed Q C R hh kb kx => ?_⟩
  refine h σ H F S ad m δ _ Ed _ C R hh (fun c H1 F1 S1 ad1 m1 s1 C1 q1 => ?_) kx
  cases c with
  | true => exact g σ H1 F1 S1 ad1 m1 δ _ Ed _ C1 (R.stp s1) q1 (kb.stp s1) (kx.stp s1)
  | false => exact kb _ _ _ _ _ _ s1 C1 q1
theorem dw_or (h : DB X W a tA) (g : DBW X W (.BoolOp .Or (b :: es) pos) tB) : DBW X W (.BoolOp .Or (a :: b :: es) pos) (dOrT tA tB) := by
  obtain ⟨tt, p, h⟩ := h
  obtain ⟨uu, q, g⟩ := g
  refine ⟨_, pw_or p q, fun σ H F S ad m δ Qd Ed Q C R hh kb kx => ?_⟩
  refine h σ H F S ad m δ _ Ed _ C R hh (fun c H1 F1 S1 ad1 m1 s1 C1 q1 => ?_) kx
  cases c with
  | false => exact g σ H1 F1 S1 ad1 m1 δ _ Ed _ C1 (R.stp s1) q1 (kb.stp s1) (kx.stp s1)
  | true => exact kb _ _ _ _ _ _ s1 C1 q1
theorem dbw {e : Expr} (h : DBW X W e tA) : DB X W e tA := by
  obtain ⟨tt, p, h⟩ := h
  exact ⟨_, p.pt, h⟩
theorem db_not (h : DB X W a tA) : DB X W (.UnaryOp .Not a pos) (dNotT tA) := by
  obtain ⟨tt, p, h⟩ := h
  refine ⟨_, pt_not p, fun σ H F S ad m δ Qd Ed Q C R hh kb kx => ?_⟩
  exact h σ H F S ad m δ _ Ed _ C R hh (fun c H1 F1 S1 ad1 m1 s1 C1 q1 => kb _ _ _ _ _ _ s1 C1 q1) kx
/-- and, or, not as values (bools) -/
def blQ (k : Bool → Store → Prop) : DQ := tstQ k
abbrev dAndV (ta tb : DT) : DT := fun δ m Q E => ta δ m (tstQ fun c m1 => if c = true then tb δ m1 Q E else Q (.sh (.bool false)) m1) E
abbrev dOrV (ta tb : DT) : DT := fun δ m Q E => ta δ m (tstQ fun c m1 => if c = true then Q (.sh (.bool true)) m1 else tb δ m1 Q E) E
abbrev dNotV (ta : DT) : DT := fun δ m Q E => ta δ m (tstQ fun c m1 => Q (.sh (.bool (!c))) m1) E
theorem de_one {op} (h : DE X W a ta) : DE X W (.BoolOp op [a] pos) ta := by
  obtain ⟨te, p, h⟩ := h
  exact ⟨_, pe_one p, h⟩
theorem de_and (h : DE X W a ta) (g : DE X W (.BoolOp .And (b :: es) pos) tb) : DE X W (.BoolOp .And (a :: b :: es) pos) (dAndV ta tb) := by
  obtain ⟨tt, p, h⟩ := h
  obtain ⟨uu, q, g⟩ := g
  refine ⟨_, pe_and p q, fun σ H F S ad m δ Qd Ed Q C R hh kq kx => ?_⟩
  refine h σ H F S ad m δ _ Ed _ C R hh (fun v H1 F1 S1 ad1 m1 x s1 C1 rv q1 => ?_) kx
  obtain ⟨c, e, q2⟩ := kq_tst (K := X.K) (F := F1) (S := S1) (ad := ad1) (Q := fun c H' => if c = true then uu σ H' Q else Q (.bl false) H') (fun c H2 F2 S2 ad2 m2 s2 C2 q2 => by
    cases c with
    | true => exact g σ H2 F2 S2 ad2 m2 δ _ Ed _ C2 ((R.stp s1).stp s2) q2 ((kq.stp s1).stp s2) ((kx.stp s1).stp s2)
    | false => exact kq _ _ _ _ _ _ _ (s1.trans s2) C2 (.sh (.bl false)) q2) v H1 F1 S1 ad1 m1 x (Stp.refl _ _ _) C1 rv q1
  exact ⟨c, e, q2⟩
theorem de_or (h : DE X W a ta) (g : DE X W (.BoolOp .Or (b :: es) pos) tb) : DE X W (.BoolOp .Or (a :: b :: es) pos) (dOrV ta tb) := by
  obtain ⟨tt, p, h⟩ := h
  obtain ⟨uu, q, g⟩ := g
  refine ⟨_, pe_or p q, fun σ H F S ad m δ Qd Ed Q C R hh kq kx => ?_⟩
  refine h σ H F S ad m δ _ Ed _ C R hh (fun v H1 F1 S1 ad1 m1 x s1 C1 rv q1 => ?_) kx
  obtain ⟨c, e, q2⟩ := kq_tst (K := X.K) (F := F1) (S := S1) (ad := ad1) (Q := fun c H' => if c = true then Q (.bl true) H' else uu σ H' Q) (fun c H2 F2 S2 ad2 m2 s2 C2 q2 => by
    cases c with
    | false => exact g σ H2 F2 S2 ad2 m2 δ _ Ed _ C2 ((R.stp s1).stp s2) q2 ((kq.stp s1).stp s2) ((kx.stp s1).stp s2)
    | true => exact kq _ _ _ _ _ _ _ (s1.trans s2) C2 (.sh (.bl true)) q2) v H1 F1 S1 ad1 m1 x (Stp.refl _ _ _) C1 rv q1
  exact ⟨c, e, q2⟩
theorem de_not (h : DE X W a ta) : DE X W (.UnaryOp .Not a pos) (dNotV ta) := by
  obtain ⟨tt, p, h⟩ := h
  refine ⟨_, pe_not p, fun σ H F S ad m δ Qd Ed Q C R hh kq kx => ?_⟩
  refine h σ H F S ad m δ _ Ed _ C R hh (fun v H1 F1 S1 ad1 m1 x s1 C1 rv q1 => ?_) kx
  exact kq_tst (K := X.K) (F := F1) (S := S1) (ad := ad1) (Q := fun c H' => Q (.bl (!c)) H') (fun c H2 F2 S2 ad2 m2 s2 C2 q2 => kq _ _ _ _ _ _ _ (s1.trans s2) C2 (.sh (.bl _)) q2) v H1 F1 S1 ad1 m1 x (Stp.refl _ _ _) C1 rv q1
abbrev dIf (tA : DTB) (ta tb : DT) : DT := fun δ m Q E => tA δ m (fun c m1 => if c = true then ta δ m1 Q E else tb δ m1 Q E) E
theorem de_ifExp (hc : DB X W c tA) (ha : DE X W a ta) (hb : DE X W b tb) : DE X W (.IfExp c a b pos) (dIf tA ta tb) := by
  obtain ⟨tt, p, h⟩ := hc
  obtain ⟨t1, p1, h1⟩ := ha
  obtain ⟨t2, p2, h2⟩ := hb
  refine ⟨_, pe_ifExp p p1 p2, fun σ H F S ad m δ Qd Ed Q C R hh kq kx => ?_⟩
  refine h σ H F S ad m δ _ Ed _ C R hh (fun c H1 F1 S1 ad1 m1 s1 C1 q1 => ?_) kx
  cases c with
  | true => exact h1 σ H1 F1 S1 ad1 m1 δ _ Ed _ C1 (R.stp s1) q1 (kq.stp s1) (kx.stp s1)
  | false => exact h2 σ H1 F1 S1 ad1 m1 δ _ Ed _ C1 (R.stp s1) q1 (kq.stp s1) (kx.stp s1)
/-! ### arguments, displays -/
abbrev dNil : DTA := fun _ m Q _ => Q [] m
abbrev dCons (ta : DT) (tr : DTA) : DTA := fun δ m Q E => ta δ m (fun x m1 => tr δ m1 (fun xs m2 => Q (x :: xs) m2) E) E
theorem da_nil : DA X W [] dNil := ⟨_, pa_nil, fun σ H F S ad m δ Qd Ed Q C R h ka kx => ka [] H F S ad m [] (Stp.refl _ _ _) C .nil h⟩
theorem da_cons (ha : DE X W a ta) (hr : DA X W es tr) (hs : starEach (a :: es) X.env = (false, eval a X.env) :: starEach es X.env := by rfl) : DA X W (a :: es) (dCons ta tr) := by
  obtain ⟨t1, p1, h1⟩ := ha
  obtain ⟨t2, p2, h2⟩ := hr
  refine ⟨_, pa_cons p1 p2 hs, fun σ H F S ad m δ Qd Ed Q C R hh ka kx => ?_⟩
  refine h1 σ H F S ad m δ _ Ed _ C R hh (fun v H1 F1 S1 ad1 m1 x s1 C1 rv q1 => ?_) kx
  refine h2 σ H1 F1 S1 ad1 m1 δ _ Ed _ C1 (R.stp s1) q1 (fun vs H2 F2 S2 ad2 m2 xs s2 C2 rs q2 => ?_) (kx.stp s1)
  exact ka _ _ _ _ _ _ _ (s1.trans s2) C2 (.cons (rv.stp s2) rs) q2
def allSh : List DV → Option (List PyData)
  | [] => some []
  | .sh d :: r => match allSh r with
    | some ds => some (d :: ds)
    | none => none
  | _ :: _ => none
theorem allSh_map : ∀ ds : List PyData, allSh (ds.map .sh) = some ds
  | [] => rfl
  | d :: ds => by
    show (match allSh (ds.map .sh) with | some ds => some (d :: ds) | none => none) = _
    rw [allSh_map ds]
theorem allSh_eq : ∀ {xs : List DV} {ds : List PyData}, allSh xs = some ds → xs = ds.map .sh
  | [], ds, h => by cases h; rfl
  | .sh d :: r, ds, h => by
    unfold allSh at h
    split at h
    · rename_i es e
      cases h
      rw [allSh_eq e]; rfl
    · cases h
  | .own _ :: _, _, h => by cases h
  | .tup _ :: _, _, h => by cases h
/-- a tuple of such values: a tree where it can be -/
def mkTup (xs : List DV) : DV := match allSh xs with
  | some ds => .sh (.tuple ds)
  | none => .tup xs
theorem mkTup_map (ds : List PyData) : mkTup (ds.map .sh) = .sh (.tuple ds) := by unfold mkTup; rw [allSh_map]
theorem vr_mkTup {K : PySem.W.Frag} {S : Hp} {ad : List Addr} {p : Addr} {vs : List V} {xs : List DV} (h : SqT K S p vs) (r : VRs K S ad vs xs) : VR K S ad (.ref p) (mkTup xs) := by
  unfold mkTup
  split
  · rename_i ds e
    rw [allSh_eq e] at r
    exact .sh (.tup h (sh_vrs r))
  · exact .tup h r
abbrev dTup (tr : DTA) : DT := fun δ m Q E => tr δ m (fun xs m1 => Nat.ble xs.length sizeLine = true ∧ Q (mkTup xs) m1) E
abbrev dLst (tr : DTA) : DT := fun δ m Q E => tr δ m (fun xs m1 => Nat.ble xs.length sizeLine = true ∧ Q (.own m1.length) (m1 ++ [.lst xs])) E
theorem de_tup {x1} (h : DA X W es tr) : DE X W (.Tuple es x1 pos) (dTup tr) := by
  obtain ⟨t1, p1, h1⟩ := h
  refine ⟨_, pe_tup p1, fun σ H F S ad m δ Qd Ed Q C R hh kq kx => ?_⟩
  refine h1 σ H F S ad m δ _ Ed _ C R hh (fun vs H1 F1 S1 ad1 m1 xs s1 C1 rs q1 => ?_) kx
  refine ⟨by rw [rs.length]; exact Nat.le_of_ble_eq_true q1.1, fun p hp => ?_⟩
  obtain ⟨C2, s2⟩ := C1.shared (o := .tup vs) hp
  exact kq _ _ _ _ _ _ _ (s1.trans s2) C2 (vr_mkTup (SqT.of upd_same) (rs.stp s2)) q1.2
theorem new_lst {K : PySem.W.Frag} {H F S : Hp} {ad : List Addr} {m : Store} {p : Addr} {vs : List V} {xs : List DV} (C : Core K H F S ad m) (hp : H p = none) (r : VRs K S ad vs xs) :
    Core K (upd H p (.lst vs)) F S (ad ++ [p]) (m ++ [.lst xs]) ∧ Stp F S ad F S (ad ++ [p]) ∧ VR K S (ad ++ [p]) (.ref p) (.own m.length) := by
  obtain ⟨C2, s2⟩ := C.newE (e := .lst xs) (o := .lst vs) hp ⟨C.noF hp, vs, upd_same, r.mono (Ext.refl _) (Pfx.app _ _)⟩
  refine ⟨C2, s2, .own ?_⟩
  rw [← C.len, List.getElem?_append_right (Nat.le_refl _)]
  simp
theorem de_lst (h : DA X W es tr) : DE X W (.List es pos) (dLst tr) := by
  obtain ⟨t1, p1, h1⟩ := h
  refine ⟨_, pe_lst p1, fun σ H F S ad m δ Qd Ed Q C R hh kq kx => ?_⟩
  refine h1 σ H F S ad m δ _ Ed _ C R hh (fun vs H1 F1 S1 ad1 m1 xs s1 C1 rs q1 => ?_) kx
  refine ⟨by rw [rs.length]; exact Nat.le_of_ble_eq_true q1.1, fun p hp => ?_⟩
  obtain ⟨C2, s2, r2⟩ := new_lst C1 hp rs
  exact kq _ _ _ _ _ _ _ (s1.trans s2) C2 r2 q1.2
/-! ### built-in functions, own defs -/
def LkA (K : PySem.W.Frag) (r : List V → Hp → VK → Prop) (g : List DV → Store → DQ → Prop) : Prop :=
  ∀ H F S ad m vs xs Qd Q, Core K H F S ad m → VRs K S ad vs xs → g xs m Qd → KQ K F S ad Qd Q → r vs H Q
abbrev dCB (g : List DV → Store → DQ → Prop) (tr : DTA) : DT := fun δ m Q E => tr δ m (fun xs m1 => g xs m1 Q) E
theorem de_callB {x : Str} {p : Pos} {id : String} {r : List V → Hp → VK → Prop} {g : List DV → Store → DQ → Prop} (hc : CallR X (.builtin id) r) (hl : LkA X.K r g) (hg : Gl X x) (hm : X.mg x = none) (hv : bootBuiltins x = some (.builtin id)) (ha : DA X W (e :: es) tr) (hn : x ≠ "__name__" := by decide) (hdb : (x == ("__debug__" : Str)) = false := by decide)
    (he : starEach (e :: es) X.env = (false, eval e X.env) :: starEach es X.env := by rfl) (hpl : (backTo pos (starEach es X.env)).any (·.1) = false := by rfl) : DE X W (.Call (.Name x p) (e :: es) [] pos) (dCB g tr) := by
  obtain ⟨t1, p1, h1⟩ := ha
  refine ⟨_, pe_callB hc hg hm hv p1 hn hdb he hpl, fun σ H F S ad m δ Qd Ed Q C R hh kq kx => ?_⟩
  exact h1 σ H F S ad m δ _ Ed _ C R hh (fun vs H1 F1 S1 ad1 m1 xs s1 C1 rs q1 => hl _ _ _ _ _ _ _ _ _ C1 rs q1 (kq.stp s1)) kx
theorem de_callTy {x : Str} {p : Pos} {T : String} {r : List V → Hp → VK → Prop} {g : List DV → Store → DQ → Prop} (hc : CallR X (.type T) r) (hl : LkA X.K r g) (hg : Gl X x) (hm : X.mg x = none) (hv : bootBuiltins x = some (.type T)) (ha : DA X W (e :: es) tr) (hn : x ≠ "__name__" := by decide) (hdb : (x == ("__debug__" : Str)) = false := by decide)
    (he : starEach (e :: es) X.env = (false, eval e X.env) :: starEach es X.env := by rfl) (hpl : (backTo pos (starEach es X.env)).any (·.1) = false := by rfl) : DE X W (.Call (.Name x p) (e :: es) [] pos) (dCB g tr) := by
  obtain ⟨t1, p1, h1⟩ := ha
  refine ⟨_, pe_callTy hc hg hm hv p1 hn hdb he hpl, fun σ H F S ad m δ Qd Ed Q C R hh kq kx => ?_⟩
  exact h1 σ H F S ad m δ _ Ed _ C R hh (fun vs H1 F1 S1 ad1 m1 xs s1 C1 rs q1 => hl _ _ _ _ _ _ _ _ _ C1 rs q1 (kq.stp s1)) kx
/-- what a def is worth over data -/
abbrev DSpec := List DV → Store → DQ → DXK → Prop
def dsp (K : PySem.W.Frag) (spec : DSpec) : Sp := fun vs H Q E => ∃ F S ad m xs Qd Ed, Core K H F S ad m ∧ VRs K S ad vs xs ∧ spec xs m Qd Ed ∧ KQ K F S ad Qd Q ∧ KX K F S ad Ed E
abbrev dCall (spec : DSpec) (tr : DTA) : DT := fun δ m Q E => tr δ m (fun xs m1 => spec xs m1 Q E) E
theorem de_call {x : Str} {p : Pos} {k : Nat} {f : Addr} {fd : FuncData} {ps : List Str} {spec : DSpec} (G : FnOk X.prog X.w X.K X.mg X.base (L2.CX X.prog X.w) k f fd ps (dsp X.K spec)) (tk : Takes X W) (hr : Room k X.A) (hg : Gl X x) (hm : X.mg x = some (.ref f)) (hk : PySem.W.keepIn X.K (.ref f) = true) (hb : Binds X.K fd ps [])
    (ha : DA X W (e :: es) tr) (hdb : (x == ("__debug__" : Str)) = false := by decide) (he : starEach (e :: es) X.env = (false, eval e X.env) :: starEach es X.env := by rfl) (hpl : (backTo pos (starEach es X.env)).any (·.1) = false := by rfl) :
    DE X W (.Call (.Name x p) (e :: es) [] pos) (dCall spec tr) := by
  obtain ⟨t1, p1, h1⟩ := ha
  refine ⟨_, pe_callSD (E := fun σ c d H => W c d σ H) G hr hg hm hk hb .nil (fun σ => passAt tk σ) p1 hdb he hpl, fun σ H F S ad m δ Qd Ed Q C R hh kq kx => ?_⟩
  refine h1 σ H F S ad m δ _ Ed _ C R hh (fun vs H1 F1 S1 ad1 m1 xs s1 C1 rs q1 => ?_) kx
  rw [List.append_nil]
  exact ⟨F1, S1, ad1, m1, xs, Qd, Ed, C1, rs, q1, kq.stp s1, kx.stp s1⟩
end
end DL
namespace DL
open PySem PySem.Spec PyProof.Rows L2

structure DEnds where
  nx : DEnv → Store → Prop
  rt : DQ
  bk : DEnv → Store → Prop := fun _ _ => False
  ct : DEnv → Store → Prop := fun _ _ => False
  ex : DX → DEnv → Store → Prop := fun _ _ _ => False
abbrev DTS := DEnds → DEnv → Store → Prop
def KS (K : PySem.W.Frag) (F S : Hp) (ad : List Addr) (Qd : DEnv → Store → Prop) (Q : St → Hp → Prop) : Prop :=
  ∀ σ' H' F' S' ad' m' δ', Stp F S ad F' S' ad' → Core K H' F' S' ad' m' → SR K S' ad' σ' δ' → Qd δ' m' → Q σ' H'
def KXS (K : PySem.W.Frag) (F S : Hp) (ad : List Addr) (Ed : DX → DEnv → Store → Prop) (W : WX) : Prop :=
  ∀ cls d σ' H' F' S' ad' m' δ' x, Stp F S ad F' S' ad' → Core K H' F' S' ad' m' → SR K S' ad' σ' δ' → XR K S' ad' cls d H' x → Ed x δ' m' → W cls d σ' H'
structure DEL (K : PySem.W.Frag) (W : WX) (F S : Hp) (ad : List Addr) (D : DEnds) (E : Ends) : Prop where
  nx : KS K F S ad D.nx E.nx
  rt : KQ K F S ad D.rt E.rt
  bk : KS K F S ad D.bk E.bk
  ct : KS K F S ad D.ct E.ct
  ex : KXS K F S ad D.ex W
section
variable {K : PySem.W.Frag} {W : WX} {S S' H H' F F' : Hp} {ad ad' : List Addr} {D : DEnds} {E : Ends} {σ : St} {δ : DEnv}
theorem KS.stp {Qd : DEnv → Store → Prop} {Q : St → Hp → Prop} (h : KS K F S ad Qd Q) (x : Stp F S ad F' S' ad') : KS K F' S' ad' Qd Q := fun v H' F2 S2 a2 m' y s c r q => h v H' F2 S2 a2 m' y (x.trans s) c r q
theorem KXS.stp {Qd : DX → DEnv → Store → Prop} (h : KXS K F S ad Qd W) (x : Stp F S ad F' S' ad') : KXS K F' S' ad' Qd W := fun c d v H' F2 S2 a2 m' y z s k r q g => h c d v H' F2 S2 a2 m' y z (x.trans s) k r q g
theorem DEL.stp (h : DEL K W F S ad D E) (x : Stp F S ad F' S' ad') : DEL K W F' S' ad' D E := ⟨h.nx.stp x, h.rt.stp x, h.bk.stp x, h.ct.stp x, h.ex.stp x⟩
theorem KXS.at (h : KXS K F S ad D.ex W) (R : SR K S ad σ δ) : KX K F S ad (fun x m => D.ex x δ m) (fun c d H' => W c d σ H') :=
  fun c d H' F' S' ad' m' x s k r q => h c d σ H' F' S' ad' m' δ x s k (R.stp s) r q
end
structure DS (X : Cx) (W : WX) (st : Stmt) (t : DTS) : Prop where
  ex : ∃ ts, PS X st ts ∧ ∀ σ H F S ad m δ D E, Core X.K H F S ad m → SR X.K S ad σ δ → t D δ m → DEL X.K W F S ad D E → ts E σ H
structure DSs (X : Cx) (W : WX) (sts : List Stmt) (t : DTS) : Prop where
  ex : ∃ ts, PSs X sts ts ∧ ∀ σ H F S ad m δ D E, Core X.K H F S ad m → SR X.K S ad σ δ → t D δ m → DEL X.K W F S ad D E → ts E σ H
section
variable {X : Cx} {W : WX} {st : Stmt} {rest body : List Stmt} {t u : DTS} {e a b c : Expr} {te ta tb : DT} {tA : DTB} {pos : Pos}
abbrev dNext : DTS := fun D δ m => D.nx δ m
abbrev dSeq (t u : DTS) : DTS := fun D δ m => t { D with nx := u D } δ m
theorem dss_nil : DSs X W [] dNext := ⟨_, pss_nil, fun σ H F S ad m δ D E C R h k => k.nx _ _ _ _ _ _ _ (Stp.refl _ _ _) C R h⟩
theorem dss_cons (h1 : DS X W st t) (h2 : DSs X W rest u) : DSs X W (st :: rest) (dSeq t u) := by
  obtain ⟨t1, p1, h1⟩ := h1
  obtain ⟨t2, p2, h2⟩ := h2
  refine ⟨_, pss_cons p1 p2, fun σ H F S ad m δ D E C R h k => ?_⟩
  exact h1 σ H F S ad m δ { D with nx := u D } { E with nx := t2 E } C R h ⟨fun σ' H' F' S' ad' m' δ' s C' R' q => h2 σ' H' F' S' ad' m' δ' D E C' R' q (k.stp s), k.rt, k.bk, k.ct, k.ex⟩
theorem dss_one (h1 : DS X W st t) : DSs X W [st] t := by
  obtain ⟨t1, p1, h1⟩ := h1
  exact ⟨_, pss_one p1, h1⟩
abbrev dBreak : DTS := fun D δ m => D.bk δ m
abbrev dCont : DTS := fun D δ m => D.ct δ m
theorem ds_pass : DS X W (.Pass pos) dNext := ⟨_, ps_pass, fun σ H F S ad m δ D E C R h k => k.nx _ _ _ _ _ _ _ (Stp.refl _ _ _) C R h⟩
theorem ds_break : DS X W (.Break pos) dBreak := ⟨_, ps_break, fun σ H F S ad m δ D E C R h k => k.bk _ _ _ _ _ _ _ (Stp.refl _ _ _) C R h⟩
theorem ds_continue : DS X W (.Continue pos) dCont := ⟨_, ps_continue, fun σ H F S ad m δ D E C R h k => k.ct _ _ _ _ _ _ _ (Stp.refl _ _ _) C R h⟩
abbrev dDrop (te : DT) : DTS := fun D δ m => te δ m (fun _ m1 => D.nx δ m1) (fun x m1 => D.ex x δ m1)
theorem ds_expr (he : DE X W e te) (hs : swapsWith e none pos.line X.env = pure false := by rfl) : DS X W (.Expr e pos) (dDrop te) := by
  obtain ⟨t1, p1, h1⟩ := he
  refine ⟨_, ps_expr p1 hs, fun σ H F S ad m δ D E C R h k => ?_⟩
  exact h1 σ H F S ad m δ _ _ _ C R h (fun v H' F' S' ad' m' x s C' _ q => k.nx _ _ _ _ _ _ _ s C' (R.stp s) q) (k.ex.at R)
abbrev dRet (te : DT) : DTS := fun D δ m => te δ m D.rt (fun x m1 => D.ex x δ m1)
theorem ds_ret (he : DE X W e te) : DS X W (.Return (some e) pos) (dRet te) := by
  obtain ⟨t1, p1, h1⟩ := he
  refine ⟨_, ps_ret p1, fun σ H F S ad m δ D E C R h k => ?_⟩
  exact h1 σ H F S ad m δ _ _ _ C R h k.rt (k.ex.at R)
abbrev dRetN : DTS := fun D δ m => D.rt (.sh .none) m
theorem ds_retN : DS X W (.Return none pos) dRetN := ⟨_, ps_retN, fun σ H F S ad m δ D E C R h k => k.rt _ _ _ _ _ _ _ (Stp.refl _ _ _) C (.sh .non) h⟩
abbrev dIfS (tA : DTB) (t u : DTS) : DTS := fun D δ m => tA δ m (fun c m1 => if c = true then t D δ m1 else u D δ m1) (fun x m1 => D.ex x δ m1)
theorem ds_if {a b : List Stmt} (hc : DB X W c tA) (ha : DSs X W a t) (hb : DSs X W b u) : DS X W (.If c a b pos) (dIfS tA t u) := by
  obtain ⟨t0, p0, h0⟩ := hc
  obtain ⟨t1, p1, h1⟩ := ha
  obtain ⟨t2, p2, h2⟩ := hb
  refine ⟨_, ps_if p0 p1 p2, fun σ H F S ad m δ D E C R h k => ?_⟩
  refine h0 σ H F S ad m δ _ _ _ C R h (fun c H1 F1 S1 ad1 m1 s1 C1 q1 => ?_) (k.ex.at R)
  cases c with
  | true => exact h1 σ H1 F1 S1 ad1 m1 δ D E C1 (R.stp s1) q1 (k.stp s1)
  | false => exact h2 σ H1 F1 S1 ad1 m1 δ D E C1 (R.stp s1) q1 (k.stp s1)
/-! ### targets -/
abbrev DTG := DV → DEnv → Store → (DEnv → Store → Prop) → Prop
/-- a target, by values -/
structure DG (X : Cx) (tg : Expr) (t : DTG) : Prop where
  ex : ∃ g, PG X tg g ∧ ∀ v x σ H F S ad m δ Qd Q, Core X.K H F S ad m → SR X.K S ad σ δ → VR X.K S ad v x → t x δ m Qd → KS X.K F S ad Qd Q → g v σ H Q
abbrev DTGs := List DV → DEnv → Store → (DEnv → Store → Prop) → Prop
structure DGs (X : Cx) (tgs : List Expr) (t : DTGs) : Prop where
  ex : ∃ g, PGs X tgs g ∧ ∀ vs xs σ H F S ad m δ Qd Q, Core X.K H F S ad m → SR X.K S ad σ δ → VRs X.K S ad vs xs → t xs δ m Qd → KS X.K F S ad Qd Q → g vs σ H Q
abbrev hName (i : Nat) : DTG := fun x δ m Q => Q (δ.set i (some x)) m
theorem dg_name (i : Nat) {x : Str} (hN : X.N.Nodup) (hi : X.N[i]? = some x := by rfl) (hx : Loc X.env.scope x := by first | exact .inl rfl | exact .inr rfl) (hf : X.fn x = true ∨ X.env.scope.names.lookup x = some .local := by first | exact .inl rfl | exact .inr rfl | assumption) : DG X (.Name x pos) (hName i) :=
  ⟨_, pg_name hN hi hx hf, fun v x σ H F S ad m δ Qd Q C R r h k => k _ _ _ _ _ _ _ (Stp.refl _ _ _) C (R.set r i) h⟩
abbrev hNil : DTGs := fun xs δ m Q => match xs with
  | [] => Q δ m
  | _ => False
abbrev hCons (t : DTG) (u : DTGs) : DTGs := fun xs δ m Q => match xs with
  | x :: r => t x δ m fun δ1 m1 => u r δ1 m1 Q
  | [] => False
theorem dgs_nil : DGs X [] hNil := ⟨_, pgs_nil, fun vs xs σ H F S ad m δ Qd Q C R r h k => by
  cases r with
  | nil => exact ⟨rfl, k _ _ _ _ _ _ _ (Stp.refl _ _ _) C R h⟩
  | cons _ _ => exact h.elim⟩
theorem dgs_cons {e : Expr} {es : List Expr} {t : DTG} {u : DTGs} (h1 : DG X e t) (h2 : DGs X es u) (hs : (assignEach (e :: es) X.env).map (·.2) = assign e X.env :: (assignEach es X.env).map (·.2) := by rfl) : DGs X (e :: es) (hCons t u) := by
  obtain ⟨t1, p1, h1⟩ := h1
  obtain ⟨t2, p2, h2⟩ := h2
  refine ⟨_, pgs_cons p1 p2 hs, fun vs xs σ H F S ad m δ Qd Q C R r h k => ?_⟩
  cases r with
  | nil => exact h.elim
  | cons r rr =>
    refine ⟨_, _, rfl, h1 _ _ σ H F S ad m δ _ _ C R r h fun σ' H' F' S' ad' m' δ' s C' R' q => ?_⟩
    exact h2 _ _ σ' H' F' S' ad' m' δ' _ _ C' R' (rr.stp s) q (k.stp s)
/-- the items of a tuple -/
def seqT : DV → Option (List DV)
  | .sh (.tuple ds) => some (ds.map .sh)
  | .tup xs => some xs
  | _ => none
theorem seqT_at {K : PySem.W.Frag} {S : Hp} {ad : List Addr} {v : V} {x : DV} {xs : List DV} (r : VR K S ad v x) (h : seqT x = some xs) : ∃ a vs, v = .ref a ∧ SqT K S a vs ∧ VRs K S ad vs xs := by
  unfold seqT at h
  split at h
  · rename_i ds
    cases h
    cases r with
    | sh r =>
      cases r with
      | tup hs ha => exact ⟨_, _, rfl, hs, vrs_sh ha⟩
  · cases h
    cases r with
    | tup hs hr => exact ⟨_, _, rfl, hs, hr⟩
  · cases h
abbrev hTup (n : Nat) (u : DTGs) : DTG := fun x δ m Q => match seqT x with
  | some xs => xs.length = n ∧ u xs δ m Q
  | none => False
theorem dg_tup {es : List Expr} {k : Nat} {t : DTGs} {n : Nat} (hc : X.calm = true) (h : DGs X es t) (hn : (assignEach es X.env).length = n := by rfl) (hst : (assignEach es X.env).findIdx? (·.1) = none := by rfl) : DG X (.Tuple es k pos) (hTup n t) := by
  obtain ⟨t1, p1, h1⟩ := h
  refine ⟨_, pg_tup hc p1 hn hst, fun v x σ H F S ad m δ Qd Q C R r h k => ?_⟩
  unfold hTup at h
  split at h
  · rename_i xs e
    obtain ⟨a, vs, ev, hs, hr⟩ := seqT_at r e
    exact ⟨a, vs, ev, sqt_ext (C.sF.trans C.FH) hs, by rw [hr.length]; exact h.1, h1 _ _ σ H F S ad m δ _ _ C R hr h.2 k⟩
  · exact h.elim
/-- o[i] = .. -/
def LkS (K : PySem.W.Frag) (r : TSet) (g : DV → DV → DV → Store → (Store → Prop) → Prop) : Prop :=
  ∀ H F S ad m o i v x y z Qd (Q : Hp → Prop), Core K H F S ad m → VR K S ad o x → VR K S ad i y → VR K S ad v z → g x y z m Qd → (∀ H' F' S' ad' m', Stp F S ad F' S' ad' → Core K H' F' S' ad' m' → Qd m' → Q H') → r o i v H Q
abbrev hSub (g : DV → DV → DV → Store → (Store → Prop) → Prop) (ta tb : DT) : DTG := fun z δ m Q => ta δ m (fun x m1 => tb δ m1 (fun y m2 => g x y z m2 fun m3 => Q δ m3) fun _ _ => False) fun _ _ => False
theorem dg_sub {W0 : WX} {r : TSet} {g : DV → DV → DV → Store → (Store → Prop) → Prop} (ho : DE X W0 a ta) (hi : DE X W0 b tb) (hs : PSet X r) (hl : LkS X.K r g)
    (ha : ∀ v, assign (.Subscript a b pos) X.env v = (do
      let ov ← holding [v] (eval a X.env)
      let iv ← holding [v, ov] (eval b X.env)
      standAt pos
      holding [v, ov, iv] (setItem ov iv v)
      release [v, ov, iv] []) := by intro _; rfl) : DG X (.Subscript a b pos) (hSub g ta tb) := by
  obtain ⟨t1, p1, h1⟩ := ho
  obtain ⟨t2, p2, h2⟩ := hi
  refine ⟨_, pg_sub p1 p2 hs ha, fun v x σ H F S ad m δ Qd Q C R r h k => ?_⟩
  refine h1 σ H F S ad m δ _ _ _ C R h (fun o H1 F1 S1 ad1 m1 ox s1 C1 ro q1 => ?_) (fun _ _ _ _ _ _ _ _ _ _ _ z => z.elim)
  refine h2 σ H1 F1 S1 ad1 m1 δ _ _ _ C1 (R.stp s1) q1 (fun i H2 F2 S2 ad2 m2 ix s2 C2 ri q2 => ?_) (fun _ _ _ _ _ _ _ _ _ _ _ z => z.elim)
  refine hl H2 F2 S2 ad2 m2 o i v ox ix x _ _ C2 (ro.stp s2) ri (r.stp (s1.trans s2)) q2 fun H3 F3 S3 ad3 m3 s3 C3 q3 => ?_
  exact k _ _ _ _ _ _ _ ((s1.trans s2).trans s3) C3 (R.stp ((s1.trans s2).trans s3)) q3
abbrev dAsg (te : DT) (g : DTG) : DTS := fun D δ m => te δ m (fun x m1 => g x δ m1 D.nx) (fun x m1 => D.ex x δ m1)
theorem ds_asg {tg e : Expr} {g : DTG} (he : DE X W e te) (hg : DG X tg g) (hs : swapsWithSole [tg] e pos.line X.env = pure false := by rfl) (hw : swappedStores [tg] e X.env = pure none := by rfl)
    (h1 : (assignEach [tg] X.env).map (·.2) = [assign tg X.env] := by rfl) : DS X W (.Assign [tg] e pos) (dAsg te g) := by
  obtain ⟨t1, p1, h1'⟩ := he
  obtain ⟨t2, p2, h2⟩ := hg
  refine ⟨_, ps_asg p1 p2 hs hw h1, fun σ H F S ad m δ D E C R h k => ?_⟩
  exact h1' σ H F S ad m δ _ _ _ C R h (fun v H1 F1 S1 ad1 m1 x s1 C1 rv q1 => h2 v x σ H1 F1 S1 ad1 m1 δ _ _ C1 (R.stp s1) rv q1 (k.nx.stp s1)) (k.ex.at R)
theorem ds_set (i : Nat) {x : Str} {e : Expr} {pos' : Pos} (he : DE X W e te) (hN : X.N.Nodup) (hi : X.N[i]? = some x := by rfl) (hx : Loc X.env.scope x := by first | exact .inl rfl | exact .inr rfl) (hs : swapsWith e (some (.Name x pos')) pos.line X.env = pure false := by rfl) (hf : X.fn x = true ∨ X.env.scope.names.lookup x = some .local := by first | exact .inl rfl | exact .inr rfl | assumption) :
    DS X W (.Assign [.Name x pos'] e pos) (dAsg te (hName i)) := by
  obtain ⟨t1, p1, h1⟩ := he
  refine ⟨_, ps_set hN hi hx p1 hs hf, fun σ H F S ad m δ D E C R h k => ?_⟩
  exact h1 σ H F S ad m δ _ _ _ C R h (fun v H1 F1 S1 ad1 m1 x s1 C1 rv q1 => k.nx _ _ _ _ _ _ _ s1 C1 ((R.stp s1).set rv i) q1) (k.ex.at R)
/-- a, b = x, y with plain local names -/
abbrev dPar (i j : Nat) (tr : DTA) : DTS := fun D δ m => tr δ m (fun xs m1 => match xs with
  | [x, y] => D.nx ((δ.set i (some x)).set j (some y)) m1
  | _ => False) (fun x m1 => D.ex x δ m1)
theorem ds_par (i j : Nat) {x y : Str} {a b : Expr} {tr : DTA} {px py pt : Pos} {kt k2 pt2} (hc : X.calm = true) (hN : X.N.Nodup) (ha : DA X W [a, b] tr) (hi : X.N[i]? = some x := by rfl) (hj : X.N[j]? = some y := by rfl) (hij : i ≠ j := by decide)
    (hx : X.env.scope.names.lookup x = some .local := by rfl) (hy : X.env.scope.names.lookup y = some .local := by rfl)
    (hw : swappedStores [.Tuple [.Name x px, .Name y py] kt pt] (.Tuple [a, b] k2 pt2) X.env = pure (some [x, y]) := by rfl)
    (hs : swapsWithSole [.Tuple [.Name x px, .Name y py] kt pt] (.Tuple [a, b] k2 pt2) pos.line X.env = pure false := by rfl) :
    DS X W (.Assign [.Tuple [.Name x px, .Name y py] kt pt] (.Tuple [a, b] k2 pt2) pos) (dPar i j tr) := by
  obtain ⟨t1, p1, h1⟩ := ha
  refine ⟨_, ps_par hc hN hi hj hij hx hy p1 hw hs, fun σ H F S ad m δ D E C R h k => ?_⟩
  refine h1 σ H F S ad m δ _ _ _ C R h (fun vs H1 F1 S1 ad1 m1 xs s1 C1 rs q1 => ?_) (k.ex.at R)
  cases rs with
  | nil => exact q1.elim
  | cons r rs =>
    cases rs with
    | nil => exact q1.elim
    | cons r2 rs =>
      cases rs with
      | nil => exact ⟨_, _, rfl, k.nx _ _ _ _ _ _ _ s1 C1 (((R.stp s1).set r i).set r2 j) q1⟩
      | cons _ _ => exact q1.elim
/-- x op= e -/
def LkI (K : PySem.W.Frag) (r : TIp) (g : DV → DV → Store → DQ → Prop) : Prop := Lk2 K r g
abbrev dAug (i : Nat) (te : DT) (g : DV → DV → Store → DQ → Prop) : DTS := fun D δ m => match δ[i]? with
  | some (some x) => te δ m (fun y m1 => g x y m1 fun z m2 => D.nx (δ.set i (some z)) m2) (fun x m1 => D.ex x δ m1)
  | _ => False
theorem ds_aug (i : Nat) {x : Str} {e : Expr} {op : Operator} {r : TIp} {g : DV → DV → Store → DQ → Prop} {pos' : Pos} (hN : X.N.Nodup) (he : DE X W e te) (ho : PIp X op r) (hl : LkI X.K r g) (hi : X.N[i]? = some x := by rfl) (hx : Loc X.env.scope x := by first | exact .inl rfl | exact .inr rfl) (hf : X.fn x = true ∨ X.env.scope.names.lookup x = some .local := by first | exact .inl rfl | exact .inr rfl | assumption) :
    DS X W (.AugAssign (.Name x pos') op e pos) (dAug i te g) := by
  obtain ⟨t1, p1, h1⟩ := he
  refine ⟨_, ps_aug hN hi hx p1 ho hf, fun σ H F S ad m δ D E C R h k => ?_⟩
  unfold dAug at h
  split at h
  · rename_i y ey
    obtain ⟨v, e1, rv⟩ := R.get i y ey
    refine ⟨v, e1, h1 σ H F S ad m δ _ _ _ C R h (fun u H1 F1 S1 ad1 m1 z s1 C1 ru q1 => ?_) (k.ex.at R)⟩
    exact hl H1 F1 S1 ad1 m1 v u _ z _ _ C1 (rv.stp s1) ru q1 fun w H2 F2 S2 ad2 m2 ww s2 C2 rw' q2 => k.nx _ _ _ _ _ _ _ (s1.trans s2) C2 ((R.stp (s1.trans s2)).set rw' i) q2
  · exact h.elim
/-! ### while -/
/-- what is given up: slots, entries at the end -/
inductive Wk (δ : DEnv) (m : Store) (δ0 : DEnv) (m0 : Store) : Prop where
  | same : (∀ (i : Nat) (x : DV), δ0[i]? = some (some x) → δ[i]? = some (some x)) → δ0.length = δ.length → m0 = m → Wk δ m δ0 m0
  | cut (t : Store) : (∀ (i : Nat) (x : DV), δ0[i]? = some (some x) → δ[i]? = some (some x) ∧ x.sc m0.length) → δ0.length = δ.length → m = m0 ++ t → Scp m0 → Wk δ m δ0 m0
theorem Wk.go {K : PySem.W.Frag} {H F S : Hp} {ad : List Addr} {m m0 : Store} {σ : St} {δ δ0 : DEnv} (w : Wk δ m δ0 m0) (C : Core K H F S ad m) (R : SR K S ad σ δ) : ∃ ad0, Core K H F S ad0 m0 ∧ SR K S ad0 σ δ0 ∧ (∀ (k : Nat) (a : Addr), k < m0.length → ad[k]? = some a → ad0[k]? = some a) := by
  cases w with
  | same h l e =>
    subst e
    exact ⟨ad, C, ⟨R.len.trans l.symm, fun i x q => R.get i x (h i x q)⟩, fun _ _ _ z => z⟩
  | cut t h l e sc =>
    subst e
    refine ⟨ad.take m0.length, C.cut sc, ⟨R.len.trans l.symm, fun i x q => ?_⟩, fun k a hk z => by rw [List.getElem?_take_of_lt hk]; exact z⟩
    obtain ⟨h1, h2⟩ := h i x q
    obtain ⟨v, a, b⟩ := R.get i x h1
    exact ⟨v, a, b.cutd h2⟩
end
end DL
namespace DL
open PySem PySem.Spec PyProof.Rows L2

/-- what an iterator gives, turn by turn -/
structure Grw (S : Hp) (ad : List Addr) (S' : Hp) (ad' : List Addr) : Prop where
  s : Ext S S'
  p : Pfx ad ad'
def ItR (K : PySem.W.Frag) (J : It) (items : List DV) (_ S : Hp) (ad : List Addr) (kp : Store → Prop) : Prop :=
  ∀ i H' F' S' ad' m', Grw S ad S' ad' → Core K H' F' S' ad' m' → kp m' →
    (∀ x, items[i]? = some x → J.go i H' ∧ ∀ v H'', J.yld i H' v H'' → ∃ F'' S'', Stp F' S' ad' F'' S'' ad' ∧ Core K H'' F'' S'' ad' m' ∧ VR K S'' ad' v x) ∧ (items.length = i → J.stop i H')
theorem ItR.stp {K : PySem.W.Frag} {J : It} {items : List DV} {F S F' S' : Hp} {ad ad' : List Addr} {kp : Store → Prop} (h : ItR K J items F S ad kp) (s : Stp F S ad F' S' ad') : ItR K J items F' S' ad' kp :=
  fun i H2 F2 S2 ad2 m2 s2 C k => h i H2 F2 S2 ad2 m2 ⟨s.s.trans s2.s, s.p.trans s2.p⟩ C k
abbrev DTI := DEnv → Store → (List DV → (Store → Prop) → Store → Prop) → DXK → Prop
structure DI (X : Cx) (W : WX) (tg iter : Expr) (t : DTI) : Prop where
  ex : ∃ wi, PI X tg iter wi ∧ ∀ σ H F S ad m δ Qd Ed R, Core X.K H F S ad m → SR X.K S ad σ δ → t δ m Qd Ed →
    (∀ J H' F' S' ad' m' items kp, Stp F S ad F' S' ad' → Core X.K H' F' S' ad' m' → kp m' → ItR X.K J items F' S' ad' kp → Qd items kp m' → R J H') →
    KX X.K F S ad Ed (fun c d H' => W c d σ H') → wi σ H R
section
variable {X : Cx} {W : WX} {tg iter e a b c : Expr} {te ta tb : DT} {tr : DTA} {pos : Pos}
theorem sql_uniq {K : PySem.W.Frag} {H : Hp} {a : Addr} {vs : List V} (h : SqL K H a vs) {i : Nat} {v : V} (q : ∀ xs, SqL K H a xs → xs[i]? = some v) : vs[i]? = some v := q vs h
/-- the items of a list: an entry, or a tree -/
def seqL (m : Store) : DV → Option (List DV)
  | .sh (.list ds) => some (ds.map .sh)
  | .own k => match m[k]? with
    | some (.lst xs) => some xs
    | some (.frz (.list ds)) => some (ds.map .sh)
    | _ => none
  | _ => none
theorem seqL_at {K : PySem.W.Frag} {H F S : Hp} {ad : List Addr} {m : Store} {v : V} {x : DV} {xs : List DV} (C : Core K H F S ad m) (r : VR K S ad v x) (h : seqL m x = some xs) : ∃ a vs, v = .ref a ∧ SqL K H a vs ∧ VRs K S ad vs xs := by
  unfold seqL at h
  split at h
  · rename_i ds
    cases h
    cases r with
    | sh r =>
      cases r with
      | lst hs ha => exact ⟨_, _, rfl, sql_ext (C.sF.trans C.FH) hs, vrs_sh ha⟩
  · rename_i k
    cases r with
    | own ha =>
      split at h
      · rename_i ys hm
        cases h
        obtain ⟨_, vs, q, rr⟩ := C.ent _ _ _ hm ha
        exact ⟨_, vs, rfl, SqL.of q, rr⟩
      · rename_i ds hm
        cases h
        have q := C.ent _ _ _ hm ha
        cases q with
        | lst hs hd => exact ⟨_, _, rfl, sql_ext (C.sF.trans C.FH) hs, vrs_sh hd⟩
      · cases h
  · cases h
theorem itr_list {K : PySem.W.Frag} {F S : Hp} {ad : List Addr} {x : DV} {xs : List DV} {a : Addr} (r : VR K S ad (.ref a) x) : ItR K (Itl K a) xs F S ad (fun m' => seqL m' x = some xs) := by
  intro i H' F' S' ad' m' s C k
  obtain ⟨b, vs, e, hs, rs⟩ := seqL_at C (r.mono s.s s.p) k
  cases e
  refine ⟨fun y hy => ?_, fun hl0 => have hl := Nat.le_of_eq hl0; ⟨vs, hs, by rw [rs.length]; exact hl⟩⟩
  obtain ⟨u, hu, ru⟩ := rs.get hy
  refine ⟨⟨vs, u, hs, hu⟩, fun w H'' q => ?_⟩
  obtain ⟨e, q⟩ := q
  subst e
  have : u = w := Option.some.inj (hu.symm.trans (q vs hs))
  subst this
  exact ⟨F', S', Stp.refl _ _ _, C, ru⟩
theorem itr_tup {K : PySem.W.Frag} {F S : Hp} {ad : List Addr} {x : DV} {xs : List DV} {a : Addr} (r : VR K S ad (.ref a) x) (h : seqT x = some xs) : ItR K (Itt K a) xs F S ad (fun _ => True) := by
  intro i H' F' S' ad' m' s C k
  obtain ⟨b, vs, e, hs, rs⟩ := seqT_at (r.mono s.s s.p) h
  cases e
  have hs := sqt_ext (C.sF.trans C.FH) hs
  refine ⟨fun y hy => ?_, fun hl0 => have hl := Nat.le_of_eq hl0; ⟨vs, hs, by rw [rs.length]; exact hl⟩⟩
  obtain ⟨u, hu, ru⟩ := rs.get hy
  refine ⟨⟨vs, u, hs, hu⟩, fun w H'' q => ?_⟩
  obtain ⟨e, q⟩ := q
  subst e
  have : u = w := Option.some.inj (hu.symm.trans (q vs hs))
  subst this
  exact ⟨F', S', Stp.refl _ _ _, C, ru⟩
/-- over a list or a tuple -/
def iSeq (K : PySem.W.Frag) (tl : TE) : TI := fun σ H R => tl σ H fun x H1 => ∃ a, x = .ref a ∧ (((∃ xs, SqL K H1 a xs) ∧ R (Itl K a) H1) ∨ ((∃ xs, SqT K H1 a xs) ∧ R (Itt K a) H1))
theorem pi_seq {l : Expr} {tl : TE} (hl : PE X l tl) : PI X tg l (iSeq X.K tl) := by
  constructor
  intro pins t0 ρ G R I h
  apply thn (hl.run pins t0 ρ G _ I h)
  rintro v t ⟨_, G1, J, rv, p, rfl, q⟩
  cases rv
  have fp : ∀ b : Addr, b ∈ [t.heap.objs.size] → _ := fun b hb => (List.mem_singleton.mp hb).symm ▸ J.fpOk (Nat.le_refl t.heap.objs.size) (J.hok.fresh (Nat.le_refl t.heap.objs.size))
  rcases q with ⟨⟨xs, hq⟩, q⟩ | ⟨⟨xs, hq⟩, q⟩
  · obtain ⟨its, _, at1, _⟩ := J.list hq
    exact wpAny_pyIter_list at1.isList ⟨_, [t.heap.objs.size], _, _, G1, rfl, J.kept (t' := t.toks) (fun _ _ e => Heap.get?_push_of_some _ e), turn_list p _, ⟨_, Heap.get?_push_size _ rfl, rfl, rfl⟩, fp, q⟩
  · obtain ⟨its, _, at1, _⟩ := J.tuple hq
    have at2 : t.heap.IsTuple p its.toArray := at1
    exact wpAny_pyIter_tuple at2 ⟨_, [t.heap.objs.size], _, _, G1, rfl, J.kept (t' := t.toks) (fun _ _ e => Heap.get?_push_of_some _ e), turn_tuple p _, ⟨_, Heap.get?_push_size _ rfl, rfl, rfl⟩, fp, q⟩
abbrev dISeq (te : DT) : DTI := fun δ m Q E => te δ m (fun x m1 => match seqT x with
  | some xs => Q xs (fun _ => True) m1
  | none => match seqL m1 x with
    | some xs => Q xs (fun m' => seqL m' x = some xs) m1
    | none => False) E
theorem di_seq (he : DE X W iter te) : DI X W tg iter (dISeq te) := by
  obtain ⟨t1, p1, h1⟩ := he
  refine ⟨_, pi_seq p1, fun σ H F S ad m δ Qd Ed R C SRR h k kx => ?_⟩
  refine h1 σ H F S ad m δ _ Ed _ C SRR h (fun v H1 F1 S1 ad1 m1 x s1 C1 rv q1 => ?_) kx
  split at q1
  · rename_i xs e
    obtain ⟨a, vs, ev, hs, rs⟩ := seqT_at rv e
    subst ev
    exact ⟨a, rfl, .inr ⟨⟨vs, sqt_ext (C1.sF.trans C1.FH) hs⟩, k _ _ _ _ _ _ _ _ s1 C1 trivial (itr_tup rv e) q1⟩⟩
  · split at q1
    · rename_i xs e
      obtain ⟨a, vs, ev, hs, rs⟩ := seqL_at C1 rv e
      subst ev
      exact ⟨a, rfl, .inl ⟨⟨vs, hs⟩, k _ _ _ _ _ _ _ _ s1 C1 e (itr_list rv) q1⟩⟩
    · exact q1.elim
/-- range -/
theorem itr_range {K : PySem.W.Frag} {F S : Hp} {ad : List Addr} {lo : Int} {n : Nat} : ItR K (Itr lo n) ((List.range n).map fun (i : Nat) => .sh (.int (lo + (i : Int)))) F S ad (fun _ => True) := by
  intro i H' F' S' ad' m' s C k
  refine ⟨fun y hy => ?_, fun hl => (show n ≤ i from Nat.le_of_eq (by simpa using hl))⟩
  rw [List.getElem?_map] at hy
  by_cases hi : i < n
  · rw [List.getElem?_range hi] at hy
    cases hy
    refine ⟨hi, fun w H'' q => ?_⟩
    obtain ⟨e, q⟩ := q
    subst e; subst q
    exact ⟨F', S', Stp.refl _ _ _, C, .sh (.int _)⟩
  · rw [List.getElem?_eq_none (by simpa using Nat.le_of_not_lt hi)] at hy
    cases hy
def rgD (lo : Int) (n : Nat) : List DV := (List.range n).map fun (i : Nat) => .sh (.int (lo + (i : Int)))
abbrev dIRng1 (tr : DTA) : DTI := fun δ m Q E => tr δ m (fun xs m1 => match xs with
  | [.sh (.int j)] => (-(2 ^ 62) ≤ j ∧ j < 2 ^ 62) ∧ Q (rgD 0 j.toNat) (fun _ => True) m1
  | _ => False) E
abbrev dIRng2 (tr : DTA) : DTI := fun δ m Q E => tr δ m (fun xs m1 => match xs with
  | [.sh (.int i), .sh (.int j)] => (-(2 ^ 62) ≤ i ∧ i < 2 ^ 62 ∧ -(2 ^ 62) ≤ j ∧ j < 2 ^ 62) ∧ Q (rgD i (j - i).toNat) (fun _ => True) m1
  | _ => False) E
theorem vrs_int1 {K : PySem.W.Frag} {S : Hp} {ad : List Addr} {vs : List V} {j : Int} (r : VRs K S ad vs [.sh (.int j)]) : vs = [.int j] := by
  cases r with
  | cons a b => cases b; cases a with | sh h => cases h; rfl
theorem vrs_int2 {K : PySem.W.Frag} {S : Hp} {ad : List Addr} {vs : List V} {i j : Int} (r : VRs K S ad vs [.sh (.int i), .sh (.int j)]) : vs = [.int i, .int j] := by
  cases r with
  | cons a b =>
    cases a with | sh h => cases h; rw [vrs_int1 b]
theorem di_range1 {a : Expr} {p : Pos} (hg : Gl X "range") (hm : X.mg "range" = none) (ha : DA X W [a] tr) (hs : starEach [a] X.env = [(false, eval a X.env)] := by rfl) : DI X W tg (.Call (.Name "range" p) [a] [] pos) (dIRng1 tr) := by
  obtain ⟨t1, p1, h1⟩ := ha
  refine ⟨_, pi_range1 hg hm p1 hs, fun σ H F S ad m δ Qd Ed R C SRR h k kx => ?_⟩
  refine h1 σ H F S ad m δ _ Ed _ C SRR h (fun vs H1 F1 S1 ad1 m1 xs s1 C1 rs q1 => ?_) kx
  split at q1
  · rename_i j
    exact ⟨j, vrs_int1 rs, q1.1.1, q1.1.2, k _ _ _ _ _ _ _ _ s1 C1 trivial itr_range q1.2⟩
  · exact q1.elim
theorem di_range2 {a b : Expr} {p : Pos} (hg : Gl X "range") (hm : X.mg "range" = none) (ha : DA X W [a, b] tr) (hs : starEach [a, b] X.env = [(false, eval a X.env), (false, eval b X.env)] := by rfl) (hs2 : starEach [b] X.env = [(false, eval b X.env)] := by rfl) : DI X W tg (.Call (.Name "range" p) [a, b] [] pos) (dIRng2 tr) := by
  obtain ⟨t1, p1, h1⟩ := ha
  refine ⟨_, pi_range2 hg hm p1 hs hs2, fun σ H F S ad m δ Qd Ed R C SRR h k kx => ?_⟩
  refine h1 σ H F S ad m δ _ Ed _ C SRR h (fun vs H1 F1 S1 ad1 m1 xs s1 C1 rs q1 => ?_) kx
  split at q1
  · rename_i i j
    exact ⟨i, j, vrs_int2 rs, q1.1, k _ _ _ _ _ _ _ _ s1 C1 trivial itr_range q1.2⟩
  · exact q1.elim
/-- enumerate of a list -/
def enD (xs : List DV) : List DV := xs.zipIdx.map fun p => mkTup [.sh (.int (p.2 : Int)), p.1]
theorem itr_enum {K : PySem.W.Frag} {F S : Hp} {ad : List Addr} {x : DV} {xs : List DV} {a : Addr} (r : VR K S ad (.ref a) x) : ItR K (Ite K a) (enD xs) F S ad (fun m' => seqL m' x = some xs) := by
  intro i H' F' S' ad' m' s C k
  obtain ⟨b, vs, e, hs, rs⟩ := seqL_at C (r.mono s.s s.p) k
  cases e
  refine ⟨fun y hy => ?_, fun hl0 => have hl := Nat.le_of_eq hl0; ⟨vs, hs, by rw [rs.length]; simpa [enD] using hl⟩⟩
  unfold enD at hy
  rw [List.getElem?_map] at hy
  cases hz : xs[i]? with
  | none =>
    rw [List.getElem?_zipIdx, hz] at hy
    cases hy
  | some z =>
    rw [List.getElem?_zipIdx, hz] at hy
    simp at hy
    obtain ⟨u, hu, ru⟩ := rs.get hz
    refine ⟨⟨vs, u, hs, hu⟩, fun w H'' q => ?_⟩
    obtain ⟨T, y', ew, nT, eH, q⟩ := q
    have : u = y' := Option.some.inj (hu.symm.trans (q vs hs))
    subst this; subst ew; subst eH; subst hy
    obtain ⟨C2, s2⟩ := C.shared (o := .tup [.int (i : Nat), u]) nT
    exact ⟨_, _, s2, C2, vr_mkTup (SqT.of upd_same) (.cons (.sh (.int _)) (.cons (ru.stp s2) .nil))⟩
abbrev dIEnum (tr : DTA) : DTI := fun δ m Q E => tr δ m (fun xs m1 => match xs with
  | [x] => (match seqL m1 x with
    | some ys => Q (enD ys) (fun m' => seqL m' x = some ys) m1
    | none => False)
  | _ => False) E
theorem di_enum {p tpos : Pos} {elts : List Expr} {kk : Nat} (hg : Gl X "enumerate") (hm : X.mg "enumerate" = none) (ha : DA X W [e] tr) (hs : starEach [e] X.env = [(false, eval e X.env)] := by rfl) : DI X W (.Tuple elts kk tpos) (.Call (.Name "enumerate" p) [e] [] pos) (dIEnum tr) := by
  obtain ⟨t1, p1, h1⟩ := ha
  refine ⟨_, pi_enum hg hm p1 hs, fun σ H F S ad m δ Qd Ed R C SRR h k kx => ?_⟩
  refine h1 σ H F S ad m δ _ Ed _ C SRR h (fun vs H1 F1 S1 ad1 m1 xs s1 C1 rs q1 => ?_) kx
  split at q1
  · rename_i x
    split at q1
    · rename_i ys e
      cases rs with
      | cons r rr =>
        cases rr
        obtain ⟨a, us, ev, hs, rs⟩ := seqL_at C1 r e
        subst ev
        exact ⟨a, us, rfl, hs, k _ _ _ _ _ _ _ _ s1 C1 e (itr_enum r) q1⟩
    · exact q1.elim
  · exact q1.elim
/-- zip of two lists, of two tuples -/
def zpD (xs ys : List DV) : List DV := (xs.zip ys).map fun p => mkTup [p.1, p.2]
theorem zpD_at {xs ys : List DV} {i : Nat} {y : DV} (h : (zpD xs ys)[i]? = some y) : ∃ p q, xs[i]? = some p ∧ ys[i]? = some q ∧ y = mkTup [p, q] := by
  unfold zpD at h
  rw [List.getElem?_map] at h
  cases hz : (xs.zip ys)[i]? with
  | none => rw [hz] at h; cases h
  | some z =>
    rw [hz] at h
    simp at h
    rw [List.getElem?_zip_eq_some] at hz
    exact ⟨z.1, z.2, hz.1, hz.2, h.symm⟩
theorem zpD_end {xs ys : List DV} {i : Nat} (h : (zpD xs ys).length ≤ i) : xs.length ≤ i ∨ ys.length ≤ i := by
  unfold zpD at h
  rw [List.length_map, List.length_zip] at h
  omega
theorem itr_zip {K : PySem.W.Frag} {F S : Hp} {ad : List Addr} {x y : DV} {xs ys : List DV} {a b : Addr} (r : VR K S ad (.ref a) x) (r' : VR K S ad (.ref b) y) : ItR K (Itz K a b) (zpD xs ys) F S ad (fun m' => seqL m' x = some xs ∧ seqL m' y = some ys) := by
  intro i H' F' S' ad' m' s C k
  obtain ⟨_, vs, e, hs, rs⟩ := seqL_at C (r.mono s.s s.p) k.1
  cases e
  obtain ⟨_, us, e, hs', rs'⟩ := seqL_at C (r'.mono s.s s.p) k.2
  cases e
  refine ⟨fun z hz => ?_, fun hl0 => have hl := Nat.le_of_eq hl0; ⟨vs, us, hs, hs', by rw [rs.length, rs'.length]; exact zpD_end hl⟩⟩
  obtain ⟨p, q, hp, hq, e⟩ := zpD_at hz
  obtain ⟨u, hu, ru⟩ := rs.get hp
  obtain ⟨w, hw, rw'⟩ := rs'.get hq
  refine ⟨⟨vs, us, u, w, hs, hs', hu, hw⟩, fun w2 H'' q2 => ?_⟩
  obtain ⟨T, y1, y2, ew, nT, eH, q3, q4⟩ := q2
  have e1 : u = y1 := Option.some.inj (hu.symm.trans (q3 vs hs))
  have e2 : w = y2 := Option.some.inj (hw.symm.trans (q4 us hs'))
  subst e1; subst e2; subst ew; subst eH; subst e
  obtain ⟨C2, s2⟩ := C.shared (o := .tup [u, w]) nT
  exact ⟨_, _, s2, C2, vr_mkTup (SqT.of upd_same) (.cons (ru.stp s2) (.cons (rw'.stp s2) .nil))⟩
theorem itr_zipT {K : PySem.W.Frag} {F S : Hp} {ad : List Addr} {x y : DV} {xs ys : List DV} {a b : Addr} (r : VR K S ad (.ref a) x) (r' : VR K S ad (.ref b) y) (h : seqT x = some xs) (h' : seqT y = some ys) : ItR K (RZ.ItzT K a b) (zpD xs ys) F S ad (fun _ => True) := by
  intro i H' F' S' ad' m' s C k
  obtain ⟨_, vs, e, hs, rs⟩ := seqT_at (r.mono s.s s.p) h
  cases e
  obtain ⟨_, us, e, hs', rs'⟩ := seqT_at (r'.mono s.s s.p) h'
  cases e
  have hs := sqt_ext (C.sF.trans C.FH) hs
  have hs' := sqt_ext (C.sF.trans C.FH) hs'
  refine ⟨fun z hz => ?_, fun hl0 => have hl := Nat.le_of_eq hl0; ⟨vs, us, hs, hs', by rw [rs.length, rs'.length]; exact zpD_end hl⟩⟩
  obtain ⟨p, q, hp, hq, e⟩ := zpD_at hz
  obtain ⟨u, hu, ru⟩ := rs.get hp
  obtain ⟨w, hw, rw'⟩ := rs'.get hq
  refine ⟨⟨vs, us, u, w, hs, hs', hu, hw⟩, fun w2 H'' q2 => ?_⟩
  obtain ⟨T, y1, y2, ew, nT, eH, q3, q4⟩ := q2
  have e1 : u = y1 := Option.some.inj (hu.symm.trans (q3 vs hs))
  have e2 : w = y2 := Option.some.inj (hw.symm.trans (q4 us hs'))
  subst e1; subst e2; subst ew; subst eH; subst e
  obtain ⟨C2, s2⟩ := C.shared (o := .tup [u, w]) nT
  exact ⟨_, _, s2, C2, vr_mkTup (SqT.of upd_same) (.cons (ru.stp s2) (.cons (rw'.stp s2) .nil))⟩
abbrev dIZip (tr : DTA) : DTI := fun δ m Q E => tr δ m (fun xs m1 => match xs with
  | [x, y] => (match seqT x, seqT y with
    | some xs, some ys => Q (zpD xs ys) (fun _ => True) m1
    | _, _ => match seqL m1 x, seqL m1 y with
      | some xs, some ys => Q (zpD xs ys) (fun m' => seqL m' x = some xs ∧ seqL m' y = some ys) m1
      | _, _ => False)
  | _ => False) E
theorem di_zip {e2 : Expr} {p tpos : Pos} {elts : List Expr} {kk : Nat} (hg : Gl X "zip") (hm : X.mg "zip" = none) (ha : DA X W [e, e2] tr)
    (hs : starEach [e, e2] X.env = (false, eval e X.env) :: starEach [e2] X.env := by rfl) (hpl : (backTo pos (starEach [e2] X.env)).any (·.1) = false := by rfl) : DI X W (.Tuple elts kk tpos) (.Call (.Name "zip" p) [e, e2] [] pos) (dIZip tr) := by
  obtain ⟨t1, p1, h1⟩ := ha
  refine ⟨_, RZ.pi_zipA hg hm p1 hs hpl, fun σ H F S ad m δ Qd Ed R C SRR h k kx => ?_⟩
  refine h1 σ H F S ad m δ _ Ed _ C SRR h (fun vs H1 F1 S1 ad1 m1 xs s1 C1 rs q1 => ?_) kx
  split at q1
  · rename_i x y
    cases rs with
    | cons r rr =>
      cases rr with
      | cons r' rr =>
        cases rr
        split at q1
        · rename_i xs ys e e'
          obtain ⟨a, us, ev, hs, rs⟩ := seqT_at r e
          obtain ⟨b, ws, ew, hs', rs'⟩ := seqT_at r' e'
          subst ev; subst ew
          exact ⟨a, b, us, ws, rfl, .inr ⟨sqt_ext (C1.sF.trans C1.FH) hs, sqt_ext (C1.sF.trans C1.FH) hs', k _ _ _ _ _ _ _ _ s1 C1 trivial (itr_zipT r r' e e') q1⟩⟩
        · split at q1
          · rename_i xs ys e e'
            obtain ⟨a, us, ev, hs, rs⟩ := seqL_at C1 r e
            obtain ⟨b, ws, ew, hs', rs'⟩ := seqL_at C1 r' e'
            subst ev; subst ew
            exact ⟨a, b, us, ws, rfl, .inl ⟨hs, hs', k _ _ _ _ _ _ _ _ s1 C1 ⟨e, e'⟩ (itr_zip r r') q1⟩⟩
          · exact q1.elim
  · exact q1.elim
/-! ### for -/
/-- behind a turn, and at the start: what is given up, then the invariant -/
def WkI (n : Nat) (I : DEnv → Store → Prop) : DEnv → Store → Prop := fun δ m => ∃ δ0 m0, Wk δ m δ0 m0 ∧ n ≤ m0.length ∧ I δ0 m0
abbrev dFor (ti : DTI) (g : DTG) (tb : DTS) : DTS := fun D δ m => ti δ m (fun items kp m1 => ∃ I : List DV → DEnv → Store → Prop, WkI m1.length (I items) δ m1 ∧
  (∀ rest δ' m', I rest δ' m' → kp m' ∧ m1.length ≤ m'.length) ∧
  (∀ x rest δ' m', I (x :: rest) δ' m' → g x δ' m' (fun δ2 m2 => tb { D with nx := WkI m1.length (I rest), ct := WkI m1.length (I rest), bk := D.nx } δ2 m2)) ∧
  ∀ δ' m', I [] δ' m' → D.nx δ' m') (fun x m1 => D.ex x δ m1)
theorem pfx_of {ad ad' ad0 : List Addr} {n : Nat} (h : Pfx ad ad') (hn : ad.length ≤ n) (k : ∀ (k : Nat) (a : Addr), k < n → ad'[k]? = some a → ad0[k]? = some a) : Pfx ad ad0 := fun i a e => k i a (Nat.lt_of_lt_of_le (List.getElem?_eq_some_iff.mp e).1 hn) (h i a e)
theorem ds_for {body : List Stmt} {ti : DTI} {g : DTG} {tb : DTS} (hp : PassesOwn (model X.prog X.w) X.A X.env X.xe) (hc : X.calm = true) (hi : DI X W tg iter ti) (hg : DG X tg g) (hb : DSs X W body tb)
    (hs : ∀ x, foldedSetIterable iter X.env x = pure x := by intro _; rfl) : DS X W (.For tg iter body [] pos) (dFor ti g tb) := by
  obtain ⟨t1, p1, h1⟩ := hi
  obtain ⟨t2, p2, h2⟩ := hg
  obtain ⟨t3, p3, h3⟩ := hb
  refine ⟨_, ps_for hp hc p1 p2 p3 hs, fun σ H F S ad m δ D E C R h k => ?_⟩
  refine h1 σ H F S ad m δ _ _ _ C R h (fun J H1 F1 S1 ad1 m1 items kp s1 C1 hk T q1 => ?_) (k.ex.at R)
  obtain ⟨I, q0, qk, qs, qd⟩ := q1
  let Wf : Nat → Nat → St → Hp → Prop := fun i n σ' H' => n = items.length - i ∧ i ≤ items.length ∧ ∃ F' S' ad' m' δ', Stp F1 S1 ad1 F' S' ad' ∧ Core X.K H' F' S' ad' m' ∧ SR X.K S' ad' σ' δ' ∧ I (items.drop i) δ' m'
  have enter : ∀ i (hi : i ≤ items.length) σ' H' F' S' ad' m' δ', Stp F1 S1 ad1 F' S' ad' → Core X.K H' F' S' ad' m' → SR X.K S' ad' σ' δ' → WkI m1.length (I (items.drop i)) δ' m' → Wf i (items.length - i) σ' H' := by
    rintro i hi σ' H' F' S' ad' m' δ' s' C' R' ⟨δ0, m0, w, hl, hI⟩
    obtain ⟨ad0, C0, R0, kk⟩ := w.go C' R'
    exact ⟨rfl, hi, F', S', ad0, m0, δ0, ⟨s'.s, s'.f, pfx_of s'.p (by rw [C1.len]; exact hl) kk, s'.n⟩, C0, R0, hI⟩
  refine ⟨Wf, ⟨items.length - 0, enter 0 (Nat.zero_le _) σ H1 F1 S1 ad1 m1 δ (Stp.refl _ _ _) C1 (R.stp s1) (by simpa using q0)⟩, ?_⟩
  rintro i n σ' H' ⟨en, hi, F', S', ad', m', δ', s', C', R', hI⟩
  obtain ⟨t_go, t_stop⟩ := T i H' F' S' ad' m' ⟨s'.s, s'.p⟩ C' (qk _ _ _ hI).1
  by_cases hlt : i < items.length
  · have ed : items.drop i = items[i] :: items.drop (i + 1) := List.drop_eq_getElem_cons hlt
    obtain ⟨go, yl⟩ := t_go items[i] (List.getElem?_eq_getElem hlt)
    refine .inr ⟨go, Wf (i + 1) (items.length - (i + 1)), fun σ2 H2 w => ⟨items.length - (i + 1), by omega, w⟩, fun v H2 y => ?_⟩
    obtain ⟨F2, S2, s2, C2, rv⟩ := yl v H2 y
    rw [ed] at hI
    refine h2 v items[i] σ' H2 F2 S2 ad' m' δ' _ _ C2 (R'.stp s2) rv (qs _ _ _ _ hI) fun σ3 H3 F3 S3 ad3 m3 δ3 s3 C3 R3 q3 => ?_
    have s13 : Stp F1 S1 ad1 F3 S3 ad3 := (s'.trans s2).trans s3
    refine h3 σ3 H3 F3 S3 ad3 m3 δ3 _ _ C3 R3 q3 ⟨fun σ4 H4 F4 S4 ad4 m4 δ4 s4 C4 R4 q4 => ?_, (k.rt.stp s1).stp s13, (k.nx.stp s1).stp s13, fun σ4 H4 F4 S4 ad4 m4 δ4 s4 C4 R4 q4 => ?_, (k.ex.stp s1).stp s13⟩
    · exact enter (i + 1) hlt σ4 H4 F4 S4 ad4 m4 δ4 (s13.trans s4) C4 R4 q4
    · exact enter (i + 1) hlt σ4 H4 F4 S4 ad4 m4 δ4 (s13.trans s4) C4 R4 q4
  · have e : i = items.length := by omega
    subst e
    rw [List.drop_length] at hI
    exact .inl ⟨t_stop rfl, k.nx _ _ _ _ _ _ _ (s1.trans s') C' R' (qd _ _ hI)⟩
/-! ### while -/
abbrev dWhile (tA : DTB) (tb : DTS) : DTS := fun D δ m => ∃ (I : Nat → DEnv → Store → Prop) (n0 : Nat), WkI m.length (I n0) δ m ∧
  ∀ n δ' m', I n δ' m' → tA δ' m' (fun c m2 => if c = true then tb { D with nx := WkI m.length (fun δ3 m3 => ∃ n', n' < n ∧ I n' δ3 m3), ct := WkI m.length (fun δ3 m3 => ∃ n', n' < n ∧ I n' δ3 m3), bk := D.nx } δ' m2 else D.nx δ' m2) (fun x m1 => D.ex x δ' m1)
theorem ds_while {body : List Stmt} {tA : DTB} {tb : DTS} (hp : PassesOwn (model X.prog X.w) X.A X.env X.xe) (hc : DB X W c tA) (hb : DSs X W body tb) : DS X W (.While c body [] pos) (dWhile tA tb) := by
  obtain ⟨t1, p1, h1⟩ := hc
  obtain ⟨t3, p3, h3⟩ := hb
  refine ⟨_, ps_while hp p1 p3, fun σ H F S ad m δ D E C R h k => ?_⟩
  obtain ⟨I, n0, q0, qs⟩ := h
  let Wf : Nat → St → Hp → Prop := fun n σ' H' => ∃ F' S' ad' m' δ', Stp F S ad F' S' ad' ∧ Core X.K H' F' S' ad' m' ∧ SR X.K S' ad' σ' δ' ∧ I n δ' m'
  have enter : ∀ (J : DEnv → Store → Prop) σ' H' F' S' ad' m' δ', Stp F S ad F' S' ad' → Core X.K H' F' S' ad' m' → SR X.K S' ad' σ' δ' → WkI m.length J δ' m' → ∃ F' S' ad' m' δ', Stp F S ad F' S' ad' ∧ Core X.K H' F' S' ad' m' ∧ SR X.K S' ad' σ' δ' ∧ J δ' m' := by
    rintro J σ' H' F' S' ad' m' δ' s' C' R' ⟨δ0, m0, w, hl, hI⟩
    obtain ⟨ad0, C0, R0, kk⟩ := w.go C' R'
    exact ⟨F', S', ad0, m0, δ0, ⟨s'.s, s'.f, pfx_of s'.p (by rw [C.len]; exact hl) kk, s'.n⟩, C0, R0, hI⟩
  refine ⟨Wf, ⟨n0, enter _ σ H F S ad m δ (Stp.refl _ _ _) C R q0⟩, ?_⟩
  rintro n σ' H' ⟨F', S', ad', m', δ', s', C', R', hI⟩
  refine h1 σ' H' F' S' ad' m' δ' _ _ _ C' R' (qs n δ' m' hI) (fun c H1 F1 S1 ad1 m1 s1 C1 q1 => ?_) ((k.ex.stp s').at R')
  cases c with
  | true =>
    have s01 := s'.trans s1
    have back : ∀ σ4 H4 F4 S4 ad4 m4 δ4, Stp F1 S1 ad1 F4 S4 ad4 → Core X.K H4 F4 S4 ad4 m4 → SR X.K S4 ad4 σ4 δ4 → WkI m.length (fun δ3 m3 => ∃ n', n' < n ∧ I n' δ3 m3) δ4 m4 → ∃ n', n' < n ∧ Wf n' σ4 H4 := by
      intro σ4 H4 F4 S4 ad4 m4 δ4 s4 C4 R4 q4
      obtain ⟨F5, S5, ad5, m5, δ5, s5, C5, R5, n', hn, hI⟩ := enter _ σ4 H4 F4 S4 ad4 m4 δ4 (s01.trans s4) C4 R4 q4
      exact ⟨n', hn, F5, S5, ad5, m5, δ5, s5, C5, R5, hI⟩
    refine ⟨fun σ4 H4 => ∃ n', n' < n ∧ Wf n' σ4 H4, fun σ4 H4 z => z, ?_⟩
    exact h3 σ' H1 F1 S1 ad1 m1 δ' _ _ C1 (R'.stp s1) q1 ⟨back, k.rt.stp s01, k.nx.stp s01, back, k.ex.stp s01⟩
  | false => exact k.nx _ _ _ _ _ _ _ (s'.trans s1) C1 (R'.stp s1) q1
end
end DL
namespace DL
open PySem PySem.Spec PyProof.Rows L2
abbrev W0 : WX := fun _ _ _ _ => False
abbrev noE : DXK := fun _ _ => False
section
variable {X : Cx} {W : WX} {e tg iter : Expr} {t te : DT} {tt : DTB} {ti : DTI} {g : DTG} {pos : Pos} {ifs : List Expr}
def liftE (K : PySem.W.Frag) (W : WX) (t : DT) : TE := fun σ H Q => ∃ F S ad m δ Qd Ed, Core K H F S ad m ∧ SR K S ad σ δ ∧ t δ m Qd Ed ∧ KQ K F S ad Qd Q ∧ KX K F S ad Ed (fun c d H' => W c d σ H')
theorem DE.pe (h : DE X W e t) : PE X e (liftE X.K W t) := by
  obtain ⟨te, p, h⟩ := h
  exact ⟨fun pins s σ H Q I ⟨F, S, ad, m, δ, Qd, Ed, C, R, q, kq, kx⟩ => p.run pins s σ H Q I (h σ H F S ad m δ Qd Ed Q C R q kq kx)⟩
/-- the tests of a comprehension -/
structure DBs (X : Cx) (W : WX) (ifs : List Expr) (t : DTB) : Prop where
  ex : ∃ tt, PTs X ifs tt ∧ ∀ σ H F S ad m δ Qd Ed Q, Core X.K H F S ad m → SR X.K S ad σ δ → t δ m Qd Ed → KB X.K F S ad Qd Q → KX X.K F S ad Ed (fun c d H' => W c d σ H') → tt σ H Q
abbrev dYes : DTB := fun _ m Q _ => Q true m
theorem dbs_nil : DBs X W [] dYes := ⟨_, pts_nil, fun σ H F S ad m δ Qd Ed Q C R h kb kx => kb _ _ _ _ _ _ (Stp.refl _ _ _) C h⟩
theorem dbs_one {c : Expr} (h : DB X W c tt) : DBs X W [c] tt := by
  obtain ⟨te, p, h⟩ := h
  exact ⟨_, pts_one p, h⟩
def liftT (K : PySem.W.Frag) (W : WX) (t : DTB) : TT := fun σ H Q => ∃ F S ad m δ Qd Ed, Core K H F S ad m ∧ SR K S ad σ δ ∧ t δ m Qd Ed ∧ KB K F S ad Qd Q ∧ KX K F S ad Ed (fun c d H' => W c d σ H')
theorem DBs.pt (h : DBs X W ifs tt) : PTs X ifs (liftT X.K W tt) := by
  obtain ⟨te, p, h⟩ := h
  exact ⟨fun pins s σ H Q I ⟨F, S, ad, m, δ, Qd, Ed, C, R, q, kq, kx⟩ => p.run pins s σ H Q I (h σ H F S ad m δ Qd Ed Q C R q kq kx)⟩
/-! ### a target of names -/
def Off (σ σ' : St) (js : List Nat) : Prop := σ'.length = σ.length ∧ ∀ i, i ∉ js → σ'[i]? = σ[i]?
theorem Off.refl (σ : St) (js : List Nat) : Off σ σ js := ⟨rfl, fun _ _ => rfl⟩
theorem Off.trans {σ σ1 σ2 : St} {js : List Nat} (a : Off σ σ1 js) (b : Off σ1 σ2 js) : Off σ σ2 js := ⟨b.1.trans a.1, fun i h => (b.2 i h).trans (a.2 i h)⟩
structure DN (X : Cx) (tg : Expr) (js : List Nat) (t : DTG) : Prop where
  ex : ∃ g, PG X tg g ∧ ∀ v x σ H F S ad m δ Qd (Q : St → Hp → Prop), Core X.K H F S ad m → SR X.K S ad σ δ → VR X.K S ad v x → t x δ m Qd → (∀ σ' δ', Off σ σ' js → SR X.K S ad σ' δ' → Qd δ' m → Q σ' H) → g v σ H Q
structure DNs (X : Cx) (tgs : List Expr) (js : List Nat) (t : DTGs) : Prop where
  ex : ∃ g, PGs X tgs g ∧ ∀ vs xs σ H F S ad m δ Qd (Q : St → Hp → Prop), Core X.K H F S ad m → SR X.K S ad σ δ → VRs X.K S ad vs xs → t xs δ m Qd → (∀ σ' δ', Off σ σ' js → SR X.K S ad σ' δ' → Qd δ' m → Q σ' H) → g vs σ H Q
theorem off_set {σ : St} {i : Nat} {o : Option V} {js : List Nat} (h : i ∈ js) : Off σ (σ.set i o) js := ⟨by simp, fun j hj => List.getElem?_set_ne (fun z => hj (by rw [← z]; exact h))⟩
theorem dn_name (i : Nat) {x : Str} {js : List Nat} (hN : X.N.Nodup) (hi : X.N[i]? = some x := by rfl) (hj : i ∈ js := by decide) (hx : Loc X.env.scope x := by first | exact .inl rfl | exact .inr rfl) (hf : X.fn x = true ∨ X.env.scope.names.lookup x = some .local := by first | exact .inl rfl | exact .inr rfl | assumption) : DN X (.Name x pos) js (hName i) :=
  ⟨_, pg_name hN hi hx hf, fun v x σ H F S ad m δ Qd Q C R r h k => k _ _ (off_set hj) (R.set r i) h⟩
theorem dns_nil {js : List Nat} : DNs X [] js hNil := ⟨_, pgs_nil, fun vs xs σ H F S ad m δ Qd Q C R r h k => by
  cases r with
  | nil => exact ⟨rfl, k _ _ (Off.refl _ _) R h⟩
  | cons _ _ => exact h.elim⟩
theorem dns_cons {e : Expr} {es : List Expr} {t : DTG} {u : DTGs} {js : List Nat} (h1 : DN X e js t) (h2 : DNs X es js u) (hs : (assignEach (e :: es) X.env).map (·.2) = assign e X.env :: (assignEach es X.env).map (·.2) := by rfl) : DNs X (e :: es) js (hCons t u) := by
  obtain ⟨t1, p1, h1⟩ := h1
  obtain ⟨t2, p2, h2⟩ := h2
  refine ⟨_, pgs_cons p1 p2 hs, fun vs xs σ H F S ad m δ Qd Q C R r h k => ?_⟩
  cases r with
  | nil => exact h.elim
  | cons r rr =>
    refine ⟨_, _, rfl, h1 _ _ σ H F S ad m δ _ _ C R r h fun σ' δ' o R' q => ?_⟩
    exact h2 _ _ σ' H F S ad m δ' _ _ C R' rr q fun σ2 δ2 o2 R2 q2 => k σ2 δ2 (o.trans o2) R2 q2
theorem dn_tup {es : List Expr} {k : Nat} {t : DTGs} {n : Nat} {js : List Nat} (hc : X.calm = true) (h : DNs X es js t) (hn : (assignEach es X.env).length = n := by rfl) (hst : (assignEach es X.env).findIdx? (·.1) = none := by rfl) : DN X (.Tuple es k pos) js (hTup n t) := by
  obtain ⟨t1, p1, h1⟩ := h
  refine ⟨_, pg_tup hc p1 hn hst, fun v x σ H F S ad m δ Qd Q C R r h k => ?_⟩
  unfold hTup at h
  split at h
  · rename_i xs e
    obtain ⟨a, vs, ev, hs, hr⟩ := seqT_at r e
    exact ⟨a, vs, ev, sqt_ext (C.sF.trans C.FH) hs, by rw [hr.length]; exact h.1, h1 _ _ σ H F S ad m δ _ _ C R hr h.2 k⟩
  · exact h.elim
def liftG (K : PySem.W.Frag) (js : List Nat) (t : DTG) : TG := fun v σ H Q => ∃ F S ad m x δ Qd, Core K H F S ad m ∧ SR K S ad σ δ ∧ VR K S ad v x ∧ t x δ m Qd ∧ (∀ σ' δ', Off σ σ' js → SR K S ad σ' δ' → Qd δ' m → Q σ' H)
theorem DN.pg {js : List Nat} (h : DN X tg js g) : PG X tg (liftG X.K js g) := by
  obtain ⟨te, p, h⟩ := h
  exact ⟨fun pins s σ H v u Q I r ⟨F, S, ad, m, x, δ, Qd, C, R, rv, q, k⟩ => p.run pins s σ H v u Q I r (h v x σ H F S ad m δ Qd Q C R rv q k)⟩
/-! ### wiping -/
theorem wipe_in (σ : St) : ∀ (vs : List Nat) (i : Nat), i ∈ vs → i < σ.length → (wipe σ vs)[i]? = some none
  | [], i, h, _ => by cases h
  | v :: vs, i, h, hl => by
    show ((wipe σ vs).set v none)[i]? = some none
    by_cases e : v = i
    · subst e
      rw [List.getElem?_set_self (by rw [wipe_length]; exact hl)]
    · rw [List.getElem?_set_ne e]
      exact wipe_in σ vs i ((List.mem_cons.mp h).resolve_left (Ne.symm e)) hl
theorem wipe_off {σ σ2 : St} {vs : List Nat} (o : Off (wipe σ vs) σ2 vs) : wipe σ2 vs = wipe σ vs := by
  apply List.ext_getElem?
  intro i
  have hl : σ2.length = σ.length := by rw [o.1, wipe_length]
  by_cases h : i ∈ vs
  · by_cases hi : i < σ.length
    · rw [wipe_in σ2 vs i h (by rw [hl]; exact hi), wipe_in σ vs i h hi]
    · rw [List.getElem?_eq_none (by rw [wipe_length, hl]; omega), List.getElem?_eq_none (by rw [wipe_length]; omega)]
  · rw [wipe_out h, o.2 i h]
def dwipe (δ : DEnv) : List Nat → DEnv
  | [] => δ
  | v :: vs => (dwipe δ vs).set v none
theorem SR.unset {K : PySem.W.Frag} {S : Hp} {ad : List Addr} {σ : St} {δ : DEnv} (h : SR K S ad σ δ) (i : Nat) : SR K S ad (σ.set i none) (δ.set i none) := by
  refine ⟨by rw [List.length_set, List.length_set]; exact h.len, fun j y e => ?_⟩
  by_cases hj : j = i
  · subst hj
    have hl : j < δ.length := by
      have := (List.getElem?_eq_some_iff.mp e).1
      rwa [List.length_set] at this
    rw [List.getElem?_set_self hl] at e
    cases e
  · rw [List.getElem?_set_ne (Ne.symm hj)] at e
    obtain ⟨u, a, b⟩ := h.get j y e
    exact ⟨u, by rw [List.getElem?_set_ne (Ne.symm hj)]; exact a, b⟩
theorem SR.wiped {K : PySem.W.Frag} {S : Hp} {ad : List Addr} {σ : St} {δ : DEnv} (h : SR K S ad σ δ) : ∀ vs : List Nat, SR K S ad (wipe σ vs) (dwipe δ vs)
  | [] => h
  | v :: vs => (SR.wiped h vs).unset v
/-- what is given up behind a turn of a comprehension -/
def WkL (n : Nat) (xs : List DV) (J : Store → Prop) (m : Store) : Prop := (n ≤ m.length ∧ J m) ∨ ∃ m0 t, m = m0 ++ t ∧ Scp m0 ∧ DV.scs m0.length xs ∧ n ≤ m0.length ∧ J m0
theorem WkL.go {K : PySem.W.Frag} {H F S : Hp} {ad : List Addr} {m : Store} {n : Nat} {xs : List DV} {vs : List V} {J : Store → Prop} (w : WkL n xs J m) (C : Core K H F S ad m) (r : VRs K S ad vs xs) :
    ∃ m0 ad0, Core K H F S ad0 m0 ∧ VRs K S ad0 vs xs ∧ (∀ (k : Nat) (a : Addr), k < n → ad[k]? = some a → ad0[k]? = some a) ∧ J m0 ∧ n ≤ m0.length := by
  rcases w with ⟨hn, h⟩ | ⟨m0, t, e, sc, sx, hn, h⟩
  · exact ⟨m, ad, C, r, fun _ _ _ z => z, h, hn⟩
  · subst e
    exact ⟨m0, ad.take m0.length, C.cut sc, r.cutd sx, fun k a hk z => by rw [List.getElem?_take_of_lt (Nat.lt_of_lt_of_le hk hn)]; exact z, h, hn⟩
def lcTurn (n : Nat) (δ : DEnv) (vs : List Nat) (g : DTG) (tt : DTB) (te : DT) (I : List DV → List DV → Store → Prop) (x : DV) (rest acc : List DV) (m : Store) : Prop :=
  g x (dwipe δ vs) m fun δ2 m2 => tt δ2 m2 (fun b m3 => if b = true then te δ2 m3 (fun y m4 => acc.length < sizeLine ∧ WkL n (acc ++ [y]) (I rest (acc ++ [y])) m4) noE else WkL n acc (I rest acc) m3) noE
abbrev dLc (ti : DTI) (g : DTG) (tt : DTB) (te : DT) (vs : List Nat) : DT := fun δ m Q E => ti δ m (fun items kp m1 => ∃ I : List DV → List DV → Store → Prop, I items [] m1 ∧
  (∀ rest acc m', I rest acc m' → kp m') ∧
  (∀ x rest acc m', I (x :: rest) acc m' → lcTurn m1.length δ vs g tt te I x rest acc m') ∧
  ∀ acc m', I [] acc m' → Q (.own m'.length) (m' ++ [.lst acc])) E
theorem kx_no {K : PySem.W.Frag} {F S : Hp} {ad : List Addr} {Wx : XK} : KX K F S ad noE Wx := fun _ _ _ _ _ _ _ _ _ _ _ z => z.elim
theorem lc_run {K : PySem.W.Frag} {J : It} {items : List DV} {kp : Store → Prop} {H F S : Hp} {ad : List Addr} {m : Store} {σ : St} {δ : DEnv} {vs : List Nat} {Qd : DQ} {Q : VK} (C : Core K H F S ad m) (R : SR K S ad σ δ) (T : ItR K J items F S ad kp)
    {I : List DV → List DV → Store → Prop} (h0 : I items [] m) (hk : ∀ rest acc m', I rest acc m' → kp m') (hs : ∀ x rest acc m', I (x :: rest) acc m' → lcTurn m.length δ vs g tt te I x rest acc m') (hd : ∀ acc m', I [] acc m' → Qd (.own m'.length) (m' ++ [.lst acc])) (kq : KQ K F S ad Qd Q) :
    ∀ D, H D = none → ∃ W : Nat → Nat → Hp → Prop, (∃ m, W 0 m (upd H D (.lst []))) ∧ ∀ i m H, W i m H →
      (J.stop i H ∧ Q (.ref D) H) ∨ (J.go i H ∧ ∃ Nx : Hp → Prop, (∀ H', Nx H' → ∃ m', m' < m ∧ W (i + 1) m' H') ∧ ∀ x H', J.yld i H x H' → liftG K vs g x (wipe σ vs) H' fun σ2 H2 => wipe σ2 vs = wipe σ vs ∧ liftT K W0 tt σ2 H2 fun b H3 =>
        if b = true then liftE K W0 te σ2 H3 fun y H4 => ∃ acc, H4 D = some (.lst acc) ∧ acc.length < sizeLine ∧ Nx (upd H4 D (.lst (acc ++ [y]))) else Nx H3) := by
  intro D hD
  obtain ⟨C0, s0⟩ := C.keepNew (o := .lst []) hD
  have nFD : F D = none := C.noF hD
  have nSD : S D = none := C.noS nFD
  -- the state: the list made so far stands at D, kept
  let Wf : Nat → Nat → Hp → Prop := fun i n H' => n = items.length - i ∧ i ≤ items.length ∧ ∃ F' S' ad' m' acc avs, Stp F S ad F' S' ad' ∧ Core K H' F' S' ad' m' ∧ F' D = some (.lst avs) ∧ S' D = none ∧ VRs K S' ad' avs acc ∧ I (items.drop i) acc m'
  refine ⟨Wf, ⟨items.length - 0, rfl, Nat.zero_le _, _, S, ad, m, [], [], ⟨Ext.refl _, s0.f, Pfx.refl _, fun _ _ _ _ z => z⟩, C0, upd_same, nSD, .nil, by simpa using h0⟩, ?_⟩
  rintro i n H' ⟨en, hi, F', S', ad', m', acc, avs, s', C', fD, sD, ra, hI⟩
  obtain ⟨t_go, t_stop⟩ := T i H' F' S' ad' m' ⟨s'.s, s'.p⟩ C' (hk _ _ _ hI)
  by_cases hlt : i < items.length
  · have ed : items.drop i = items[i] :: items.drop (i + 1) := List.drop_eq_getElem_cons hlt
    obtain ⟨go, yl⟩ := t_go items[i] (List.getElem?_eq_getElem hlt)
    refine .inr ⟨go, Wf (i + 1) (items.length - (i + 1)), fun H2 w => ⟨items.length - (i + 1), by omega, w⟩, fun v H2 y => ?_⟩
    obtain ⟨F2, S2, s2, C2, rv⟩ := yl v H2 y
    rw [ed] at hI
    have R2 : SR K S2 ad' σ δ := (R.stp s').stp s2
    refine ⟨F2, S2, ad', m', items[i], dwipe δ vs, _, C2, R2.wiped vs, rv, hs _ _ _ _ hI, fun σ3 δ3 o3 R3 q3 => ⟨wipe_off o3, ?_⟩⟩
    refine ⟨F2, S2, ad', m', δ3, _, _, C2, R3, q3, fun b H4 F4 S4 ad4 m4 s4 C4 q4 => ?_, kx_no⟩
    -- what stays at D
    have dkeep : ∀ {F9 S9 ad9}, Stp F2 S2 ad' F9 S9 ad9 → F9 D = some (.lst avs) ∧ S9 D = none := fun {F9 S9 ad9} s9 => by
      have f2 := s2.f D _ fD
      refine ⟨s9.f D _ f2, ?_⟩
      cases q : S9 D with
      | none => rfl
      | some o =>
        have z := (s2.trans s9).n D _ o fD q
        rw [sD] at z; cases z
    cases b with
    | true =>
      refine ⟨F4, S4, ad4, m4, δ3, _, _, C4, R3.stp s4, q4, fun y H5 F5 S5 ad5 m5 yx s5 C5 ry q5 => ?_, kx_no⟩
      obtain ⟨hsz, w⟩ := q5
      have s25 := s4.trans s5
      obtain ⟨d5, e5⟩ := dkeep s25
      have ra5 : VRs K S5 ad5 (avs ++ [y]) (acc ++ [yx]) := ((ra.stp s2).stp s25).append (.cons ry .nil)
      refine ⟨avs, C5.FH D _ d5, by rw [ra.length]; exact hsz, ?_⟩
      have C6 := C5.keepUpd (o := .lst (avs ++ [y])) d5 e5
      have s06 : Stp F S ad (upd F5 D (.lst (avs ++ [y]))) S5 ad5 := by
        have z := (s'.trans s2).trans s25
        refine ⟨z.s, fun a u e => ?_, z.p, z.n⟩
        rw [upd_ne (ne_of_none e nFD)]
        exact z.f a u e
      obtain ⟨m0, ad0, C7, r7, kk, hJ, hn⟩ := w.go C6 ra5
      exact ⟨rfl, hlt, _, S5, ad0, m0, acc ++ [yx], avs ++ [y], ⟨s06.s, s06.f, pfx_of s06.p (by rw [C.len]; exact Nat.le_refl _) kk, s06.n⟩, C7, upd_same, e5, r7, hJ⟩
    | false =>
      obtain ⟨d5, e5⟩ := dkeep s4
      have ra5 : VRs K S4 ad4 avs acc := (ra.stp s2).stp s4
      have s06 := (s'.trans s2).trans s4
      obtain ⟨m0, ad0, C7, r7, kk, hJ, hn⟩ := WkL.go q4 C4 ra5
      exact ⟨rfl, hlt, F4, S4, ad0, m0, acc, avs, ⟨s06.s, s06.f, pfx_of s06.p (by rw [C.len]; exact Nat.le_refl _) kk, s06.n⟩, C7, d5, e5, r7, hJ⟩
  · have e : i = items.length := by omega
    subst e
    rw [List.drop_length] at hI
    refine .inl ⟨t_stop rfl, ?_⟩
    -- D becomes an entry
    let F0 : Hp := fun a => if a = D then none else F' a
    have f0 : Ext F0 F' := fun a u e => by
      show F' a = some u
      have e' : (if a = D then none else F' a) = some u := e
      by_cases q : a = D
      · rw [if_pos q] at e'; cases e'
      · rw [if_neg q] at e'; exact e'
    have z0 : F0 D = none := if_pos rfl
    have sF0 : Ext S' F0 := fun a u e => by
      have q : a ≠ D := fun q => by rw [q, sD] at e; cases e
      show (if a = D then none else F' a) = some u
      rw [if_neg q]; exact C'.sF a u e
    have C8 := C'.freeE (e := .lst acc) fD sD f0 z0 sF0 ⟨z0, avs, C'.FH D _ fD, ra.mono (Ext.refl _) (Pfx.app _ _)⟩
    have s8 : Stp F S ad F0 S' (ad' ++ [D]) := ⟨s'.s, fun a u e => by
      have q : a ≠ D := fun q => by rw [q, nFD] at e; cases e
      show (if a = D then none else F' a) = some u
      rw [if_neg q]; exact s'.f a u e, s'.p.trans (Pfx.app _ _), s'.n⟩
    refine kq _ _ _ _ _ _ _ s8 C8 (.own ?_) (hd _ _ hI)
    rw [← C'.len, List.getElem?_append_right (Nat.le_refl _)]
    simp
theorem de_lc {scope : Scope} (own : List (Str × Nat)) (hc : X.calm = true) (hN : X.N.Nodup) (hi : DI X W tg iter ti) (ok : BlkOk X.N X.env.scope scope own)
    (hg : ∀ (s : Shared) (H : Hp) (C : Addr) (cl : List (Str × Addr)) (fp : List Addr), DN (X.blk s H scope (compEnvC scope cl C X.env) fp) tg (own.map (·.2)) g) (ht : ∀ (s : Shared) (H : Hp) (C : Addr) (cl : List (Str × Addr)) (fp : List Addr), DBs (X.blk s H scope (compEnvC scope cl C X.env) fp) W0 ifs tt)
    (he : ∀ (s : Shared) (H : Hp) (C : Addr) (cl : List (Str × Addr)) (fp : List Addr), DE (X.blk s H scope (compEnvC scope cl C X.env) fp) W0 e te) (hs : ∀ x, foldedSetIterable iter X.env x = pure x := by intro _; rfl) :
    DE X W (.ListComp e [⟨tg, iter, ifs, 0⟩] scope pos) (dLc ti g tt te (own.map (·.2))) := by
  obtain ⟨t1, p1, h1⟩ := hi
  refine ⟨_, pe_lc (g := liftG X.K (own.map (·.2)) g) (tt := liftT X.K W0 tt) (te := liftE X.K W0 te) hc hN p1 ok (fun s H C cl fp => (hg s H C cl fp).pg) (fun s H C cl fp => (ht s H C cl fp).pt) (fun s H C cl fp => (he s H C cl fp).pe) hs, fun σ H F S ad m δ Qd Ed Q C R h kq kx => ?_⟩
  refine h1 σ H F S ad m δ _ Ed _ C R h (fun J H1 F1 S1 ad1 m1 items kp s1 C1 hk T q1 => ?_) kx
  obtain ⟨I, h0, hkp, hst, hdn⟩ := q1
  exact lc_run C1 (R.stp s1) T h0 hkp hst hdn (kq.stp s1)
theorem ds_setLc (i : Nat) {y : Str} {py : Pos} {scope : Scope} (own : List (Str × Nat)) {spos : Pos} (hc : X.calm = true) (hN : X.N.Nodup) (hi : DI X W tg iter ti) (ok : BlkOk X.N X.env.scope scope own)
    (hg : ∀ (s : Shared) (H : Hp) (C : Addr) (cl : List (Str × Addr)) (fp : List Addr), DN (X.blk s H scope (compEnvC scope cl C X.env) fp) tg (own.map (·.2)) g) (ht : ∀ (s : Shared) (H : Hp) (C : Addr) (cl : List (Str × Addr)) (fp : List Addr), DBs (X.blk s H scope (compEnvC scope cl C X.env) fp) W0 ifs tt)
    (he : ∀ (s : Shared) (H : Hp) (C : Addr) (cl : List (Str × Addr)) (fp : List Addr), DE (X.blk s H scope (compEnvC scope cl C X.env) fp) W0 e te)
    (hsw : swapsWith (.ListComp e [⟨tg, iter, ifs, 0⟩] scope pos) (some (.Name y py)) spos.line X.env = pure true := by exact sw_true rfl rfl rfl (by decide +kernel)) (hy : X.N[i]? = some y := by rfl) (hyl : X.env.scope.names.lookup y = some .local := by rfl) (hs : ∀ x, foldedSetIterable iter X.env x = pure x := by intro _; rfl) :
    DS X W (.Assign [.Name y py] (.ListComp e [⟨tg, iter, ifs, 0⟩] scope pos) spos) (dAsg (dLc ti g tt te (own.map (·.2))) (hName i)) := by
  obtain ⟨t1, p1, h1⟩ := hi
  refine ⟨_, ps_setLc (g := liftG X.K (own.map (·.2)) g) (tt := liftT X.K W0 tt) (te := liftE X.K W0 te) hc hN hy hyl hsw p1 ok (fun s H C cl fp => (hg s H C cl fp).pg) (fun s H C cl fp => (ht s H C cl fp).pt) (fun s H C cl fp => (he s H C cl fp).pe) hs, fun σ H F S ad m δ D E C R h k => ?_⟩
  refine h1 σ H F S ad m δ _ _ _ C R h (fun J H1 F1 S1 ad1 m1 items kp s1 C1 hk T q1 => ?_) (k.ex.at R)
  obtain ⟨I, h0, hkp, hst, hdn⟩ := q1
  refine lc_run (Qd := fun x m1 => hName i x δ m1 D.nx) (Q := fun v H2 => gName i v σ H2 E.nx) C1 (R.stp s1) T h0 hkp hst hdn fun v H2 F2 S2 ad2 m2 x s2 C2 rv q2 => ?_
  exact k.nx _ _ _ _ _ _ _ (s1.trans s2) C2 ((R.stp (s1.trans s2)).set rv i) q2
end
/-! ### a def by its body -/
/-- what leaves a def: entries at the end are forgotten -/
def RtQ (n : Nat) (Q : DQ) : DQ := fun x m => Q x m ∨ ∃ m0 t, m = m0 ++ t ∧ Scp m0 ∧ x.sc m0.length ∧ n ≤ m0.length ∧ Q x m0
def RtX (n : Nat) (Q : DXK) : DX → DEnv → Store → Prop := fun x _ m => Q x m ∨ ∃ m0 t, m = m0 ++ t ∧ Scp m0 ∧ kvsc m0.length x.fs ∧ n ≤ m0.length ∧ Q x m0
theorem RtQ.go {K : PySem.W.Frag} {F S H2 F2 S2 : Hp} {ad ad2 : List Addr} {m m2 : Store} {Qd : DQ} {Q : VK} {v : V} {y : DV} (kq : KQ K F S ad Qd Q) (hl : ad.length = m.length) (s : Stp F S ad F2 S2 ad2) (C : Core K H2 F2 S2 ad2 m2) (r : VR K S2 ad2 v y) (q : RtQ m.length Qd y m2) : Q v H2 := by
  rcases q with q | ⟨m0, t, e, sc, sy, hn, q⟩
  · exact kq v H2 F2 S2 ad2 m2 y s C r q
  · subst e
    refine kq v H2 F2 S2 (ad2.take m0.length) m0 y ⟨s.s, s.f, ?_, s.n⟩ (C.cut sc) (r.cutd sy) q
    exact pfx_of s.p (by rw [hl]; exact hn) fun k a hk z => by rw [List.getElem?_take_of_lt hk]; exact z
theorem RtX.go {K : PySem.W.Frag} {F S H2 F2 S2 : Hp} {ad ad2 : List Addr} {m m2 : Store} {δ : DEnv} {Ed : DXK} {E : XK} {cls : Value} {d : Option Addr} {x : DX} (kx : KX K F S ad Ed E) (hl : ad.length = m.length) (s : Stp F S ad F2 S2 ad2) (C : Core K H2 F2 S2 ad2 m2) (r : XR K S2 ad2 cls d H2 x) (q : RtX m.length Ed x δ m2) : E cls d H2 := by
  rcases q with q | ⟨m0, t, e, sc, sy, hn, q⟩
  · exact kx cls d H2 F2 S2 ad2 m2 x s C r q
  · subst e
    refine kx cls d H2 F2 S2 (ad2.take m0.length) m0 x ⟨s.s, s.f, ?_, s.n⟩ (C.cut sc) ?_ q
    · exact pfx_of s.p (by rw [hl]; exact hn) fun k a hk z => by rw [List.getElem?_take_of_lt hk]; exact z
    · obtain ⟨e, r⟩ := r
      exact ⟨e, r.cut sy⟩
def dstart (N : List Str) (xs : List DV) : DEnv := xs.map some ++ List.replicate (N.length - xs.length) none
theorem sr_start {K : PySem.W.Frag} {S : Hp} {ad : List Addr} {vs : List V} {xs : List DV} (N : List Str) (r : VRs K S ad vs xs) : SR K S ad (L2.start N vs) (dstart N xs) := by
  refine ⟨?_, fun i x e => ?_⟩
  · unfold L2.start dstart; simp [r.length]
  · unfold dstart at e
    by_cases hi : i < xs.length
    · rw [List.getElem?_append_left (by simpa using hi), List.getElem?_map] at e
      have e2 : xs[i]? = some x := by
        cases q : xs[i]? with
        | none => rw [q] at e; cases e
        | some y => rw [q] at e; cases e; rfl
      obtain ⟨v, h1, h2⟩ := r.get e2
      refine ⟨v, ?_, h2⟩
      unfold L2.start
      have hv : i < vs.length := by rw [r.length]; exact hi
      rw [List.getElem?_append_left (by simpa using hv), List.getElem?_map, h1]; rfl
    · rw [List.getElem?_append_right (by simpa using Nat.le_of_not_lt hi), List.getElem?_replicate] at e
      split at e <;> cases e
section
variable {P : Program} {w : World} {K : PySem.W.Frag} {mg : Str → Option Value} {base : Heap}
theorem dfn_ok {x qual : Str} {st : Stmt} {f : Addr} {fd : FuncData} {N ps : List Str} {k : Nat} {spec : DSpec} (F : Fun K x qual st f fd) (S : FnScope N ps (defScope st)) (len : ∀ xs m Q E, spec xs m Q E → xs.length = ps.length)
    (hbody : ∀ (cdv : Value) (A : Around) (outer : List Env) (s : Shared) (H : Hp) (E : XK), Room k (A.deeper (envOfC qual (defScope st) s.heap.objs.size f cdv)) →
      ∃ t, DSs (cxOf (L2.CX P w) P w K mg base N qual (defScope st) f cdv A outer s H E) (fun c d _ H' => E c d H') (defBody st) t ∧
        ∀ xs m Qd Ed, Scp m → spec xs m Qd Ed → t { nx := fun _ m' => RtQ m.length Qd (.sh .none) m', rt := RtQ m.length Qd, ex := RtX m.length Ed } (dstart N xs) m) : FnOk P w K mg base (L2.CX P w) (k + 1) f fd ps (dsp K spec) := by
  refine F.okX S (fun vs H Q E h => ?_) (fun cdv A outer s H vs Q E hr h => ?_)
  · obtain ⟨F', S', ad, m, xs, Qd, Ed, C, r, sp, _, _⟩ := h
    rw [r.length]; exact len xs m Qd Ed sp
  · obtain ⟨F', S', ad, m, xs, Qd, Ed, C, r, sp, kq, kx⟩ := h
    obtain ⟨t, ⟨ts, p, h⟩, q⟩ := hbody cdv A outer s H E hr
    refine ⟨ts, p, h (L2.start N vs) H F' S' ad m (dstart N xs) _ _ C (sr_start N r) (q xs m Qd Ed C.scp sp) ?_⟩
    have nn : ∀ (D : DEnv → Store → Prop) (Q : St → Hp → Prop), (∀ δ m, ¬ D δ m) → KS K F' S' ad D Q := fun D Q no σ' H' F2 S2 ad2 m2 δ2 _ _ _ q => (no _ _ q).elim
    refine ⟨fun σ' H2 F2 S2 ad2 m2 δ2 s2 C2 R2 q2 => RtQ.go kq C.len s2 C2 (.sh .non) q2, fun v H2 F2 S2 ad2 m2 y s2 C2 ry q2 => RtQ.go kq C.len s2 C2 ry q2, nn _ _ fun _ _ z => z, nn _ _ fun _ _ z => z,
      fun cls d σ' H2 F2 S2 ad2 m2 δ2 y s2 C2 R2 ry q2 => RtX.go (δ := δ2) kx C.len s2 C2 ry q2⟩
end
end DL
namespace DL
open PySem PySem.Spec PyProof.Rows L2

/-- room, and no repr is running -/
structure RoomG (k : Nat) (A : Around) : Prop where
  r : Room k A
  g : A.guards = some []
theorem RoomG.mono {j k : Nat} {A : Around} (x : RoomG k A) (h : j ≤ k) : RoomG j A := ⟨x.r.mono h, x.g⟩
theorem RoomG.deeper {k : Nat} {A : Around} (x : RoomG (k + 1) A) (env : Env) : RoomG k (A.deeper env) := ⟨x.r.deeper env, x.g⟩
structure FnG (P : Program) (w : World) (K : PySem.W.Frag) (mg : Str → Option Value) (base : Heap) (k : Nat) (f : Addr) (fd : FuncData) (ps : List Str) (sp : Sp) : Prop where
  len : ∀ vs H Q E, sp vs H Q E → vs.length = ps.length
  run : ∀ (A : Around) (outer : List Env) (s : Shared) (H : Hp) (args : Args) (us : List Value) (vs : List V) (Q : VK) (E : XK), RoomG k A → Env0 P w K mg base A outer s H →
    BindsTo s fd args (ps.zip us) → Vals vs us → sp vs H Q E → codeAny (model P w) A (.call (.ref f) args) (CR (L2.CX P w) outer P w H s Q E) s
section
variable {P : Program} {w : World} {K : PySem.W.Frag} {mg : Str → Option Value} {base : Heap}
theorem FnG.mono {j k : Nat} {f : Addr} {fd : FuncData} {ps : List Str} {sp : Sp} (G : FnG P w K mg base j f fd ps sp) (h : j ≤ k) : FnG P w K mg base k f fd ps sp :=
  ⟨G.len, fun A o s H as us vs Q E hr => G.run A o s H as us vs Q E (hr.mono h)⟩
theorem FnG.imp {k : Nat} {f : Addr} {fd : FuncData} {ps : List Str} {sp sp' : Sp} (G : FnG P w K mg base k f fd ps sp) (h : ∀ vs H Q E, sp' vs H Q E → sp vs H Q E) : FnG P w K mg base k f fd ps sp' :=
  ⟨fun vs H Q E q => G.len vs H Q E (h _ _ _ _ q), fun A o s H as us vs Q E hr he hb hv hs => G.run A o s H as us vs Q E hr he hb hv (h _ _ _ _ hs)⟩
/-- a def by its body -/
theorem fng_of {k : Nat} {x qual : Str} {st : Stmt} {f : Addr} {fd : FuncData} {N ps : List Str} {sp : Sp} (F0 : Fun K x qual st f fd) (S : FnScope N ps (defScope st)) (len : ∀ vs H Q E, sp vs H Q E → vs.length = ps.length)
    (hbody : ∀ (cdv : Value) (A : Around) (outer : List Env) (s : Shared) (H : Hp) (vs : List V) (Q : VK) (E : XK), RoomG k (A.deeper (envOfC qual (defScope st) s.heap.objs.size f cdv)) → sp vs H Q E →
      ∃ t, PSs (cxOf (L2.CX P w) P w K mg base N qual (defScope st) f cdv A outer s H E) (defBody st) t ∧ t { nx := fun _ H' => Q .non H', rt := Q } (L2.start N vs) H) : FnG P w K mg base (k + 1) f fd ps sp := by
  obtain ⟨oc, od, kV, doc, pm, an, cdv, ct, osl, rfl, lk, hcd⟩ := F0.ex
  refine ⟨len, fun A outer s H args us vs Q E hrg e0 hb rr hsp => ?_⟩
  have hr := hrg.r
  have hln := len _ _ _ _ hsp
  have KIn : K.In s.heap := e0.mod.kin.keeps fun b o e => (e0.bs b o e).1
  have limit : s.heap.NoLimit := e0.mod.nolimit.keeps fun b o e => (e0.bs b o e).1
  have kinds : ∀ y ∈ ps.zip us, (defScope st).names.lookup y.1 = some .local ∨ ((defScope st).names.lookup y.1 = some .cell ∧ ((cellsFrom (s.heap.objs.size + 1) (defScope st).names []).lookup y.1).isSome = true) := by
    rintro ⟨n, v⟩ hy
    rcases S.par n (List.of_mem_zip hy).1 with q | q
    · exact Or.inl q
    · exact Or.inr ⟨q, PySem.W.cellsFrom_some _ _ _ (Or.inl q)⟩
  refine codeAny_call_function hr.depth (KIn _ _ lk) rfl S.co S.gen rfl
    (PySem.W.codeRec_of KIn hcd) (hb _ _ _ _ ?_)
  refine wpAny_newFunctionEnv_cells S.kind kinds fun env eenv s1 x1 => ?_
  subst eenv
  refine ⟨limit.keeps x1.toInCall.keep, codeAny_func ?_⟩
  obtain ⟨t, ht, hq⟩ := hbody cdv A outer s H vs Q E (hrg.deeper _) hsp
  have I0 : Inv (cxOf (L2.CX P w) P w K mg base N qual (defScope st) f cdv A outer s H E) [] (L2.start N vs) H s1 := inv_start S hr.hd e0 hln rr x1
  refine wpAny_mono (ht.run [] s1 (L2.start N vs) H _ I0 hq) (fun fl s' hs => ?_) fun e s' hs => hs
  cases fl with
  | next =>
    obtain ⟨σ2, H2, J, q⟩ := hs
    exact ⟨.non, H2, J.os, J.bare, J.base, J.hok, rfl, q⟩
  | ret u =>
    obtain ⟨v, σ2, H2, J, rv, q⟩ := hs
    exact ⟨v, H2, J.os, J.bare, J.base, J.hok, rv, q⟩
  | brk =>
    obtain ⟨_, _, _, q⟩ := hs
    exact q.elim
  | cont =>
    obtain ⟨_, _, _, q⟩ := hs
    exact q.elim
/-- a def by its body, over data -/
theorem dfn_okG {x qual : Str} {st : Stmt} {f : Addr} {fd : FuncData} {N ps : List Str} {k : Nat} {spec : DSpec} (F : Fun K x qual st f fd) (S : FnScope N ps (defScope st)) (len : ∀ xs m Q E, spec xs m Q E → xs.length = ps.length)
    (hbody : ∀ (cdv : Value) (A : Around) (outer : List Env) (s : Shared) (H : Hp) (E : XK), RoomG k (A.deeper (envOfC qual (defScope st) s.heap.objs.size f cdv)) →
      ∃ t, DSs (cxOf (L2.CX P w) P w K mg base N qual (defScope st) f cdv A outer s H E) (fun c d _ H' => E c d H') (defBody st) t ∧
        ∀ xs m Qd Ed, Scp m → spec xs m Qd Ed → t { nx := fun _ m' => RtQ m.length Qd (.sh .none) m', rt := RtQ m.length Qd, ex := RtX m.length Ed } (dstart N xs) m) : FnG P w K mg base (k + 1) f fd ps (dsp K spec) := by
  refine fng_of F S (fun vs H Q E h => ?_) (fun cdv A outer s H vs Q E hr h => ?_)
  · obtain ⟨F', S', ad, m, xs, Qd, Ed, C, r, sp, _, _⟩ := h
    rw [r.length]; exact len xs m Qd Ed sp
  · obtain ⟨F', S', ad, m, xs, Qd, Ed, C, r, sp, kq, kx⟩ := h
    obtain ⟨t, ⟨ts, p, h⟩, q⟩ := hbody cdv A outer s H E hr
    refine ⟨ts, p, h (L2.start N vs) H F' S' ad m (dstart N xs) _ _ C (sr_start N r) (q xs m Qd Ed C.scp sp) ?_⟩
    have nn : ∀ (D : DEnv → Store → Prop) (Q : St → Hp → Prop), (∀ δ m, ¬ D δ m) → KS K F' S' ad D Q := fun D Q no σ' H' F2 S2 ad2 m2 δ2 _ _ _ q => (no _ _ q).elim
    refine ⟨fun σ' H2 F2 S2 ad2 m2 δ2 s2 C2 R2 q2 => RtQ.go kq C.len s2 C2 (.sh .non) q2, fun v H2 F2 S2 ad2 m2 y s2 C2 ry q2 => RtQ.go kq C.len s2 C2 ry q2, nn _ _ fun _ _ z => z, nn _ _ fun _ _ z => z,
      fun cls d σ' H2 F2 S2 ad2 m2 δ2 y s2 C2 R2 ry q2 => RtX.go (δ := δ2) kx C.len s2 C2 ry q2⟩
/-- the law's own call -/
theorem lawG {k : Nat} {fa a : Addr} {fd : FuncData} {x : Str} {sp : Sp} {s1 : Shared} {vs : List Value} {ns : List Int} {mb : Str → Option Value} (KX : K.In s1.heap) (hns : s1.heap.Ns mainGlobals mg) (hbl : s1.heap.Ns builtinsNs mb) (hbb : ∀ y : Str, y ≠ "__name__" → mb y = bootBuiltins y)
    (hlim : s1.heap.NoLimit) (hg : s1.gens = #[]) (ha : s1.heap.get? a = some { cls := .type "list", data := .seq vs.toArray }) (hi : IntsAre vs ns) (hl : ns.length ≤ sizeLine) (hr : RoomG k callerA)
    (G : ∀ base : Heap, K.In base → base.Ns mainGlobals mg → FnG P w K mg base k fa fd [x] sp) (hbind : ∀ (s : Shared) (u : Value), BindsTo s fd ⟨[u], []⟩ [(x, u)])
    (hsp : ∀ H : Hp, Only H → SqL K H a (ns.map V.int) → sp [.ref a] H (fun v _ => v = .bl true) fun _ _ _ => False) :
    codeAny (model P w) callerA (.call (.ref fa) ⟨[.ref a], []⟩) (fun r s' => r = .ok (.ret (.bool true)) ∧ OldK s1.heap s'.heap ∧ s'.os = s1.os ∧ AllBare s'.gens) s1 := by
  have rvs := vals_ints hi
  have lnv := hi.length
  have main : ∀ H : Hp, Only H → SqL K H a (ns.map V.int) → HOk P w H s1.heap → (∀ b, H b ≠ none → b = a) → (H a ≠ none → K.lookup a = none) →
      codeAny (model P w) callerA (.call (.ref fa) ⟨[.ref a], []⟩) (fun r s' => r = .ok (.ret (.bool true)) ∧ OldK s1.heap s'.heap ∧ s'.os = s1.os ∧ AllBare s'.gens) s1 := by
    intro H only sq held alone apart
    have inB : ∀ {b : Addr} {o : Obj}, s1.heap.get? b = some o → H b = none → (hidT s1.heap H).get? b = some o := fun q n => hidT_get q n
    have free : ∀ {b : Addr} {o : Obj} {es : Array DictEntry} {ep : Nat}, s1.heap.get? b = some o → o.data = .dict es ep → H b = none := by
      intro b o es ep q d
      cases z : H b with
      | none => rfl
      | some u =>
        have ba : b = a := alone b (by rw [z]; simp)
        subst ba
        rw [ha] at q; cases q
        have d2 : Data.seq vs.toArray _ = Data.dict es ep := d
        cases d2
    have nsB : ∀ {b : Addr} {m : Str → Option Value}, s1.heap.Ns b m → (hidT s1.heap H).Ns b m := by
      rintro b m ⟨o, es, ep, q, d, r⟩
      exact ⟨o, es, ep, inB q (free q d), d, r⟩
    have KB : K.In (hidT s1.heap H) := by
      intro b o q
      refine inB (KX b o q) ?_
      cases z : H b with
      | none => rfl
      | some u =>
        have ba : b = a := alone b (by rw [z]; simp)
        subst ba
        rw [apart (by rw [z]; simp)] at q; cases q
    have lim : (hidT s1.heap H).NoLimit := by
      obtain ⟨mc, l1, l2⟩ := hlim
      exact ⟨mc, nsB l1, l2⟩
    have md : Mod K mg (hidT s1.heap H) := ⟨KB, nsB hns, ⟨mb, nsB hbl, hbb⟩, lim⟩
    have ev : Env0 P w K mg (hidT s1.heap H) callerA [] s1 H :=
      ⟨rfl, md, fun b o q => of_hidT q, Nat.le_of_eq (hidT_size _ _), trivial,
        fun b hb => absurd (show b ∈ ([] : List Addr) from hb) (by simp), held, .of_eq hg⟩
    have run := (G _ KB (nsB hns)).run callerA [] s1 H ⟨[.ref a], []⟩ [.ref a] [.ref a] _ _ hr ev (hbind s1 (.ref a)) (.cons rfl .nil) (hsp H only sq)
    refine codeAny_mono run fun r s' h => ?_
    match r, h with
    | .error e, h =>
      obtain ⟨_, _, _, _, _, _, _, _, _, _, _, _, z⟩ := h
      exact z.elim
    | .ok .next, h => exact False.elim h
    | .ok .brk, h => exact False.elim h
    | .ok .cont, h => exact False.elim h
    | .ok (.ret u), h =>
      obtain ⟨v, H2, os, bare, un, held2, r2, q⟩ := h
      have vt : v = .bl true := q
      subst vt
      obtain rfl : u = Value.bool true := r2
      refine ⟨rfl, OldK.of_keep fun b o eo => ?_, os, bare⟩
      cases z : H b with
      | none => exact un.keep b o eo z (by intro y; exact absurd (show b ∈ ([] : List Addr) from y) (by simp)) (by simp)
      | some u =>
        rcases only b with y | ⟨ob, xs, y⟩
        · rw [z] at y; cases y
        · have y2 := un.frzs b ob _ y
          obtain ⟨g1, _⟩ := held b _ y
          obtain ⟨g2, _⟩ := held2 b _ y2
          rw [eo] at g1; cases g1
          exact g2
  cases hk : K.lookup a with
  | some o =>
    have q := KX a o hk
    rw [ha] at q
    cases q
    refine main (fun _ => none) (fun _ => .inl rfl) (.inr ⟨_, vs.toArray, _, hk, rfl, rfl, rfl, ?_, by simpa using rvs⟩) (fun b u z => ?_) (fun b z => absurd rfl z) fun z => absurd rfl z
    · rw [List.size_toArray, lnv]; exact hl
    · have z2 : (none : Option HO) = some u := z
      cases z2
  | none =>
    let H1 : Hp := fun b => if b = a then some (.frz { cls := .type "list", data := .seq vs.toArray } (.lst (ns.map V.int))) else none
    have h1 : H1 a = some (.frz { cls := .type "list", data := .seq vs.toArray } (.lst (ns.map V.int))) := if_pos rfl
    have h2 : ∀ b, b ≠ a → H1 b = none := fun b hb => if_neg hb
    refine main H1 (fun b => ?_) (.inl (.inr ⟨_, h1⟩)) (fun b u z => ?_) (fun b z => ?_) fun _ => hk
    · by_cases hb : b = a
      · subst hb; exact .inr ⟨_, _, h1⟩
      · exact .inl (h2 b hb)
    · by_cases hb : b = a
      · subst hb
        rw [h1] at z; cases z
        exact ⟨ha, by rw [List.length_map]; exact hl, vs, _, rvs, ha⟩
      · rw [h2 b hb] at z; cases z
    · by_cases hb : b = a
      · exact hb
      · exact absurd (h2 b hb) z
/-- the goal that k_head leaves, from the law's promise -/
theorem walkG {l : PySem.W.OpenLaw} {n k : Nat} {q : Program} {loose : List Str} {XP : (Str → Option Value) → Heap → Prop} {YP : World → Heap → Prop} {d : DefRec} {K : Params → PySem.W.Frag} {sp : World → Sp} {x : Str}
    (hn : l.most = some n) (hn2 : n ≤ sizeLine) (hdf : d.params.defaults = []) (hr : RoomG k callerA) (hY : ∀ (w : World) (h : Heap), YP w h → (K w.params).In h)
    (G : ∀ (w : World) (mg : Str → Option Value) (fa : Addr) (h : Heap), (K w.params).In h → h.Ns mainGlobals mg → mg d.name = some (.ref fa) →
      ∃ fd : FuncData, (∀ (s : Shared) (u : Value), BindsTo s fd ⟨[u], []⟩ [(x, u)]) ∧ ∀ base : Heap, (K w.params).In base → base.Ns mainGlobals mg → FnG l.prog w (K w.params) mg base k fa fd [x] (sp w))
    (hsp : ∀ (w : World) (H : Hp) (a : Addr) (ns : List Int), ns.length ≤ n → Only H → SqL (K w.params) H a (ns.map V.int) → sp w [.ref a] H (fun v _ => v = .bl true) fun _ _ _ => False) :
    PySem.W.WalkO q loose XP YP l.row.toRowW d [] (fun f vs => PySem.call f vs) := by
  refine Att.attach_call hn hdf fun w s0 s1 mg mb fa o pm cd doc a vs ns GG Y ho hd hcd hmg hobj hints hlen hg => ?_
  have KX := hY w _ Y
  obtain ⟨fd, hb, hG⟩ := G w mg fa _ KX GG.T.g hmg
  exact lawG KX GG.T.g GG.T.b GG.T.builtins GG.T.nolimit hg hobj hints (Nat.le_trans hlen hn2) hr hG hb fun H hO hS => hsp w H a ns hlen hO hS
end
section
variable {X : Cx} {W : WX} {e : Expr} {es : List Expr} {tr : DTA} {pos : Pos}
theorem runG {k : Nat} {f : Addr} {fd : FuncData} {ps : List Str} {sp : Sp} {E : St → XK} {pins : List (Addr × Obj)} {σ : St} {H : Hp} {s : Shared} {Q : VK} {us : List Value} {vs : List V}
    (G : FnG X.prog X.w X.K X.mg X.base k f fd ps sp) (hr : RoomG k X.A) (hb : Binds X.K fd ps []) (hx : PassesAt (L2.CX X.prog X.w) X σ (E σ))
    (I : Inv X pins σ H s) (r : Vals vs us) (h : sp vs H Q (E σ)) : wpAny (model X.prog X.w) X.A (call (.ref f) us) (EP X pins σ Q) X.xe s := by
  have hln : us.length = ps.length := r.length.symm.trans (G.len _ _ _ _ h)
  have bd : BindsTo s fd ⟨us, []⟩ (ps.zip us) := by
    have z := hb s us I.kIn (by rw [List.append_nil]; exact hln)
    rwa [List.append_nil] at z
  refine wpAny_call (codeAny_mono (G.run X.A X.stack s H ⟨us, []⟩ us vs Q (E σ) hr I.env0 bd r h) fun res s' hq => ?_)
  match res, hq with
  | .error e, hq => exact hx pins H s e s' I hq
  | .ok (.ret u), hq => exact I.after hq
  | .ok .next, hq => exact False.elim hq
  | .ok .brk, hq => exact False.elim hq
  | .ok .cont, hq => exact False.elim hq
theorem pe_callG {k : Nat} {f : Addr} {fd : FuncData} {ps : List Str} {sp : Sp} {E : St → XK} {x : Str} {p : Pos} {t : TA} (G : FnG X.prog X.w X.K X.mg X.base k f fd ps sp) (hr : RoomG k X.A) (hg : Gl X x) (hm : X.mg x = some (.ref f)) (hk : PySem.W.keepIn X.K (.ref f) = true) (hb : Binds X.K fd ps [])
    (hx : ∀ σ, PassesAt (L2.CX X.prog X.w) X σ (E σ)) (ha : PA X (e :: es) t) (hdb : (x == ("__debug__" : Str)) = false := by decide) (he : starEach (e :: es) X.env = (false, eval e X.env) :: starEach es X.env := by rfl) (hpl : (backTo pos (starEach es X.env)).any (·.1) = false := by rfl) :
    PE X (.Call (.Name x p) (e :: es) [] pos) (tCallSD sp [] E t) := by
  constructor
  intro pins s σ H Q I0 h0
  refine wpAny_Call_Name_kw (ld_glob I0 hg hm ?_ hdb)
  refine PySem.W.callWith_K (h₀ := X.base) I0.ok.mod.kin hk
    (thn (ha.run pos pins s σ H _ I0 h0) fun us s1 hh => ?_) he hpl
  obtain ⟨vs, H1, I1, r, q⟩ := hh
  rw [List.append_nil] at q
  exact ⟨I1.kIn, runG G hr hb (hx σ) I1 r q⟩
theorem de_callG {x : Str} {p : Pos} {k : Nat} {f : Addr} {fd : FuncData} {ps : List Str} {spec : DSpec} (G : FnG X.prog X.w X.K X.mg X.base k f fd ps (dsp X.K spec)) (tk : Takes X W) (hr : RoomG k X.A) (hg : Gl X x) (hm : X.mg x = some (.ref f)) (hk : PySem.W.keepIn X.K (.ref f) = true) (hb : Binds X.K fd ps [])
    (ha : DA X W (e :: es) tr) (hdb : (x == ("__debug__" : Str)) = false := by decide) (he : starEach (e :: es) X.env = (false, eval e X.env) :: starEach es X.env := by rfl) (hpl : (backTo pos (starEach es X.env)).any (·.1) = false := by rfl) :
    DE X W (.Call (.Name x p) (e :: es) [] pos) (dCall spec tr) := by
  obtain ⟨t1, p1, h1⟩ := ha
  refine ⟨_, pe_callG (E := fun σ c d H => W c d σ H) G hr hg hm hk hb (fun σ => passAt tk σ) p1 hdb he hpl, fun σ H F S ad m δ Qd Ed Q C R hh kq kx => ?_⟩
  refine h1 σ H F S ad m δ _ Ed _ C R hh (fun vs H1 F1 S1 ad1 m1 xs s1 C1 rs q1 => ?_) kx
  rw [List.append_nil]
  exact ⟨F1, S1, ad1, m1, xs, Qd, Ed, C1, rs, q1, kq.stp s1, kx.stp s1⟩
end
end DL
namespace DL
open PySem PySem.Spec PyProof.Rows L2
section
variable {K : PySem.W.Frag} {S F H : Hp} {ad : List Addr} {m : Store}
theorem vr_int {v : V} {i : Int} (r : VR K S ad v (.sh (.int i))) : v = .int i := by cases r with | sh h => cases h; rfl
theorem vr_bl {v : V} {i : Bool} (r : VR K S ad v (.sh (.bool i))) : v = .bl i := by cases r with | sh h => cases h; rfl
theorem vr_str {v : V} {i : Str} (r : VR K S ad v (.sh (.str i))) : v = .str i := by cases r with | sh h => cases h; rfl
theorem vr_non {v : V} (r : VR K S ad v (.sh .none)) : v = .non := by cases r with | sh h => cases h; rfl
theorem vr_tup {v : V} {ds : List PyData} (r : VR K S ad v (.sh (.tuple ds))) : ∃ a vs, v = .ref a ∧ SqT K S a vs ∧ DpAll K S vs ds := by
  cases r with
  | sh h => cases h with | tup hs ha => exact ⟨_, _, rfl, hs, ha⟩
theorem dpa_len : ∀ {vs : List V} {ds : List PyData}, DpAll K S vs ds → vs.length = ds.length
  | _, _, .nil => rfl
  | _, _, .cons _ t => by simp only [List.length_cons]; rw [dpa_len t]
theorem dpa_app : ∀ {vs us : List V} {ds es : List PyData}, DpAll K S vs ds → DpAll K S us es → DpAll K S (vs ++ us) (ds ++ es)
  | _, _, _, _, .nil, s => s
  | _, _, _, _, .cons r t, s => .cons r (dpa_app t s)
theorem Core.sqt (C : Core K H F S ad m) {a : Addr} {vs : List V} (h : SqT K S a vs) : SqT K H a vs := sqt_ext (C.sF.trans C.FH) h
theorem Core.sql (C : Core K H F S ad m) {a : Addr} {vs : List V} (h : SqL K S a vs) : SqL K H a vs := sql_ext (C.sF.trans C.FH) h
end
/-! ### whole numbers -/
abbrev int2 (C : Int → Int → Prop) (g : Int → Int → DV) : DV → DV → Store → DQ → Prop := fun x y m Q => match x, y with
  | .sh (.int i), .sh (.int j) => C i j ∧ Q (g i j) m
  | _, _ => False
theorem lk_int2 {K : PySem.W.Frag} {C : Int → Int → Prop} {g : Int → Int → V} {g' : Int → Int → PyData} (h : ∀ i j S, Dp K S (g i j) (g' i j)) : Lk2 K (rI C g) (int2 C fun i j => .sh (g' i j)) := by
  intro H F S ad m v u x y Qd Q Co rv ru q kq
  unfold int2 at q
  split at q
  · rename_i i j
    exact ⟨i, j, vr_int rv, vr_int ru, q.1, kq _ _ _ _ _ _ _ (Stp.refl _ _ _) Co (.sh (h i j S)) q.2⟩
  · exact q.elim
theorem rI0_eq {g : Int → Int → V} : rI0 g = rI (fun _ _ => True) g := by
  funext x y H Q
  simp only [rI0, rI, true_and]
def cNz (_ j : Int) : Prop := j ≠ 0
def cDiv (_ j : Int) : Prop := j ≠ 0 ∧ j.natAbs.log2 < 9000
theorem op_fdivZ {X : Cx} : OpR X (binaryOp .FloorDiv) (rI cDiv fun i j => .int (i.fdiv j)) := opI fun _ _ _ _ _ _ _ hc q => floordiv_int hc.1 q (.inl (PyProof.noPylong_of_log2 hc.2))
theorem op_modZ {X : Cx} : OpR X (binaryOp .Mod) (rI cNz fun i j => .int (i.fmod j)) := opI fun _ _ _ _ _ _ _ hc q => mod_int' hc q
theorem op_mulZ {X : Cx} : OpR X (binaryOp .Mult) (rI IntMulOk fun i j => .int (i * j)) := opI fun _ _ _ _ _ _ _ hc q => mul_int q hc
abbrev cT (_ _ : Int) : Prop := True
section
variable {X : Cx} {W : WX} {a b c e : Expr} {ta tb tc : DT} {tr : DTA} {pos : Pos} {es : List Expr}
abbrev gSub := int2 cT fun i j => .sh (.int (i - j))
abbrev gFdiv := int2 cDiv fun i j => .sh (.int (i.fdiv j))
abbrev gMod := int2 cNz fun i j => .sh (.int (i.fmod j))
abbrev gPow := int2 CPow fun i j => .sh (.int (i ^ j.toNat))
theorem de_sub (ha : DE X W a ta) (hb : DE X W b tb) : DE X W (.BinOp a .Sub b pos) (dBin gSub ta tb) := de_op (by rw [← rI0_eq]; exact op_sub) (lk_int2 fun _ _ _ => .int _) ha hb
theorem de_fdiv (ha : DE X W a ta) (hb : DE X W b tb) : DE X W (.BinOp a .FloorDiv b pos) (dBin gFdiv ta tb) := de_op op_fdivZ (lk_int2 fun _ _ _ => .int _) ha hb
theorem de_mod (ha : DE X W a ta) (hb : DE X W b tb) : DE X W (.BinOp a .Mod b pos) (dBin gMod ta tb) := de_op op_modZ (lk_int2 fun _ _ _ => .int _) ha hb
theorem de_pow (ha : DE X W a ta) (hb : DE X W b tb) : DE X W (.BinOp a .Pow b pos) (dBin gPow ta tb) := de_op op_pow (lk_int2 fun _ _ _ => .int _) ha hb
abbrev gLt := int2 cT fun i j => .sh (.bool (decide (i < j)))
abbrev gLe := int2 cT fun i j => .sh (.bool (decide (i ≤ j)))
abbrev gGt := int2 cT fun i j => .sh (.bool (decide (j < i)))
abbrev gGe := int2 cT fun i j => .sh (.bool (decide (j ≤ i)))
theorem lo_lt : OpR X (compareOp .Lt) (rI cT fun i j => .bl (decide (i < j))) := by rw [← rI0_eq]; exact op_lt
theorem lo_le : OpR X (compareOp .LtE) (rI cT fun i j => .bl (decide (i ≤ j))) := by rw [← rI0_eq]; exact op_le
theorem lo_gt : OpR X (compareOp .Gt) (rI cT fun i j => .bl (decide (j < i))) := by rw [← rI0_eq]; exact op_gt
theorem lo_ge : OpR X (compareOp .GtE) (rI cT fun i j => .bl (decide (j ≤ i))) := by rw [← rI0_eq]; exact op_ge
theorem ll_lt {K : PySem.W.Frag} : Lk2 K (rI cT fun i j => .bl (decide (i < j))) gLt := lk_int2 fun _ _ _ => .bl _
theorem ll_le {K : PySem.W.Frag} : Lk2 K (rI cT fun i j => .bl (decide (i ≤ j))) gLe := lk_int2 fun _ _ _ => .bl _
theorem ll_gt {K : PySem.W.Frag} : Lk2 K (rI cT fun i j => .bl (decide (j < i))) gGt := lk_int2 fun _ _ _ => .bl _
theorem ll_ge {K : PySem.W.Frag} : Lk2 K (rI cT fun i j => .bl (decide (j ≤ i))) gGe := lk_int2 fun _ _ _ => .bl _
def dNeg : DV → Store → DQ → Prop := fun x m Q => match x with
  | .sh (.int i) => Q (.sh (.int (-i))) m
  | _ => False
theorem de_neg (ha : DE X W a ta) : DE X W (.UnaryOp .USub a pos) (dUn dNeg ta) := de_un un_neg (fun H F S ad m v x Qd Q Co rv q kq => by
  unfold dNeg at q
  split at q
  · rename_i i
    exact ⟨i, vr_int rv, kq _ _ _ _ _ _ _ (Stp.refl _ _ _) Co (.sh (.int _)) q⟩
  · exact q.elim) ha
/-! ### + -/
def ownL (m : Store) : DV → Option (List DV)
  | .own k => match m[k]? with
    | some (.lst xs) => some xs
    | _ => none
  | _ => none
theorem ownL_at {K : PySem.W.Frag} {H F S : Hp} {ad : List Addr} {m : Store} {v : V} {x : DV} {xs : List DV} (C : Core K H F S ad m) (r : VR K S ad v x) (h : ownL m x = some xs) :
    ∃ k a vs, x = .own k ∧ v = .ref a ∧ ad[k]? = some a ∧ m[k]? = some (.lst xs) ∧ H a = some (.lst vs) ∧ VRs K S ad vs xs := by
  unfold ownL at h
  split at h
  · rename_i k
    cases r with
    | own ha =>
      split at h
      · rename_i ys hm
        cases h
        obtain ⟨_, vs, q, rr⟩ := C.ent _ _ _ hm ha
        exact ⟨k, _, vs, rfl, rfl, ha, hm, q, rr⟩
      · cases h
  · cases h
def gAdd : DV → DV → Store → DQ → Prop := fun x y m Q => match x, y with
  | .sh (.int i), .sh (.int j) => Q (.sh (.int (i + j))) m
  | .sh (.str s), .sh (.str t) => Nat.ble (s.length + t.length) sizeLine = true ∧ Q (.sh (.str (s ++ t))) m
  | .sh (.tuple s), .sh (.tuple t) => Nat.ble (s.length + t.length) sizeLine = true ∧ Q (.sh (.tuple (s ++ t))) m
  | .own j, .own k => (match ownL m (.own j), ownL m (.own k) with
    | some xs, some ys => Nat.ble (xs.length + ys.length) sizeLine = true ∧ Q (.own m.length) (m ++ [.lst (xs ++ ys)])
    | _, _ => False)
  | x, y => (match seqT x, seqT y with
    | some xs, some ys => Nat.ble (xs.length + ys.length) sizeLine = true ∧ Q (mkTup (xs ++ ys)) m
    | _, _ => False)
def rAddA (K : PySem.W.Frag) : R2 := fun x y H Q => rI (fun _ _ => True) (fun i j => .int (i + j)) x y H Q ∨ ((∃ i j, x = .str i ∧ y = .str j ∧ i.length + j.length ≤ sizeLine ∧ Q (.str (i ++ j)) H) ∨ (L2.rCatA K x y H Q ∨ rCat x y H Q))
theorem lo_add : OpR X (binaryOp .Add) (rAddA X.K) := OpR.or (by rw [← rI0_eq]; exact op_add) (OpR.or op_add_str (OpR.or op_catA op_cat))
theorem cat_tup {K : PySem.W.Frag} {H F S : Hp} {ad : List Addr} {m : Store} {p q : Addr} {vs us : List V} {z : DV} {Qd : DQ} {Q : VK} (C : Core K H F S ad m) (h1 : SqT K S p vs) (h2 : SqT K S q us) (hz : vs.length + us.length ≤ sizeLine)
    (rx : vs = [] → VR K S ad (.ref q) z) (ry : us = [] → VR K S ad (.ref p) z) (rz : ∀ a S', SqT K S' a (vs ++ us) → Ext S S' → VR K S' ad (.ref a) z) (q0 : Qd z m) (kq : KQ K F S ad Qd Q) : rCatA K (.ref p) (.ref q) H Q := by
  refine ⟨p, q, vs, us, rfl, rfl, C.sqt h1, C.sqt h2, hz, fun e => ?_, fun _ e => ?_, fun _ _ a ha => ?_⟩
  · exact kq _ _ _ _ _ _ _ (Stp.refl _ _ _) C (rx e) q0
  · exact kq _ _ _ _ _ _ _ (Stp.refl _ _ _) C (ry e) q0
  · obtain ⟨C2, s2⟩ := C.shared (o := .tup (vs ++ us)) ha
    exact kq _ _ _ _ _ _ _ s2 C2 (rz a _ (SqT.of upd_same) s2.s) q0
theorem ll_add {K : PySem.W.Frag} : Lk2 K (rAddA K) gAdd := by
  intro H F S ad m v u x y Qd Q C rv ru q kq
  unfold gAdd at q
  split at q
  · rename_i i j
    exact .inl ⟨i, j, vr_int rv, vr_int ru, trivial, kq _ _ _ _ _ _ _ (Stp.refl _ _ _) C (.sh (.int _)) q⟩
  · rename_i i j
    exact .inr (.inl ⟨i, j, vr_str rv, vr_str ru, Nat.le_of_ble_eq_true q.1, kq _ _ _ _ _ _ _ (Stp.refl _ _ _) C (.sh (.str _)) q.2⟩)
  · rename_i s t
    obtain ⟨a, vs, e1, h1, d1⟩ := vr_tup rv
    obtain ⟨b, us, e2, h2, d2⟩ := vr_tup ru
    subst e1; subst e2
    refine .inr (.inr (.inl (cat_tup C h1 h2 (by rw [dpa_len d1, dpa_len d2]; exact Nat.le_of_ble_eq_true q.1) (fun e => ?_) (fun e => ?_) (fun a S' h s => .sh (.tup h (dpa_app (dpa_ext s d1) (dpa_ext s d2)))) q.2 kq)))
    · subst e; cases d1; exact .sh (.tup h2 (by simpa using d2))
    · subst e; cases d2; exact .sh (.tup h1 (by simpa using d1))
  · rename_i j k
    split at q
    · rename_i xs ys ex ey
      obtain ⟨_, a, vs, e1, e2, ha, hm, hh, rr⟩ := ownL_at C rv ex
      obtain ⟨_, b, us, e3, e4, hb, hm', hh', rr'⟩ := ownL_at C ru ey
      subst e2; subst e4
      refine .inr (.inr (.inr ⟨a, b, vs, us, rfl, rfl, hh, hh', by rw [rr.length, rr'.length]; exact Nat.le_of_ble_eq_true q.1, fun p hp => ?_⟩))
      obtain ⟨C2, s2, r2⟩ := new_lst C hp (rr.append rr')
      exact kq _ _ _ _ _ _ _ s2 C2 r2 q.2
    · exact q.elim
  · split at q
    · rename_i xs ys ex ey
      obtain ⟨a, vs, e1, h1, d1⟩ := seqT_at rv ex
      obtain ⟨b, us, e2, h2, d2⟩ := seqT_at ru ey
      subst e1; subst e2
      refine .inr (.inr (.inl (cat_tup C h1 h2 (by rw [d1.length, d2.length]; exact Nat.le_of_ble_eq_true q.1) (fun e => ?_) (fun e => ?_) (fun a S' h s => vr_mkTup h ((d1.mono s (Pfx.refl _)).append (d2.mono s (Pfx.refl _)))) q.2 kq)))
      · subst e; cases d1; exact vr_mkTup h2 (by simpa using d2)
      · subst e; cases d2; exact vr_mkTup h1 (by simpa using d1)
    · exact q.elim
theorem de_add (ha : DE X W a ta) (hb : DE X W b tb) : DE X W (.BinOp a .Add b pos) (dBin gAdd ta tb) := de_op lo_add ll_add ha hb
/-! ### * -/
def gMul : DV → DV → Store → DQ → Prop := fun x y m Q => match x, y with
  | .sh (.int i), .sh (.int j) => IntMulOk i j ∧ Q (.sh (.int (i * j))) m
  | .own k, .sh (.int j) => (match ownL m (.own k) with
    | some xs => (-(2 ^ 63) ≤ j ∧ j < 2 ^ 63) ∧ Nat.ble (xs.length * j.toNat) sizeLine = true ∧ Q (.own m.length) (m ++ [.lst (List.replicate j.toNat xs).flatten])
    | none => False)
  | _, _ => False
theorem vrs_rep {K : PySem.W.Frag} {S : Hp} {ad : List Addr} {vs : List V} {xs : List DV} (r : VRs K S ad vs xs) : ∀ n, VRs K S ad (List.replicate n vs).flatten (List.replicate n xs).flatten
  | 0 => by simpa using VRs.nil
  | n + 1 => by
    rw [List.replicate_succ, List.replicate_succ, List.flatten_cons, List.flatten_cons]
    exact r.append (vrs_rep r n)
def rMulA : R2 := fun x y H Q => rI IntMulOk (fun i j => .int (i * j)) x y H Q ∨ rRep x y H Q
theorem lo_mul : OpR X (binaryOp .Mult) rMulA := OpR.or op_mulZ op_rep
theorem ll_mul {K : PySem.W.Frag} : Lk2 K rMulA gMul := by
  intro H F S ad m v u x y Qd Q C rv ru q kq
  unfold gMul at q
  split at q
  · rename_i i j
    exact .inl ⟨i, j, vr_int rv, vr_int ru, q.1, kq _ _ _ _ _ _ _ (Stp.refl _ _ _) C (.sh (.int _)) q.2⟩
  · rename_i k j
    split at q
    · rename_i xs ex
      obtain ⟨_, a, vs, e1, e2, ha, hm, hh, rr⟩ := ownL_at C rv ex
      subst e2
      refine .inr ⟨a, j, vs, rfl, vr_int ru, hh, q.1.1, q.1.2, by rw [rr.length]; exact Nat.le_of_ble_eq_true q.2.1, fun p hp => ?_⟩
      obtain ⟨C2, s2, r2⟩ := new_lst C hp (vrs_rep rr j.toNat)
      exact kq _ _ _ _ _ _ _ s2 C2 r2 q.2.2
    · exact q.elim
  · exact q.elim
theorem de_mul (ha : DE X W a ta) (hb : DE X W b tb) : DE X W (.BinOp a .Mult b pos) (dBin gMul ta tb) := de_op lo_mul ll_mul ha hb
/-! ### the tree of a value -/
def datL (f : DV → Option PyData) : List DV → Option (List PyData)
  | [] => some []
  | x :: xs => match f x, datL f xs with
    | some d, some ds => some (d :: ds)
    | _, _ => none
def dat (m : Store) : Nat → DV → Option PyData
  | _, .sh d => some d
  | 0, _ => none
  | n + 1, .tup xs => match datL (dat m n) xs with
    | some ds => some (.tuple ds)
    | none => none
  | n + 1, .own k => match m[k]? with
    | some (.lst xs) => (match datL (dat m n) xs with
      | some ds => some (.list ds)
      | none => none)
    | some (.frz d) => some d
    | _ => none
theorem datL_at {K : PySem.W.Frag} {H S : Hp} {ad : List Addr} {f : DV → Option PyData} (h : ∀ v x d, VR K S ad v x → f x = some d → Dp K H v d) : ∀ {xs : List DV} {vs : List V} {ds : List PyData}, VRs K S ad vs xs → datL f xs = some ds → DpAll K H vs ds
  | [], _, _, r, e => by cases r; cases e; exact .nil
  | x :: xs, _, ds, r, e => by
    cases r with
    | cons r rr =>
      unfold datL at e
      split at e
      · rename_i d es e1 e2
        cases e
        exact .cons (h _ _ _ r e1) (datL_at h rr e2)
      · cases e
theorem dat_at {K : PySem.W.Frag} {H F S : Hp} {ad : List Addr} {m : Store} (C : Core K H F S ad m) : ∀ (n : Nat) (v : V) (x : DV) (d : PyData), VR K S ad v x → dat m n x = some d → Dp K H v d
  | 0, v, .sh e, d, r, h => by cases r with | sh r => cases h; exact dp_ext (C.sF.trans C.FH) r
  | n + 1, v, .sh e, d, r, h => by cases r with | sh r => cases h; exact dp_ext (C.sF.trans C.FH) r
  | 0, v, .own k, d, r, h => by cases h
  | 0, v, .tup k, d, r, h => by cases h
  | n + 1, v, .tup xs, d, r, h => by
    unfold dat at h
    split at h
    · rename_i ds e
      cases h
      cases r with
      | tup hs hr => exact .tup (C.sqt hs) (datL_at (dat_at C n) hr e)
    · cases h
  | n + 1, v, .own k, d, r, h => by
    unfold dat at h
    cases r with
    | own ha =>
      split at h
      · rename_i xs hm
        split at h
        · rename_i ds e
          cases h
          obtain ⟨_, vs, q, rr⟩ := C.ent _ _ _ hm ha
          exact .lst (SqL.of q) (datL_at (dat_at C n) rr e)
        · cases h
      · rename_i e hm
        cases h
        exact dp_ext (C.sF.trans C.FH) (C.ent _ _ _ hm ha)
      · cases h
theorem datL_map {f : DV → Option PyData} (h : ∀ d, f (.sh d) = some d) : ∀ ds : List PyData, datL f (ds.map .sh) = some ds
  | [] => rfl
  | d :: ds => by
    show (match f (.sh d), datL f (ds.map .sh) with | some d, some ds => some (d :: ds) | _, _ => none) = _
    rw [h d, datL_map h ds]
theorem dat_sh (m : Store) (n : Nat) (d : PyData) : dat m n (.sh d) = some d := by cases n <;> rfl
theorem datL_sh (m : Store) (n : Nat) (ds : List PyData) : datL (dat m n) (ds.map .sh) = some ds := datL_map (dat_sh m n) ds
/-- how deep the store is read -/
abbrev deep : Nat := 8
/-! ### == -/
def gEq (neg : Bool) : DV → DV → Store → DQ → Prop := fun x y m Q => match x, y with
  | .sh (.int i), .sh (.int j) => Q (.sh (.bool (if neg then !decide (i = j) else decide (i = j)))) m
  | .sh (.str i), .sh (.str j) => Q (.sh (.bool (if neg then !decide (i = j) else decide (i = j)))) m
  | .sh (.bool i), .sh (.bool j) => Q (.sh (.bool (if neg then !decide (i = j) else decide (i = j)))) m
  | x, y => (match dat m deep x, dat m deep y with
    | some d, some e => (SeqAt.shaped d = true ∧ SeqAt.shaped e = true) ∧ Q (.sh (.bool (if neg then !PyData.eqv d e else PyData.eqv d e))) m
    | _, _ => False)
def rEqA (K : PySem.W.Frag) : R2 := fun x y H Q => rEq x y H Q ∨ rEqD K x y H Q
def rNeA (K : PySem.W.Frag) : R2 := fun x y H Q => rNe x y H Q ∨ rNeD K x y H Q
theorem lo_eq {k : Nat} (hr : RoomG k X.A) : OpR X (compareOp .Eq) (rEqA X.K) := OpR.or op_eq (op_eqD hr.r.units)
theorem lo_ne {k : Nat} (hr : RoomG k X.A) : OpR X (compareOp .NotEq) (rNeA X.K) := OpR.or op_ne (op_neD hr.r.units)
theorem dv_eq {v w : V} {α : Type} [DecidableEq α] {f : α → V} (hf : ∀ i j, f i = f j → i = j) {i j : α} : decide (f i = f j) = decide (i = j) := by
  by_cases h : i = j
  · subst h; simp
  · rw [decide_eq_false h, decide_eq_false fun e => h (hf i j e)]
theorem ll_eq {K : PySem.W.Frag} : Lk2 K (rEqA K) (gEq false) := by
  intro H F S ad m v u x y Qd Q C rv ru q kq
  unfold gEq at q
  split at q
  · rename_i i j
    refine .inl ?_
    rw [vr_int rv, vr_int ru]
    exact ⟨rfl, kq _ _ _ _ _ _ _ (Stp.refl _ _ _) C (by rw [dv_eq (v := v) (w := v) (fun i j e => by cases e; rfl)]; exact .sh (.bl _)) q⟩
  · rename_i i j
    refine .inl ?_
    rw [vr_str rv, vr_str ru]
    exact ⟨rfl, kq _ _ _ _ _ _ _ (Stp.refl _ _ _) C (by rw [dv_eq (v := v) (w := v) (fun i j e => by cases e; rfl)]; exact .sh (.bl _)) q⟩
  · rename_i i j
    refine .inl ?_
    rw [vr_bl rv, vr_bl ru]
    exact ⟨rfl, kq _ _ _ _ _ _ _ (Stp.refl _ _ _) C (by rw [dv_eq (v := v) (w := v) (fun i j e => by cases e; rfl)]; exact .sh (.bl _)) q⟩
  · split at q
    · rename_i d e h1 h2
      exact .inr ⟨d, e, dat_at C _ _ _ _ rv h1, dat_at C _ _ _ _ ru h2, q.1.1, q.1.2, kq _ _ _ _ _ _ _ (Stp.refl _ _ _) C (.sh (.bl _)) q.2⟩
    · exact q.elim
theorem ll_ne {K : PySem.W.Frag} : Lk2 K (rNeA K) (gEq true) := by
  intro H F S ad m v u x y Qd Q C rv ru q kq
  unfold gEq at q
  split at q
  · rename_i i j
    refine .inl ?_
    rw [vr_int rv, vr_int ru]
    exact ⟨rfl, kq _ _ _ _ _ _ _ (Stp.refl _ _ _) C (by rw [dv_eq (v := v) (w := v) (fun i j e => by cases e; rfl)]; exact .sh (.bl _)) q⟩
  · rename_i i j
    refine .inl ?_
    rw [vr_str rv, vr_str ru]
    exact ⟨rfl, kq _ _ _ _ _ _ _ (Stp.refl _ _ _) C (by rw [dv_eq (v := v) (w := v) (fun i j e => by cases e; rfl)]; exact .sh (.bl _)) q⟩
  · rename_i i j
    refine .inl ?_
    rw [vr_bl rv, vr_bl ru]
    exact ⟨rfl, kq _ _ _ _ _ _ _ (Stp.refl _ _ _) C (by rw [dv_eq (v := v) (w := v) (fun i j e => by cases e; rfl)]; exact .sh (.bl _)) q⟩
  · split at q
    · rename_i d e h1 h2
      exact .inr ⟨d, e, dat_at C _ _ _ _ rv h1, dat_at C _ _ _ _ ru h2, q.1.1, q.1.2, kq _ _ _ _ _ _ _ (Stp.refl _ _ _) C (.sh (.bl _)) q.2⟩
    · exact q.elim
/-! ### is None -/
def gIsN (neg : Bool) : DV → DV → Store → DQ → Prop := fun x y m Q => match y with
  | .sh .none => (match x with
    | .sh .none => Q (.sh (.bool (!neg))) m
    | _ => Q (.sh (.bool neg)) m)
  | _ => False
theorem vr_notN {K : PySem.W.Frag} {S : Hp} {ad : List Addr} {v : V} {x : DV} (r : VR K S ad v x) (h : x ≠ .sh .none) : v ≠ .non := by
  intro e
  subst e
  cases r with
  | sh r => cases r; exact h rfl
theorem ll_isN {K : PySem.W.Frag} : Lk2 K (fun x y H Q => y = .non ∧ Q (.bl (decide (x = .non))) H) (gIsN false) := by
  intro H F S ad m v u x y Qd Q C rv ru q kq
  unfold gIsN at q
  split at q
  · refine ⟨vr_non ru, kq _ _ _ _ _ _ (.sh (.bool (decide (v = .non)))) (Stp.refl _ _ _) C (.sh (.bl _)) ?_⟩
    · split at q
      · rw [vr_non rv]; exact q
      · rename_i h
        rw [decide_eq_false (vr_notN rv h)]; exact q
  · exact q.elim
theorem ll_notN {K : PySem.W.Frag} : Lk2 K (fun x y H Q => y = .non ∧ Q (.bl (!decide (x = .non))) H) (gIsN true) := by
  intro H F S ad m v u x y Qd Q C rv ru q kq
  unfold gIsN at q
  split at q
  · refine ⟨vr_non ru, kq _ _ _ _ _ _ (.sh (.bool (!decide (v = .non)))) (Stp.refl _ _ _) C (.sh (.bl _)) ?_⟩
    · split at q
      · rw [vr_non rv]; exact q
      · rename_i h
        rw [decide_eq_false (vr_notN rv h)]; exact q
  · exact q.elim
end
end DL
namespace DL
open PySem PySem.Spec PyProof.Rows L2
section
variable {X : Cx} {W : WX} {a b c e : Expr} {ta tb tc : DT} {tr : DTA} {pos : Pos} {es : List Expr}
/-! ### a[i] -/
def gIx : DV → DV → Store → DQ → Prop := fun x y m Q => match y with
  | .sh (.int i) => (match x with
    | .sh (.str s) => Nat.ble s.length sizeLine = true ∧ (match atI s.cps.toList i with
      | some c => Q (.sh (.str ⟨#[c]⟩)) m
      | none => False)
    | x => (match seqT x with
      | some xs => (match atI xs i with
        | some z => Q z m
        | none => False)
      | none => (match seqL m x with
        | some xs => (match atI xs i with
          | some z => Q z m
          | none => False)
        | none => False)))
  | _ => False
theorem vrs_atI {K : PySem.W.Frag} {S : Hp} {ad : List Addr} {vs : List V} {xs : List DV} (r : VRs K S ad vs xs) {i : Int} {x : DV} (h : atI xs i = some x) : ∃ v, atI vs i = some v ∧ VR K S ad v x := by
  unfold atI at h ⊢
  rw [r.length]
  cases hj : ixN xs.length i with
  | none => rw [hj] at h; cases h
  | some j =>
    rw [hj] at h
    exact r.get (i := j) h
theorem ll_ix {K : PySem.W.Frag} : Lk2 K (rIx K) gIx := by
  intro H F S ad m v u x y Qd Q C rv ru q kq
  unfold gIx at q
  split at q
  · rename_i i
    have eu := vr_int ru
    subst eu
    split at q
    · rename_i s
      have ev := vr_str rv
      subst ev
      obtain ⟨hz, q⟩ := q
      split at q
      · rename_i c hc
        exact .inr (.inr ⟨s, i, c, rfl, rfl, Nat.le_of_ble_eq_true hz, hc, kq _ _ _ _ _ _ _ (Stp.refl _ _ _) C (.sh (.str _)) q⟩)
      · exact q.elim
    · split at q
      · rename_i xs ex
        split at q
        · rename_i z hz
          obtain ⟨p, vs, e1, h1, d1⟩ := seqT_at rv ex
          subst e1
          obtain ⟨w, hw, rw'⟩ := vrs_atI d1 hz
          exact .inr (.inl ⟨p, vs, i, w, rfl, rfl, C.sqt h1, hw, kq _ _ _ _ _ _ _ (Stp.refl _ _ _) C rw' q⟩)
        · exact q.elim
      · split at q
        · rename_i xs ex
          split at q
          · rename_i z hz
            obtain ⟨p, vs, e1, h1, d1⟩ := seqL_at C rv ex
            subst e1
            obtain ⟨w, hw, rw'⟩ := vrs_atI d1 hz
            exact .inl ⟨p, vs, i, w, rfl, rfl, h1, hw, kq _ _ _ _ _ _ _ (Stp.refl _ _ _) C rw' q⟩
          · exact q.elim
        · exact q.elim
  · exact q.elim
theorem de_ix (ha : DE X W a ta) (hb : DE X W b tb) (hs : PlainIx b := by exact fun _ _ => rfl) : DE X W (.Subscript a b pos) (dBin gIx ta tb) := by
  obtain ⟨te1, p1, h1⟩ := ha
  obtain ⟨te2, p2, h2⟩ := hb
  refine ⟨_, pe_ix ix_seq p1 p2 hs, fun σ H F S ad m δ Qd Ed Q C R h kq kx => ?_⟩
  exact run2 (Q := fun v u H' => rIx X.K v u H' Q) h1 h2 C R h kx fun v u H' F' S' ad' m' x y s C' rv ru q => ll_ix _ _ _ _ _ _ _ _ _ _ _ C' rv ru q (kq.stp s)
/-! ### xs[i] = v -/
def gSetL : DV → DV → DV → Store → (Store → Prop) → Prop := fun x y z m Q => match x, y with
  | .own k, .sh (.int i) => (match m[k]? with
    | some (.lst xs) => (match ixN xs.length i with
      | some j => Q (m.set k (.lst (xs.set j z)))
      | none => False)
    | _ => False)
  | _, _ => False
theorem ll_setL {K : PySem.W.Frag} : LkS K rSetL gSetL := by
  intro H F S ad m o i v x y z Qd Q C ro ri rv q k
  unfold gSetL at q
  split at q
  · rename_i kk j
    have ei := vr_int ri
    subst ei
    cases ro with
    | own ha =>
      rename_i a
      split at q
      · rename_i xs hm
        split at q
        · rename_i jj hj
          obtain ⟨hF, vs, hh, rr⟩ := C.ent _ _ _ hm ha
          refine ⟨a, vs, j, jj, rfl, rfl, hh, by rw [rr.length]; exact hj, ?_⟩
          exact k _ _ _ _ _ (Stp.refl _ _ _) (C.setE (e' := .lst (xs.set jj z)) hm ha rfl ⟨hF, vs.set jj v, upd_same, rr.set rv jj⟩) q
        · exact q.elim
      · exact q.elim
  · exact q.elim
/-! ### slices -/
def cut {α : Type} (xs : List α) (lo hi : Option Int) : List α := (xs.drop (HT.sIx xs.length 0 lo)).take (HT.sIx xs.length xs.length hi - HT.sIx xs.length 0 lo)
theorem cut_map {α β : Type} (f : α → β) (xs : List α) (lo hi : Option Int) : cut (xs.map f) lo hi = (cut xs lo hi).map f := by
  unfold cut
  rw [List.length_map, ← List.map_drop, ← List.map_take]
theorem cut_len {α : Type} (xs : List α) (lo hi : Option Int) : (cut xs lo hi).length ≤ xs.length := by
  unfold cut
  rw [List.length_take, List.length_drop]; omega
theorem vrs_cut {K : PySem.W.Frag} {S : Hp} {ad : List Addr} {vs : List V} {xs : List DV} (r : VRs K S ad vs xs) (lo hi : Option Int) : VRs K S ad (cutV vs lo hi) (cut xs lo hi) := by
  unfold cutV cut
  rw [r.length]
  exact (r.drop _).take _
abbrev DTO := DEnv → Store → (Option Int → Store → Prop) → DXK → Prop
structure DO (X : Cx) (W : WX) (e : Option Expr) (t : DTO) : Prop where
  ex : ∃ to, PO X e to ∧ ∀ σ H F S ad m δ Qd Ed Q, Core X.K H F S ad m → SR X.K S ad σ δ → t δ m Qd Ed → (∀ i H' F' S' ad' m', Stp F S ad F' S' ad' → Core X.K H' F' S' ad' m' → Qd i m' → Q i H') → KX X.K F S ad Ed (fun c d H' => W c d σ H') → to σ H Q
abbrev dNoPart : DTO := fun _ m Q _ => Q none m
abbrev dPart (t : DT) : DTO := fun δ m Q E => t δ m (fun x m1 => match x with
  | .sh (.int i) => Q (some i) m1
  | _ => False) E
theorem do_none : DO X W none dNoPart := ⟨_, po_none, fun σ H F S ad m δ Qd Ed Q C R h k kx => k _ _ _ _ _ _ (Stp.refl _ _ _) C h⟩
theorem do_some (h : DE X W e ta) : DO X W (some e) (dPart ta) := by
  obtain ⟨te, p, h⟩ := h
  refine ⟨_, po_some p, fun σ H F S ad m δ Qd Ed Q C R hh k kx => ?_⟩
  refine h σ H F S ad m δ _ Ed _ C R hh (fun v H1 F1 S1 ad1 m1 x s1 C1 rv q1 => ?_) kx
  split at q1
  · rename_i i
    exact ⟨i, vr_int rv, k _ _ _ _ _ _ s1 C1 q1⟩
  · exact q1.elim
def gCut (x : DV) (lo hi : Option Int) (m : Store) (Q : DQ) : Prop := match x with
  | .sh (.str s) => Nat.ble s.length sizeLine = true ∧ Q (.sh (.str (cutS s lo hi))) m
  | .sh (.tuple ds) => Q (.sh (.tuple (cut ds lo hi))) m
  | .tup xs => Q (mkTup (cut xs lo hi)) m ∧ (HT.sIx xs.length 0 lo = 0 → HT.sIx xs.length xs.length hi = xs.length → mkTup (cut xs lo hi) = mkTup xs)
  | x => (match seqL m x with
    | some xs => Q (.own m.length) (m ++ [.lst (cut xs lo hi)])
    | none => False)
def rCutA (K : PySem.W.Frag) : V → Option Int → Option Int → Hp → VK → Prop := fun x lo hi H Q => rSlL K x lo hi H Q ∨ (L2.rSlA K x lo hi H Q ∨ rSlS x lo hi H Q)
theorem cut_all {α : Type} {xs : List α} {lo hi : Option Int} (h1 : HT.sIx xs.length 0 lo = 0) (h2 : HT.sIx xs.length xs.length hi = xs.length) : cut xs lo hi = xs := by
  unfold cut
  rw [h1, h2, List.drop_zero, Nat.sub_zero, List.take_length]
theorem ll_cut {K : PySem.W.Frag} {H F S : Hp} {ad : List Addr} {m : Store} {v : V} {x : DV} {lo hi : Option Int} {Qd : DQ} {Q : VK} (C : Core K H F S ad m) (rv : VR K S ad v x) (q : gCut x lo hi m Qd) (kq : KQ K F S ad Qd Q) : rCutA K v lo hi H Q := by
  unfold gCut at q
  split at q
  · rename_i s
    exact .inr (.inr ⟨s, vr_str rv, Nat.le_of_ble_eq_true q.1, kq _ _ _ _ _ _ _ (Stp.refl _ _ _) C (.sh (.str _)) q.2⟩)
  · rename_i ds
    obtain ⟨a, vs, e, hs, hd⟩ := vr_tup rv
    subst e
    have hl := dpa_len hd
    refine .inr (.inl ⟨a, vs, rfl, C.sqt hs, fun hw => ?_, fun hw p hp => ?_⟩)
    · rw [hl] at hw
      refine kq _ _ _ _ _ _ _ (Stp.refl _ _ _) C ?_ q
      rw [cut_all hw.1 hw.2]; exact rv
    · obtain ⟨C2, s2⟩ := C.shared (o := .tup (cutV vs lo hi)) hp
      refine kq _ _ _ _ _ _ _ s2 C2 (.sh (.tup (SqT.of upd_same) ?_)) q
      have z := vrs_cut (vrs_sh (ad := ad) hd) lo hi
      rw [cut_map] at z
      exact dpa_ext s2.s (sh_vrs z)
  · rename_i xs
    cases rv with
    | tup hs hr =>
      rename_i a vs
      have hl := hr.length
      refine .inr (.inl ⟨a, vs, rfl, C.sqt hs, fun hw => ?_, fun hw p hp => ?_⟩)
      · rw [hl] at hw
        refine kq _ _ _ _ _ _ _ (Stp.refl _ _ _) C ?_ q.1
        rw [q.2 hw.1 hw.2]; exact vr_mkTup hs hr
      · obtain ⟨C2, s2⟩ := C.shared (o := .tup (cutV vs lo hi)) hp
        exact kq _ _ _ _ _ _ _ s2 C2 (vr_mkTup (SqT.of upd_same) ((vrs_cut hr lo hi).stp s2)) q.1
  · split at q
    · rename_i xs ex
      obtain ⟨a, vs, e, hs, hr⟩ := seqL_at C rv ex
      subst e
      refine .inl ⟨a, vs, rfl, hs, fun p hp => ?_⟩
      obtain ⟨C2, s2, r2⟩ := new_lst C hp (vrs_cut hr lo hi)
      exact kq _ _ _ _ _ _ _ s2 C2 r2 q
    · exact q.elim
abbrev dCut (ta : DT) (tl th : DTO) : DT := fun δ m Q E => ta δ m (fun x m1 => tl δ m1 (fun lo m2 => th δ m2 (fun hi m3 => gCut x lo hi m3 Q) E) E) E
theorem de_cut {lo hi : Option Expr} {tl th : DTO} {p2 : Pos} (ha : DE X W a ta) (hl : DO X W lo tl) (hh : DO X W hi th) : DE X W (.Subscript a (.Slice lo hi none p2) pos) (dCut ta tl th) := by
  obtain ⟨t0, p0, h0⟩ := ha
  obtain ⟨t1, p1, h1⟩ := hl
  obtain ⟨t2, q2, h2⟩ := hh
  refine ⟨_, pe_slice (r := rCutA X.K) (sl_list.or (sl_tupA.or sl_str)) p0 p1 q2, fun σ H F S ad m δ Qd Ed Q C R h kq kx => ?_⟩
  refine h0 σ H F S ad m δ _ Ed _ C R h (fun v H1 F1 S1 ad1 m1 x s1 C1 rv k1 => ?_) kx
  refine h1 σ H1 F1 S1 ad1 m1 δ _ Ed _ C1 (R.stp s1) k1 (fun i H2 F2 S2 ad2 m2 s2 C2 k2 => ?_) (kx.stp s1)
  refine h2 σ H2 F2 S2 ad2 m2 δ _ Ed _ C2 (R.stp (s1.trans s2)) k2 (fun j H3 F3 S3 ad3 m3 s3 C3 k3 => ?_) (kx.stp (s1.trans s2))
  exact ll_cut C3 (rv.stp (s2.trans s3)) k3 (kq.stp ((s1.trans s2).trans s3))
/-! ### built-in functions -/
def gLen : List DV → Store → DQ → Prop := fun xs m Q => match xs with
  | [.sh (.str s)] => Nat.ble s.length sizeLine = true ∧ Q (.sh (.int s.length)) m
  | [x] => (match seqT x with
    | some ys => Q (.sh (.int ys.length)) m
    | none => (match seqL m x with
      | some ys => Q (.sh (.int ys.length)) m
      | none => False))
  | _ => False
theorem vrs1 {K : PySem.W.Frag} {S : Hp} {ad : List Addr} {vs : List V} {x : DV} (r : VRs K S ad vs [x]) : ∃ v, vs = [v] ∧ VR K S ad v x := by
  cases r with
  | cons a b => cases b; exact ⟨_, rfl, a⟩
theorem vrs2 {K : PySem.W.Frag} {S : Hp} {ad : List Addr} {vs : List V} {x y : DV} (r : VRs K S ad vs [x, y]) : ∃ v u, vs = [v, u] ∧ VR K S ad v x ∧ VR K S ad u y := by
  cases r with
  | cons a b =>
    obtain ⟨u, e, h⟩ := vrs1 b
    subst e
    exact ⟨_, _, rfl, a, h⟩
theorem ll_len {K : PySem.W.Frag} : LkA K (fun xs H Q => ∃ x n, xs = [x] ∧ LenV K x H n ∧ Q (.int n) H) gLen := by
  intro H F S ad m vs xs Qd Q C rs q kq
  unfold gLen at q
  split at q
  · rename_i s
    obtain ⟨v, e, rv⟩ := vrs1 rs
    subst e
    have ev := vr_str rv
    subst ev
    exact ⟨_, s.length, rfl, ⟨Nat.le_of_ble_eq_true q.1, rfl⟩, kq _ _ _ _ _ _ _ (Stp.refl _ _ _) C (.sh (.int _)) q.2⟩
  · rename_i x _
    obtain ⟨v, e, rv⟩ := vrs1 rs
    subst e
    split at q
    · rename_i ys ey
      obtain ⟨p, us, e1, h1, d1⟩ := seqT_at rv ey
      subst e1
      exact ⟨_, us.length, rfl, .inr ⟨us, C.sqt h1, rfl⟩, by rw [d1.length]; exact kq _ _ _ _ _ _ _ (Stp.refl _ _ _) C (.sh (.int _)) q⟩
    · split at q
      · rename_i ys ey
        obtain ⟨p, us, e1, h1, d1⟩ := seqL_at C rv ey
        subst e1
        exact ⟨_, us.length, rfl, .inl ⟨us, h1, rfl⟩, by rw [d1.length]; exact kq _ _ _ _ _ _ _ (Stp.refl _ _ _) C (.sh (.int _)) q⟩
      · exact q.elim
  · exact q.elim
def gAbs : List DV → Store → DQ → Prop := fun xs m Q => match xs with
  | [.sh (.int i)] => Q (.sh (.int (if i < 0 then -i else i))) m
  | _ => False
theorem ll_abs {K : PySem.W.Frag} : LkA K (fun xs H Q => ∃ i, xs = [.int i] ∧ Q (.int (if i < 0 then -i else i)) H) gAbs := by
  intro H F S ad m vs xs Qd Q C rs q kq
  unfold gAbs at q
  split at q
  · rename_i i
    exact ⟨i, vrs_int1 rs, kq _ _ _ _ _ _ _ (Stp.refl _ _ _) C (.sh (.int _)) q⟩
  · exact q.elim
def gMax2 : List DV → Store → DQ → Prop := fun xs m Q => match xs with
  | [.sh (.int i), .sh (.int j)] => Q (.sh (.int (if j > i then j else i))) m
  | _ => False
theorem ll_max2 {K : PySem.W.Frag} : LkA K (fun xs H Q => ∃ i j, xs = [.int i, .int j] ∧ Q (.int (if j > i then j else i)) H) gMax2 := by
  intro H F S ad m vs xs Qd Q C rs q kq
  unfold gMax2 at q
  split at q
  · rename_i i j
    exact ⟨i, j, vrs_int2 rs, kq _ _ _ _ _ _ _ (Stp.refl _ _ _) C (.sh (.int _)) q⟩
  · exact q.elim
def gMin2 : List DV → Store → DQ → Prop := fun xs m Q => match xs with
  | [.sh (.int i), .sh (.int j)] => Q (.sh (.int (if j < i then j else i))) m
  | _ => False
theorem ll_min2 {K : PySem.W.Frag} : LkA K (fun xs H Q => ∃ i j, xs = [.int i, .int j] ∧ Q (.int (if j < i then j else i)) H) gMin2 := by
  intro H F S ad m vs xs Qd Q C rs q kq
  unfold gMin2 at q
  split at q
  · rename_i i j
    exact ⟨i, j, vrs_int2 rs, kq _ _ _ _ _ _ _ (Stp.refl _ _ _) C (.sh (.int _)) q⟩
  · exact q.elim
/-- list(..), tuple(..) of a list or a tuple -/
def seqA (m : Store) (x : DV) : Option (List DV) := match seqT x with
  | some xs => some xs
  | none => seqL m x
theorem seqA_at {K : PySem.W.Frag} {H F S : Hp} {ad : List Addr} {m : Store} {v : V} {x : DV} {xs : List DV} (C : Core K H F S ad m) (r : VR K S ad v x) (h : seqA m x = some xs) : ∃ a vs, v = .ref a ∧ (SqL K H a vs ∨ SqT K H a vs) ∧ VRs K S ad vs xs := by
  unfold seqA at h
  split at h
  · rename_i ys e
    cases h
    obtain ⟨a, vs, e1, h1, d1⟩ := seqT_at r e
    exact ⟨a, vs, e1, .inr (C.sqt h1), d1⟩
  · obtain ⟨a, vs, e1, h1, d1⟩ := seqL_at C r h
    exact ⟨a, vs, e1, .inl h1, d1⟩
def gList : List DV → Store → DQ → Prop := fun xs m Q => match xs with
  | [x] => (match seqA m x with
    | some ys => Q (.own m.length) (m ++ [.lst ys])
    | none => False)
  | _ => False
theorem ll_list {K : PySem.W.Frag} : LkA K (fun xs H Q => ∃ p ys, xs = [.ref p] ∧ (SqL K H p ys ∨ SqT K H p ys) ∧ ∀ l, H l = none → Q (.ref l) (upd H l (.lst ys))) gList := by
  intro H F S ad m vs xs Qd Q C rs q kq
  unfold gList at q
  split at q
  · rename_i x
    obtain ⟨v, e, rv⟩ := vrs1 rs
    subst e
    split at q
    · rename_i ys ey
      obtain ⟨p, us, e1, h1, d1⟩ := seqA_at C rv ey
      subst e1
      refine ⟨p, us, rfl, h1, fun l hl => ?_⟩
      obtain ⟨C2, s2, r2⟩ := new_lst C hl d1
      exact kq _ _ _ _ _ _ _ s2 C2 r2 q
    · exact q.elim
  · exact q.elim
def gTuple : List DV → Store → DQ → Prop := fun xs m Q => match xs with
  | [x] => (match seqT x with
    | some _ => Q x m
    | none => (match seqL m x with
      | some ys => Q (mkTup ys) m
      | none => False))
  | _ => False
theorem ll_tuple {K : PySem.W.Frag} : LkA K (fun xs H Q => ∃ p ys, xs = [.ref p] ∧ ((SqL K H p ys ∧ ∀ l, H l = none → Q (.ref l) (upd H l (.tup ys))) ∨ (SqT K H p ys ∧ Q (.ref p) H))) gTuple := by
  intro H F S ad m vs xs Qd Q C rs q kq
  unfold gTuple at q
  split at q
  · rename_i x
    obtain ⟨v, e, rv⟩ := vrs1 rs
    subst e
    split at q
    · rename_i ys ey
      obtain ⟨p, us, e1, h1, d1⟩ := seqT_at rv ey
      subst e1
      exact ⟨p, us, rfl, .inr ⟨C.sqt h1, kq _ _ _ _ _ _ _ (Stp.refl _ _ _) C rv q⟩⟩
    · split at q
      · rename_i ys ey
        obtain ⟨p, us, e1, h1, d1⟩ := seqL_at C rv ey
        subst e1
        refine ⟨p, us, rfl, .inl ⟨h1, fun l hl => ?_⟩⟩
        obtain ⟨C2, s2⟩ := C.shared (o := .tup us) hl
        exact kq _ _ _ _ _ _ _ s2 C2 (vr_mkTup (SqT.of upd_same) (d1.stp s2)) q
      · exact q.elim
  · exact q.elim
/-- the whole numbers of a list -/
def allI : List DV → Option (List Int)
  | [] => some []
  | .sh (.int i) :: r => match allI r with
    | some is => some (i :: is)
    | none => none
  | _ :: _ => none
theorem allI_at {K : PySem.W.Frag} {S : Hp} {ad : List Addr} : ∀ {xs : List DV} {is : List Int} {vs : List V}, allI xs = some is → VRs K S ad vs xs → vs = is.map V.int
  | [], _, _, h, r => by cases h; cases r; rfl
  | .sh (.int i) :: r, _, _, h, rr => by
    unfold allI at h
    split at h
    · rename_i is e
      cases h
      cases rr with
      | cons a b => rw [vr_int a, allI_at e b]; rfl
    · cases h
  | .sh .none :: _, _, _, h, _ => by cases h
  | .sh (.bool _) :: _, _, _, h, _ => by cases h
  | .sh (.str _) :: _, _, _, h, _ => by cases h
  | .sh (.list _) :: _, _, _, h, _ => by cases h
  | .sh (.tuple _) :: _, _, _, h, _ => by cases h
  | .sh (.dict _) :: _, _, _, h, _ => by cases h
  | .own _ :: _, _, _, h, _ => by cases h
  | .tup _ :: _, _, _, h, _ => by cases h
theorem allI_map : ∀ is : List Int, allI (is.map fun i => .sh (.int i)) = some is
  | [] => rfl
  | i :: is => by
    show (match allI (is.map fun i => .sh (.int i)) with | some is => some (i :: is) | none => none) = _
    rw [allI_map is]
def gSum : List DV → Store → DQ → Prop := fun xs m Q => match xs with
  | [x] => (match seqL m x with
    | some ys => (match allI ys with
      | some is => Q (.sh (.int is.sum)) m
      | none => False)
    | none => False)
  | _ => False
theorem ll_sum {K : PySem.W.Frag} : LkA K (rSum K) gSum := by
  intro H F S ad m vs xs Qd Q C rs q kq
  unfold gSum at q
  split at q
  · rename_i x
    obtain ⟨v, e, rv⟩ := vrs1 rs
    subst e
    split at q
    · rename_i ys ey
      split at q
      · rename_i is ei
        obtain ⟨p, us, e1, h1, d1⟩ := seqL_at C rv ey
        subst e1
        rw [allI_at ei d1] at h1
        exact ⟨p, is, rfl, h1, kq _ _ _ _ _ _ _ (Stp.refl _ _ _) C (.sh (.int _)) q⟩
      · exact q.elim
    · exact q.elim
  · exact q.elim
def allB : List DV → Option (List Bool)
  | [] => some []
  | .sh (.bool i) :: r => match allB r with
    | some is => some (i :: is)
    | none => none
  | _ :: _ => none
theorem allB_at {K : PySem.W.Frag} {S : Hp} {ad : List Addr} : ∀ {xs : List DV} {is : List Bool} {vs : List V}, allB xs = some is → VRs K S ad vs xs → vs = is.map V.bl
  | [], _, _, h, r => by cases h; cases r; rfl
  | .sh (.bool i) :: r, _, _, h, rr => by
    unfold allB at h
    split at h
    · rename_i is e
      cases h
      cases rr with
      | cons a b => rw [vr_bl a, allB_at e b]; rfl
    · cases h
  | .sh .none :: _, _, _, h, _ => by cases h
  | .sh (.int _) :: _, _, _, h, _ => by cases h
  | .sh (.str _) :: _, _, _, h, _ => by cases h
  | .sh (.list _) :: _, _, _, h, _ => by cases h
  | .sh (.tuple _) :: _, _, _, h, _ => by cases h
  | .sh (.dict _) :: _, _, _, h, _ => by cases h
  | .own _ :: _, _, _, h, _ => by cases h
  | .tup _ :: _, _, _, h, _ => by cases h
theorem allB_map : ∀ is : List Bool, allB (is.map fun i => .sh (.bool i)) = some is
  | [] => rfl
  | i :: is => by
    show (match allB (is.map fun i => .sh (.bool i)) with | some is => some (i :: is) | none => none) = _
    rw [allB_map is]
def gAll : List DV → Store → DQ → Prop := fun xs m Q => match xs with
  | [x] => (match seqL m x with
    | some ys => (match allB ys with
      | some is => Q (.sh (.bool (is.all id))) m
      | none => False)
    | none => False)
  | _ => False
theorem ll_all {K : PySem.W.Frag} : LkA K (rAll K) gAll := by
  intro H F S ad m vs xs Qd Q C rs q kq
  unfold gAll at q
  split at q
  · rename_i x
    obtain ⟨v, e, rv⟩ := vrs1 rs
    subst e
    split at q
    · rename_i ys ey
      split at q
      · rename_i is ei
        obtain ⟨p, us, e1, h1, d1⟩ := seqL_at C rv ey
        subst e1
        rw [allB_at ei d1] at h1
        exact ⟨p, is, rfl, h1, kq _ _ _ _ _ _ _ (Stp.refl _ _ _) C (.sh (.bl _)) q⟩
      · exact q.elim
    · exact q.elim
  · exact q.elim
/-! ### methods of lists -/
def LkM (K : PySem.W.Frag) (r : V → List V → Hp → VK → Prop) (g : DV → List DV → Store → DQ → Prop) : Prop :=
  ∀ H F S ad m v x vs xs Qd Q, Core K H F S ad m → VR K S ad v x → VRs K S ad vs xs → g x xs m Qd → KQ K F S ad Qd Q → r v vs H Q
abbrev dML (g : DV → List DV → Store → DQ → Prop) (ta : DT) (tr : DTA) : DT := fun δ m Q E => ta δ m (fun x m1 => (∃ ys, seqL m1 x = some ys) ∧ tr δ m1 (fun xs m2 => g x xs m2 Q) E) E
theorem de_ml {id : String} {name : Str} {r : V → List V → Hp → VK → Prop} {g : DV → List DV → Store → DQ → Prop} {apos cpos : Pos} (slot : Slot "list" name id) (hty : typeOf (.builtin id) = pure (.type "method_descriptor")) (hm : MtR X id r) (hl : LkM X.K r g) (ho : DE X W a ta) (ha : DA X W (e :: es) tr)
    (hbase : attributeBase a name X.env (eval a X.env) = eval a X.env := by rfl)
    (hfew : ((backTo cpos (starEach (e :: es) X.env)).all (fun x => !x.1) && (backToKw cpos (keywordEach [] X.env)).all (fun x => x.1.isSome)
      && decide ((e :: es).length + ([] : List Keyword).length + (if ([] : List Keyword).isEmpty then 0 else 1) < 30)) = true := by rfl)
    (hline : (apos.endLine == cpos.line) = true := by rfl) (hs : starEach (e :: es) X.env = (false, eval e X.env) :: starEach es X.env := by rfl) (hplain : (backTo cpos (starEach es X.env)).any (·.1) = false := by rfl) :
    DE X W (.Call (.Attribute a name apos) (e :: es) [] cpos) (dML g ta tr) := by
  obtain ⟨t0, p0, h0⟩ := ho
  obtain ⟨t1, p1, h1⟩ := ha
  refine ⟨_, pe_bm PySem.F.plainAttrs_list slot hty hm p0 p1 hbase hfew hline hs hplain, fun σ H F S ad m δ Qd Ed Q C R h kq kx => ?_⟩
  refine h0 σ H F S ad m δ _ Ed _ C R h (fun v H1 F1 S1 ad1 m1 x s1 C1 rv k1 => ?_) kx
  obtain ⟨⟨ys, ey⟩, k1⟩ := k1
  obtain ⟨p, us, e1, hs1, d1⟩ := seqL_at C1 rv ey
  subst e1
  refine ⟨.inl ⟨rfl, us, hs1⟩, h1 σ H1 F1 S1 ad1 m1 δ _ Ed _ C1 (R.stp s1) k1 (fun vs H2 F2 S2 ad2 m2 xs s2 C2 rs k2 => ?_) (kx.stp s1)⟩
  exact hl _ _ _ _ _ _ _ _ _ _ _ C2 (rv.stp s2) rs k2 (kq.stp (s1.trans s2))
abbrev dML0 (g : DV → List DV → Store → DQ → Prop) (ta : DT) : DT := fun δ m Q E => ta δ m (fun x m1 => (∃ ys, seqL m1 x = some ys) ∧ g x [] m1 Q) E
theorem de_ml0 {id : String} {name : Str} {r : V → List V → Hp → VK → Prop} {g : DV → List DV → Store → DQ → Prop} {apos cpos : Pos} (slot : Slot "list" name id) (hty : typeOf (.builtin id) = pure (.type "method_descriptor")) (hm : MtR X id r) (hl : LkM X.K r g) (ho : DE X W a ta)
    (hbase : attributeBase a name X.env (eval a X.env) = eval a X.env := by rfl) (hline : (apos.endLine == cpos.line) = true := by rfl) : DE X W (.Call (.Attribute a name apos) [] [] cpos) (dML0 g ta) := by
  obtain ⟨t0, p0, h0⟩ := ho
  refine ⟨_, pe_bm0 PySem.F.plainAttrs_list slot hty hm p0 hbase hline, fun σ H F S ad m δ Qd Ed Q C R h kq kx => ?_⟩
  refine h0 σ H F S ad m δ _ Ed _ C R h (fun v H1 F1 S1 ad1 m1 x s1 C1 rv k1 => ?_) kx
  obtain ⟨⟨ys, ey⟩, k1⟩ := k1
  obtain ⟨p, us, e1, hs1, d1⟩ := seqL_at C1 rv ey
  subst e1
  exact ⟨.inl ⟨rfl, us, hs1⟩, hl _ _ _ _ _ _ _ _ _ _ _ C1 rv .nil k1 (kq.stp s1)⟩
def gAppend : DV → List DV → Store → DQ → Prop := fun x ys m Q => match x, ys with
  | .own k, [y] => (match m[k]? with
    | some (.lst xs) => xs.length < sizeLine ∧ Q (.sh .none) (m.set k (.lst (xs ++ [y])))
    | _ => False)
  | _, _ => False
theorem ll_append {K : PySem.W.Frag} : LkM K rAppend gAppend := by
  intro H F S ad m v x vs xs Qd Q C rv rs q kq
  unfold gAppend at q
  split at q
  · rename_i k y
    obtain ⟨u, eu, ru⟩ := vrs1 rs
    subst eu
    cases rv with
    | own ha =>
      rename_i a
      split at q
      · rename_i zs hm
        obtain ⟨hF, us, hh, rr⟩ := C.ent _ _ _ hm ha
        refine ⟨a, us, u, rfl, rfl, hh, by rw [rr.length]; exact q.1, ?_⟩
        exact kq _ _ _ _ _ _ _ (Stp.refl _ _ _) (C.setE (e' := .lst (zs ++ [y])) hm ha rfl ⟨hF, us ++ [u], upd_same, rr.append (.cons ru .nil)⟩) (.sh .non) q.2
      · exact q.elim
  · exact q.elim
def gPop : DV → List DV → Store → DQ → Prop := fun x ys m Q => match x, ys with
  | .own k, [] => (match m[k]? with
    | some (.lst xs) => (match xs[xs.length - 1]? with
      | some y => Q y (m.set k (.lst xs.dropLast))
      | none => False)
    | _ => False)
  | _, _ => False
theorem vrs_dropLast {K : PySem.W.Frag} {S : Hp} {ad : List Addr} {vs : List V} {xs : List DV} (r : VRs K S ad vs xs) : VRs K S ad vs.dropLast xs.dropLast := by
  rw [List.dropLast_eq_take, List.dropLast_eq_take, r.length]
  exact r.take _
theorem ll_pop {K : PySem.W.Frag} : LkM K rPop gPop := by
  intro H F S ad m v x vs xs Qd Q C rv rs q kq
  unfold gPop at q
  split at q
  · rename_i k
    cases rs
    cases rv with
    | own ha =>
      rename_i a
      split at q
      · rename_i zs hm
        split at q
        · rename_i y hy
          obtain ⟨hF, us, hh, rr⟩ := C.ent _ _ _ hm ha
          obtain ⟨u, hu, ru⟩ := rr.get hy
          refine ⟨a, us, u, rfl, rfl, hh, by rw [rr.length]; exact hu, ?_⟩
          exact kq _ _ _ _ _ _ _ (Stp.refl _ _ _) (C.setE (e' := .lst zs.dropLast) hm ha rfl ⟨hF, us.dropLast, upd_same, vrs_dropLast rr⟩) ru q
        · exact q.elim
      · exact q.elim
  · exact q.elim
theorem de_append {apos cpos : Pos} (ho : DE X W a ta) (ha : DE X W e te) (hbase : attributeBase a "append" X.env (eval a X.env) = eval a X.env := by rfl)
    (hs : starEach [e] X.env = (false, eval e X.env) :: starEach [] X.env := by rfl)
    (hfew : ((backTo cpos (starEach [e] X.env)).all (fun x => !x.1) && (backToKw cpos (keywordEach [] X.env)).all (fun x => x.1.isSome)
      && decide ([e].length + ([] : List Keyword).length + (if ([] : List Keyword).isEmpty then 0 else 1) < 30)) = true := by rfl)
    (hline : (apos.endLine == cpos.line) = true := by rfl) (hplain : (backTo cpos (starEach [] X.env)).any (·.1) = false := by rfl) :
    DE X W (.Call (.Attribute a "append" apos) [e] [] cpos) (dML gAppend ta (dCons te dNil)) :=
  de_ml PySem.F.slot_list_append PySem.F.type_list_append mt_append ll_append ho (da_cons ha da_nil hs) hbase hfew hline hs hplain
theorem de_pop {apos cpos : Pos} (ho : DE X W a ta) (hbase : attributeBase a "pop" X.env (eval a X.env) = eval a X.env := by rfl) (hline : (apos.endLine == cpos.line) = true := by rfl) : DE X W (.Call (.Attribute a "pop" apos) [] [] cpos) (dML0 gPop ta) :=
  de_ml0 PySem.F.slot_list_pop PySem.F.type_list_pop mt_pop ll_pop ho hbase hline
end
end DL
namespace DL
open PySem PySem.Spec PyProof.Rows L2
open PySem.Builtin PySem.Builtin.Str PySem.Builtin.Int
abbrev BIG : Nat := 10 ^ 4300
section
variable {prog : Program} {w : World} {A : Around} {E : Value → Shared → Prop} {s : Shared} {h₀ : Heap}
theorem int_repr_big {i : Int} {t : Tok} {Q : Value → Shared → Prop} (hn : s.heap.NoDigits) (hb : i.natAbs < 10 ^ 4300) (h : Q (.str (toString i) s.toks) { s with toks := s.toks + 1 }) :
    wpAny (model prog w) A (call (.builtin "int.__repr__") [.int i t]) Q E s := by
  refine wpAny_call_entry PySem.F.slot_int_repr (typeIs_int s i t) PySem.F.entry_int_repr ?_ (PySem.F.args_int_repr_1 _)
  unfold Builtin.«int.__repr__»
  refine wpAny_bind (m := Builtin.overDigitLimit? i) (overDigitLimit_any hn (fun _ => ?_) fun hge => absurd hb (Nat.not_lt.mpr hge))
  exact wpAny_bind (wpAny_mkStr (wpAny_pure ⟨_, rfl, h⟩) (int_text_fits10 hb))
theorem pyReprObj_big {i : Int} {t : Tok} {Q : Value → Shared → Prop} (hn : s.heap.NoDigits) (hb : i.natAbs < 10 ^ 4300) (h : Q (.str (toString i) s.toks) { s with toks := s.toks + 1 }) :
    wpAny (model prog w) A (pyReprObj (.int i t)) Q E s := by
  have hv : [Value.int i t].any Value.onHeap = false := rfl
  unfold pyReprObj
  simp only [cRoomFor, hv, Bool.false_eq_true, if_false, pure_bind]
  refine wpAny_bind (wpAny_specialOf (name := Str.ofString "__repr__") (typeIs_int s i t) PySem.F.slot_int_repr.lookup ?_)
  refine wpAny_bind (m := callSpecialIfBound? (.int i t) (Str.ofString "__repr__"))
    (wpAny_callSpecialIfBound?_slot (name := Str.ofString "__repr__") (typeIs_int s i t) PySem.F.slot_int_repr (int_repr_big hn hb ?_))
  exact wpAny_bind (wpAny_isInstance (T := "str") (b := true) rfl isSubtype_str_str (wpAny_pure h))
theorem reprK_big {as : List Addr} {d : Nat} {i : Int} {t : Tok} (hn : h₀.NoDigits) (hb : i.natAbs < 10 ^ 4300) : ReprK prog w as h₀ d (.int i t) (toString i) := by
  intro base hz A g E s Q hg hcl hu hk hQ
  have hz' : base ≤ sizeLine := by omega
  rw [pyReprUnder_leaf (v := .int i t) hz' (fun _ e => nomatch e)]
  unfold pyRepr
  exact wpAny_bind (pyReprObj_big (hn.keeps hk) hb (wpAny_pure (hQ s.heap _ fun _ _ e => e)))
mutual
/-- shown by repr -/
def fine : PyData → Bool
  | .none => true
  | .bool _ => true
  | .str _ => true
  | .int i => decide (i.natAbs < BIG)
  | .list xs => fineL xs
  | .tuple xs => fineL xs
  | .dict _ => false
def fineL : List PyData → Bool
  | [] => true
  | x :: xs => fine x && fineL xs
end
mutual
theorem reprK_of (hn : h₀.NoDigits) : ∀ {d : PyData} {v : Value} {as : List Addr}, Reads h₀ v d as → fine d = true → d.shown.length ≤ sizeLine → ∃ bs, ReadAtMost h₀ d.depth bs ∧ ReprK prog w bs h₀ d.depth v d.shown
  | .none, _, _, .none, _, _ => ⟨[], (fun _ h => nomatch h), by simp only [PyData.shown]; exact .of_is ReprIs.none _ _ _⟩
  | .bool b, _, _, .bool _, _, _ => ⟨[], (fun _ h => nomatch h), by simp only [PyData.shown]; exact .of_is (ReprIs.bool b) _ _ _⟩
  | .int i, _, _, .int _ t, hs, _ => ⟨[], (fun _ h => nomatch h), by
      simp only [PyData.shown]
      exact reprK_big hn (by simpa [fine] using hs)⟩
  | .str x, _, _, .str _ t, _, hz => ⟨[], (fun _ h => nomatch h), by
      simp only [PyData.shown] at hz ⊢
      exact .of_is (ReprIs.str x t hz) _ _ _⟩
  | .list xs, _, _, .list (a := a) (vs := vs) h1 h2 h3 h4, hs, hz => by
    have z : (listText (PyData.shownAll xs)).length ≤ sizeLine := by
      simp only [PyData.shown] at hz
      exact hz
    obtain ⟨bs, hb, hk⟩ := reprKs_of hn h4 (by simpa [fine] using hs) fun t ht => Nat.le_trans (listText_mem_le ht) z
    have r := Reads.list h1 h2 h3 h4
    have na : a ∉ bs := not_mem_of_deeper r (by simp only [PyData.depth]; omega) hb
    refine ⟨a :: bs, .cons r (by simp only [PyData.depth]; omega) hb, ?_⟩
    simp only [PyData.depth, PyData.shown]
    obtain ⟨l⟩ := vs
    match l, h3, h4, hk with
    | [], h3, h4, _ =>
      have e4 : ReadsAll h₀ [] xs _ := h4
      cases e4
      simp only [PyData.shownAll, listText_nil]
      exact ReprK.listEmpty h1 h2 h3
    | x :: l, h3, _, hk =>
      refine ReprK.list h1 h2 h3 na ?_ fun i y e => hk.item i y (by simpa using e)
      simpa using hk.length_eq
  | .tuple xs, _, _, .tuple (a := a) h1 h2 h3 h4, hs, hz => by
    have z : (tupleText (PyData.shownAll xs)).length ≤ sizeLine := by
      simp only [PyData.shown] at hz
      exact hz
    obtain ⟨bs, hb, hk⟩ := reprKs_of hn h4 (by simpa [fine] using hs) fun t ht => Nat.le_trans (tupleText_mem_le ht) z
    have r := Reads.tuple h1 h2 h3 h4
    have na : a ∉ bs := not_mem_of_deeper r (by simp only [PyData.depth]; omega) hb
    refine ⟨a :: bs, .cons r (by simp only [PyData.depth]; omega) hb, ?_⟩
    simp only [PyData.depth, PyData.shown]
    exact ReprK.tuple h1 h2 h3 na hk
theorem reprKs_of (hn : h₀.NoDigits) : ∀ {ds : List PyData} {vs : List Value} {as : List Addr}, ReadsAll h₀ vs ds as → fineL ds = true → (∀ t ∈ PyData.shownAll ds, t.length ≤ sizeLine) →
    ∃ bs, ReadAtMost h₀ (PyData.depthAll ds) bs ∧ ReprAllK prog w bs h₀ (PyData.depthAll ds) vs (PyData.shownAll ds)
  | [], _, _, .nil, _, _ => ⟨[], (fun _ h => nomatch h), by simp only [PyData.shownAll]; exact .nil⟩
  | d :: ds, _, _, .cons r rs, hs, hz => by
    have fs : fine d = true ∧ fineL ds = true := by simpa [fineL] using hs
    obtain ⟨b1, l1, k1⟩ := reprK_of hn r fs.1 (hz _ (by simp only [PyData.shownAll]; exact List.mem_cons_self ..))
    obtain ⟨b2, l2, k2⟩ := reprKs_of hn rs fs.2 fun t ht => hz t (by simp only [PyData.shownAll]; exact List.mem_cons_of_mem _ ht)
    refine ⟨b1 ++ b2, fun b hm => ?_, ?_⟩
    · simp only [PyData.depthAll]
      rcases List.mem_append.mp hm with hm | hm
      · obtain ⟨e, cs, q, hd⟩ := l1 b hm
        exact ⟨e, cs, q, Nat.le_trans hd (Nat.le_max_left _ _)⟩
      · obtain ⟨e, cs, q, hd⟩ := l2 b hm
        exact ⟨e, cs, q, Nat.le_trans hd (Nat.le_max_right _ _)⟩
    · simp only [PyData.depthAll, PyData.shownAll]
      exact .cons ((k1.more fun b hb => List.mem_append_left _ hb).level_le (Nat.le_max_left _ _))
        (k2.more_le (fun b hb => List.mem_append_right _ hb) (Nat.le_max_right _ _))
end
/-- repr(v) -/
theorem call_repr_of {d : PyData} {v : Value} {as : List Addr} {Q : Value → Shared → Prop} (hn : s.heap.NoDigits) (r : Reads s.heap v d as) (hf : fine d = true) (hz : d.shown.length ≤ sizeLine) (hg : A.guards = some []) (hu : A.units + (d.depth + 1) < cLine)
    (hQ : ∀ h' u tk, (∀ b o, s.heap.get? b = some o → h'.get? b = some o) → Q (.str d.shown u) { s with heap := h', toks := tk }) : wpAny (model prog w) A (call (.builtin "repr") [v]) Q E s := by
  cases r with
  | none =>
    simp only [PyData.shown] at hQ
    exact PySem.P.repr_of_none (hQ s.heap _ _ fun _ _ e => e)
  | bool b =>
    simp only [PyData.shown] at hQ
    exact PySem.P.repr_of_bool (hQ s.heap _ _ fun _ _ e => e)
  | int i t =>
    simp only [PyData.shown] at hQ
    refine call_repr_slot (by omega) (typeIs_int s i t) PySem.F.slot_int_repr.toG ?_
    exact int_repr_big hn (by simpa [fine] using hf) ⟨_, _, rfl, hQ s.heap _ _ fun _ _ e => e⟩
  | str x t =>
    simp only [PyData.shown] at hQ hz
    exact PySem.P.repr_of_str (hQ s.heap _ _ fun _ _ e => e) hz
  | list h1 h2 h3 h4 =>
    rename_i a o vs n xs as0
    have z : (listText (PyData.shownAll xs)).length ≤ sizeLine := by
      simp only [PyData.shown] at hz
      exact hz
    obtain ⟨bs, hb, hk⟩ := reprKs_of (prog := prog) (w := w) hn h4 (by simpa [fine] using hf) fun t ht => Nat.le_trans (listText_mem_le ht) z
    have na : a ∉ bs := not_mem_of_deeper (.list h1 h2 h3 h4) (by simp only [PyData.depth]; omega) hb
    simp only [PyData.depth] at hu
    simp only [PyData.shown] at hQ
    refine call_repr_slot (by omega) ⟨o, h1, h2⟩ PySem.F.slot_list_repr.toG ?_
    obtain ⟨l⟩ := vs
    match l, h3, h4, hk with
    | [], h3, h4, _ =>
      have e4 : ReadsAll s.heap [] xs _ := h4
      cases e4
      simp only [PyData.shownAll, listText_nil] at hQ
      exact call_list_repr_empty ⟨o, h1, h2⟩ h1 h3 ⟨_, _, rfl, hQ s.heap _ _ fun _ _ e => e⟩
    | x :: l, h3, _, hk =>
      refine call_list_reprK h1 h2 h3 na (by simpa using hk.length_eq) (fun i y e => hk.item i y (by simpa using e)) hg (fun b _ => Clear.nil b) (by show A.units + 1 + _ < cLine; omega) (fun _ _ e => e) (fun h' u tk k => ⟨_, _, rfl, hQ h' u tk k⟩) z
  | tuple h1 h2 h3 h4 =>
    rename_i a o vs n xs
    have z : (tupleText (PyData.shownAll xs)).length ≤ sizeLine := by
      simp only [PyData.shown] at hz
      exact hz
    obtain ⟨bs, hb, hk⟩ := reprKs_of (prog := prog) (w := w) hn h4 (by simpa [fine] using hf) fun t ht => Nat.le_trans (tupleText_mem_le ht) z
    have na : a ∉ bs := not_mem_of_deeper (.tuple h1 h2 h3 h4) (by simp only [PyData.depth]; omega) hb
    simp only [PyData.depth] at hu
    simp only [PyData.shown] at hQ
    refine call_repr_slot (by omega) ⟨o, h1, h2⟩ PySem.F.slot_tuple_repr ?_
    exact call_tuple_reprK h1 h2 h3 na hk hg (fun b _ => Clear.nil b) (by show A.units + 1 + _ < cLine; omega) (fun _ _ e => e) (fun h' u tk k => ⟨_, _, rfl, hQ h' u tk k⟩) z
  | dict => simp [fine] at hf
end
section
variable {X : Cx}
/-- the written part leaves int's own line for long numbers -/
def NoDig (K : PySem.W.Frag) : Prop := PySem.W.nsIn K cStatics "sys.int_max_str_digits" = some none
theorem nodig_of {K : PySem.W.Frag} (nd : NoDig K) {h : Heap} (X : K.In h) (l : h.NoLimit) : h.NoDigits := by
  obtain ⟨mc, hns, _⟩ := l
  refine ⟨mc, hns, ?_⟩
  obtain ⟨o, es, ep, ho, hd, _, hf⟩ := hns
  unfold NoDig PySem.W.nsIn at nd
  split at nd
  · rename_i c d es2 n2 sl q
    have e := X _ _ q
    rw [ho] at e
    cases e
    cases hd
    split at nd
    · cases nd
    · rename_i he
      rw [← hf]
      unfold nsFind findBy
      rw [← Array.find?_toList, he] <;> rfl
  · cases nd
def rRepr (K : PySem.W.Frag) : List V → Hp → VK → Prop := fun xs H Q => ∃ x d, xs = [x] ∧ Dp K H x d ∧ fine d = true ∧ d.shown.length ≤ sizeLine ∧ d.depth ≤ 50 ∧ Q (.str d.shown) H
theorem call_repr {k : Nat} (nd : NoDig X.K) (hr : RoomG k X.A) : CallR X (.builtin "repr") (rRepr X.K) := by
  intro pins s σ H xs us Q I r h
  obtain ⟨x, d, e, hd, hf, hz, hp, q⟩ := h
  subst e
  obtain ⟨u, e, ru⟩ := vals1 r
  subst e
  obtain ⟨as, rd⟩ := Dp.reads I d x u hd ru
  refine call_repr_of (nodig_of nd I.kIn I.nolimit) rd hf hz hr.g (by have := hr.r.units; omega) fun h' t tk k => ?_
  exact ⟨.str d.shown, H, I.kept k, ⟨t, rfl⟩, q⟩
end
def gRepr : List DV → Store → DQ → Prop := fun xs m Q => match xs with
  | [x] => (match dat m deep x with
    | some d => (fine d = true ∧ d.shown.length ≤ sizeLine ∧ d.depth ≤ 50) ∧ Q (.sh (.str d.shown)) m
    | none => False)
  | _ => False
theorem ll_repr {K : PySem.W.Frag} : LkA K (rRepr K) gRepr := by
  intro H F S ad m vs xs Qd Q C rs q kq
  unfold gRepr at q
  split at q
  · rename_i x
    obtain ⟨v, e, rv⟩ := vrs1 rs
    subst e
    split at q
    · rename_i d hd
      exact ⟨v, d, rfl, dat_at C _ _ _ _ rv hd, q.1.1, q.1.2.1, q.1.2.2, kq _ _ _ _ _ _ _ (Stp.refl _ _ _) C (.sh (.str _)) q.2⟩
    · exact q.elim
  · exact q.elim
end DL
namespace DL
open PySem PySem.Spec PyProof.Rows L2
theorem dpa_ints {K : PySem.W.Frag} {S : Hp} : ∀ ns : List Int, DpAll K S (ns.map V.int) (ns.map .int)
  | [] => .nil
  | n :: ns => .cons (.int n) (dpa_ints ns)
/-- a def as the top has left it -/
def FT (K : PySem.W.Frag) (mg : Str → Option Value) (x : Str) (st : Stmt) (ps : List Str) : Prop := ∃ f fd, Fun K x x st f fd ∧ mg x = some (.ref f) ∧ Binds K fd ps []
def LkF (K : PySem.W.Frag) (f : Addr) (fd : FuncData) : Prop := ∃ oc od sl, K.lookup f = some ⟨oc, od, .func fd, sl⟩
/-- a def with its promise -/
def Ok (P : Program) (w : World) (K : PySem.W.Frag) (mg : Str → Option Value) (base : Heap) (k : Nat) (x : Str) (ps : List Str) (spec : DSpec) : Prop :=
  ∃ f fd, FnG P w K mg base k f fd ps (dsp K spec) ∧ mg x = some (.ref f) ∧ PySem.W.keepIn K (.ref f) = true ∧ Binds K fd ps [] ∧ LkF K f fd
section
variable {P : Program} {w : World} {K : PySem.W.Frag} {mg : Str → Option Value} {base : Heap}
theorem ok_of {x : Str} {st : Stmt} {N ps : List Str} {k : Nat} {spec : DSpec} (T : FT K mg x st ps) (S : FnScope N ps (defScope st)) (len : ∀ xs m Q E, spec xs m Q E → xs.length = ps.length)
    (hbody : ∀ (f : Addr) (cdv : Value) (A : Around) (outer : List Env) (s : Shared) (H : Hp) (E : XK), RoomG k (A.deeper (envOfC x (defScope st) s.heap.objs.size f cdv)) →
      ∃ t, DSs (cxOf (L2.CX P w) P w K mg base N x (defScope st) f cdv A outer s H E) (fun c d _ H' => E c d H') (defBody st) t ∧
        ∀ xs m Qd Ed, Scp m → spec xs m Qd Ed → t { nx := fun _ m' => RtQ m.length Qd (.sh .none) m', rt := RtQ m.length Qd, ex := RtX m.length Ed } (dstart N xs) m) : Ok P w K mg base (k + 1) x ps spec := by
  obtain ⟨f, fd, F, hm, hb⟩ := T
  refine ⟨f, fd, dfn_okG F S len (hbody f), hm, F.kp, hb, ?_⟩
  obtain ⟨oc, od, kV, doc, pm, an, cdv, ct, osl, rfl, lk, hcd⟩ := F.ex
  exact ⟨oc, od, osl, lk⟩
theorem Ok.imp {k : Nat} {x : Str} {ps : List Str} {sp sp' : DSpec} (h : Ok P w K mg base k x ps sp) (i : ∀ vs H Q E, dsp K sp' vs H Q E → dsp K sp vs H Q E) : Ok P w K mg base k x ps sp' := by
  obtain ⟨f, fd, G, r⟩ := h
  exact ⟨f, fd, G.imp i, r⟩
theorem Ok.mono {j k : Nat} {x : Str} {ps : List Str} {sp : DSpec} (h : Ok P w K mg base j x ps sp) (i : j ≤ k) : Ok P w K mg base k x ps sp := by
  obtain ⟨f, fd, G, r⟩ := h
  exact ⟨f, fd, G.mono i, r⟩
end
section
variable {X : Cx} {W : WX} {e : Expr} {es : List Expr} {tr : DTA} {pos : Pos}
theorem de_callN {x : Str} {p : Pos} {k : Nat} {ps : List Str} {spec : DSpec} (G : Ok X.prog X.w X.K X.mg X.base k x ps spec) (tk : Takes X W) (hr : RoomG k X.A) (ha : DA X W (e :: es) tr) (hg : Gl X x := by rfl)
    (hdb : (x == ("__debug__" : Str)) = false := by decide) (he : starEach (e :: es) X.env = (false, eval e X.env) :: starEach es X.env := by rfl) (hpl : (backTo pos (starEach es X.env)).any (·.1) = false := by rfl) :
    DE X W (.Call (.Name x p) (e :: es) [] pos) (dCall spec tr) := by
  obtain ⟨f, fd, G, hm, hk, hb, _⟩ := G
  exact de_callG G tk hr hg hm hk hb ha hdb he hpl
theorem FnG_same {P : Program} {w : World} {K : PySem.W.Frag} {mg : Str → Option Value} {base : Heap} {k : Nat} {x : Str} {ps : List Str} {spec : DSpec} {f : Addr} {fd : FuncData} {oc : Value} {od : Option Addr} {sl : Array (Option Value)}
    (G : Ok P w K mg base k x ps spec) (hm : mg x = some (.ref f)) (hl : K.lookup f = some ⟨oc, od, .func fd, sl⟩) : FnG P w K mg base k f fd ps (dsp K spec) := by
  obtain ⟨f', fd', G, hm', _, _, oc', od', sl', hl'⟩ := G
  rw [hm] at hm'
  cases hm'
  rw [hl] at hl'
  cases hl'
  exact G
theorem law_inG {K : PySem.W.Frag} {spec : DSpec} (h : ∀ ns : List Int, ns.length ≤ 63 → spec [.sh (.list (ns.map .int))] [] (fun x _ => x = .sh (.bool true)) (fun _ _ => False)) {H : Hp} {a : Addr} {ns : List Int} (hl : ns.length ≤ 63) (hS : SqL K H a (ns.map V.int)) :
    dsp K spec [.ref a] H (fun v _ => v = .bl true) fun _ _ _ => False := by
  refine ⟨H, H, [], [], [.sh (.list (ns.map .int))], _, _, ⟨Ext.refl _, Ext.refl _, rfl, fun i j a e u h1 => by simp at h1, fun k e a h1 => by simp at h1⟩, .cons (.sh (.lst hS (dpa_ints ns))) .nil, h ns hl, ?_, ?_⟩
  · intro v H' F' S' ad' m' x s C r q
    have q : x = .sh (.bool true) := q
    subst q
    exact vr_bl r
  · intro c d H' F' S' ad' m' x s C r q
    exact q.elim
/-- a constant of the top -/
def GC (K : PySem.W.Frag) (mg : Str → Option Value) (x : Str) (d : PyData) : Prop := ∃ u v, mg x = some u ∧ RelV v u ∧ ∀ S, Dp K S v d
def GCK (K : PySem.W.Frag) (x : Str) (d : PyData) : Prop := ∃ u v, PySem.W.nsIn K mainGlobals x = some (some u) ∧ RelV v u ∧ ∀ S, Dp K S v d
theorem GCK.of {K : PySem.W.Frag} {x : Str} {d : PyData} (c : GCK K x d) {h : Heap} {mg : Str → Option Value} (X : K.In h) (G : h.Ns mainGlobals mg) : GC K mg x d := by
  obtain ⟨u, v, a, r, d⟩ := c
  exact ⟨u, v, PySem.W.mg_of X G a, r, d⟩
theorem GCK.tup2 {K : PySem.W.Frag} {x : Str} {a : Addr} {i j : Int} {ti tj : Tok} {n : Nat} {od : Option Addr} {sl : Array (Option Value)} (h : PySem.W.nsIn K mainGlobals x = some (some (.ref a)))
    (l : K.lookup a = some ⟨.type "tuple", od, .seq #[.int i ti, .int j tj] n, sl⟩) : GCK K x (.tuple [.int i, .int j]) :=
  ⟨_, .ref a, h, rfl, fun S => .tup (.inr ⟨_, _, _, l, rfl, rfl, (show (2 : Nat) ≤ sizeLine by decide), (.cons (show RelV (.int i) (.int i ti) from ⟨_, rfl⟩) (.cons (show RelV (.int j) (.int j tj) from ⟨_, rfl⟩) .nil) : Vals [.int i, .int j] [.int i ti, .int j tj])⟩) (.cons (.int i) (.cons (.int j) .nil))⟩
theorem de_globC {x : Str} {d : PyData} (hg : Gl X x) (h : GC X.K X.mg x d) (hdb : (x == ("__debug__" : Str)) = false := by decide) : DE X W (.Name x pos) (dC (.sh d)) := by
  obtain ⟨u, v, a, r, hd⟩ := h
  exact de_glob hg a r hd hdb
abbrev Promise (N : List Str) (rd : DTS) (sp : DSpec) : Prop := ∀ xs m Qd Ed, Scp m → sp xs m Qd Ed → rd { nx := fun _ m' => RtQ m.length Qd (.sh .none) m', rt := RtQ m.length Qd, ex := RtX m.length Ed } (dstart N xs) m
abbrev dNever : DTS := fun _ _ _ => False
theorem ds_never {st : Stmt} : DS X W st dNever := ⟨_, ps_never, fun _ _ _ _ _ _ _ _ _ _ _ h _ => h.elim⟩
theorem dss_never {st : List Stmt} : DSs X W st dNever := ⟨_, pss_never, fun _ _ _ _ _ _ _ _ _ _ _ h _ => h.elim⟩
end
/-! ### the drawing -/
section
variable {K : PySem.W.Frag} {H F S : Hp} {ad : List Addr} {m : Store}
def drwL (ns l : List Int) : Ent := .lst (.sh (.list (ns.map .int)) :: l.map fun i => .sh (.int i))
theorem vrs_ints {ad : List Addr} : ∀ l : List Int, VRs K S ad (l.map V.int) (l.map fun i => .sh (.int i))
  | [] => .nil
  | n :: l => .cons (.sh (.int n)) (vrs_ints l)
theorem ints_vrs {ad : List Addr} : ∀ {l : List Int} {vs : List V}, VRs K S ad vs (l.map fun i => .sh (.int i)) → vs = l.map V.int
  | [], _, h => by cases h; rfl
  | n :: l, _, h => by
    cases h with
    | cons a b => rw [vr_int a, ints_vrs b]; rfl
theorem upd_id {H : Hp} {a : Addr} {o : HO} (h : H a = some o) : upd H a o = H := by
  funext b
  by_cases q : b = a
  · subst q; rw [upd_same, h]
  · rw [upd_ne q]
theorem ints_dpa : ∀ {ns : List Int} {vs : List V}, DpAll K S vs (ns.map .int) → vs = ns.map V.int
  | [], _, h => by cases h; rfl
  | n :: ns, _, h => by
    cases h with
    | cons a b => cases a; rw [ints_dpa b]; rfl
theorem Core.openD (C : Core K H F S ad m) {k q : Nat} (h : m[k]? = some (.drw q)) : ∃ ns l, (l.length = q ∧ ns.length ≤ 15) ∧ Core K H F S ad (m.set k (drwL ns l)) := by
  have hk : k < ad.length := by rw [C.len]; exact (List.getElem?_eq_some_iff.mp h).1
  have ha : ad[k]? = some ad[k] := List.getElem?_eq_getElem hk
  obtain ⟨hF, n, ns, l, el, hh, hs⟩ := C.ent k _ _ h ha
  refine ⟨ns, l, el, ?_⟩
  have C2 := C.setE (o := .lst (.ref n :: l.map V.int)) (e' := drwL ns l) h ha rfl ⟨hF, _, upd_same, .cons (.sh (.lst hs (dpa_ints ns))) (vrs_ints l)⟩
  rwa [upd_id hh] at C2
theorem Core.closeD (C : Core K H F S ad m) {k : Nat} {ns l : List Int} (h15 : ns.length ≤ 15) (h : m[k]? = some (drwL ns l)) : Core K H F S ad (m.set k (.drw l.length)) := by
  have hk : k < ad.length := by rw [C.len]; exact (List.getElem?_eq_some_iff.mp h).1
  have ha : ad[k]? = some ad[k] := List.getElem?_eq_getElem hk
  obtain ⟨hF, vs, hh, hr⟩ := C.ent k _ _ h ha
  obtain ⟨n, e, hs⟩ : ∃ n, vs = .ref n :: l.map V.int ∧ SqL K S n (ns.map V.int) := by
    cases hr with
    | cons r1 hr =>
      rw [ints_vrs hr]
      cases r1 with
      | sh r1 =>
        cases r1 with
        | lst hs hd => rw [ints_dpa hd] at hs; exact ⟨_, rfl, hs⟩
  subst e
  have C2 := C.setE (o := .lst (.ref n :: l.map V.int)) (e' := .drw l.length) h ha rfl ⟨hF, n, ns, l, ⟨rfl, h15⟩, upd_same, hs⟩
  rwa [upd_id hh] at C2
/-- a list of numbers is given to the trees for good -/
theorem Core.freezeI (C : Core K H F S ad m) {k : Nat} {ns : List Int} (h : m[k]? = some (.lst (ns.map fun n => .sh (.int n)))) : ∃ F' S' a, ad[k]? = some a ∧ Stp F S ad F' S' ad ∧ Core K H F' S' ad (m.set k .gone) ∧ SqL K S' a (ns.map V.int) := by
  have hk : k < m.length := (List.getElem?_eq_some_iff.mp h).1
  have hka : k < ad.length := by rw [C.len]; exact hk
  have ha : ad[k]? = some ad[k] := List.getElem?_eq_getElem hka
  obtain ⟨hF, vs, hh, hr⟩ := C.ent k _ _ h ha
  have hvs : vs = ns.map V.int := by
    clear hh h
    induction ns generalizing vs with
    | nil => cases hr; rfl
    | cons n ns ih =>
      cases hr with
      | cons r t => rw [vr_int r, ih _ t]; rfl
  subst hvs
  have nS := C.noS hF
  have e1 : Ext S (upd S ad[k] (.lst (ns.map V.int))) := ext_new nS
  refine ⟨upd F ad[k] (.lst (ns.map V.int)), upd S ad[k] (.lst (ns.map V.int)), ad[k], ha, ⟨e1, ext_new hF, Pfx.refl _, fun b u o hb ho => ?_⟩, ⟨ext_upd2 C.sF, fun b u hb => ?_, by rw [List.length_set]; exact C.len, fun i j b e1 e2 h1 h2 g1 g2 l1 l2 => ?_, fun i e' b h1 h2 => ?_⟩, .inl (.inl upd_same)⟩
  · rw [upd_ne (ne_of_none hb hF)] at ho; exact ho
  · by_cases q : b = ad[k]
    · subst q; rw [upd_same] at hb; rw [hh]; exact hb
    · rw [upd_ne q] at hb; exact C.FH b u hb
  · have hi : i ≠ k := fun q => by subst q; rw [List.getElem?_set_self hk] at g1; cases g1; cases l1
    have hj : j ≠ k := fun q => by subst q; rw [List.getElem?_set_self hk] at g2; cases g2; cases l2
    rw [List.getElem?_set_ne (Ne.symm hi)] at g1
    rw [List.getElem?_set_ne (Ne.symm hj)] at g2
    exact C.nd i j b e1 e2 h1 h2 g1 g2 l1 l2
  · by_cases hi : i = k
    · subst hi; rw [List.getElem?_set_self hk] at h1; cases h1; trivial
    · rw [List.getElem?_set_ne (Ne.symm hi)] at h1
      refine (C.ent i e' b h1 h2).mono e1 (Pfx.refl _) (fun l z => ?_) fun _ => rfl
      rw [upd_ne fun q => ?_]
      · exact z
      · subst q; exact hi (C.nd i k _ e' _ h2 ha h1 h l rfl)
/-- a drawing made by the law is closed for the first time -/
theorem Core.sealD (C : Core K H F S ad m) {k1 k2 : Nat} {ns l : List Int} (h1 : m[k1]? = some (.lst (ns.map fun n => .sh (.int n)))) (h2 : m[k2]? = some (.lst (.own k1 :: l.map fun i => .sh (.int i)))) (ne : k1 ≠ k2) (h15 : ns.length ≤ 15) :
    ∃ F' S', Stp F S ad F' S' ad ∧ Core K H F' S' ad ((m.set k1 .gone).set k2 (.drw l.length)) := by
  obtain ⟨F', S', a, ha, st, C1, hs⟩ := C.freezeI h1
  refine ⟨F', S', st, ?_⟩
  have h2' : (m.set k1 .gone)[k2]? = some (.lst (.own k1 :: l.map fun i => .sh (.int i))) := by rw [List.getElem?_set_ne ne]; exact h2
  have hk : k2 < ad.length := by rw [C.len]; exact (List.getElem?_eq_some_iff.mp h2).1
  have ha2 : ad[k2]? = some ad[k2] := List.getElem?_eq_getElem hk
  obtain ⟨hF, vs, hh, hr⟩ := C1.ent k2 _ _ h2' ha2
  cases hr with
  | cons r1 hr =>
    have e := ints_vrs hr
    subst e
    cases r1 with
    | own r1 =>
      rw [ha] at r1
      cases r1
      have C2 := C1.setE (o := .lst (.ref a :: l.map V.int)) (e' := .drw l.length) h2' ha2 rfl ⟨hF, a, ns, l, ⟨rfl, h15⟩, upd_same, hs⟩
      rwa [upd_id hh] at C2
/-- an entry is forgotten -/
theorem Core.dropE (C : Core K H F S ad m) (k : Nat) : Core K H F S ad (m.set k .gone) := by
  refine ⟨C.sF, C.FH, by rw [List.length_set]; exact C.len, fun i j b e1 e2 h1 h2 g1 g2 l1 l2 => ?_, fun i e b h1 h2 => ?_⟩
  · have go : ∀ {i : Nat} {e : Ent}, (m.set k .gone)[i]? = some e → e.live = true → m[i]? = some e := by
      intro i e g l
      by_cases q : k = i
      · subst q
        rw [List.getElem?_set_self (by have := (List.getElem?_eq_some_iff.mp g).1; rwa [List.length_set] at this)] at g
        cases g; cases l
      · rwa [List.getElem?_set_ne q] at g
    exact C.nd i j b e1 e2 h1 h2 (go g1 l1) (go g2 l2) l1 l2
  · by_cases q : k = i
    · subst q
      rw [List.getElem?_set_self (by have := (List.getElem?_eq_some_iff.mp h1).1; rwa [List.length_set] at this)] at h1
      cases h1; trivial
    · rw [List.getElem?_set_ne q] at h1
      exact C.ent i e b h1 h2
end
end DL
namespace DL
open PySem PySem.Spec PyProof.Rows L2
/-! ### short steps of readings -/
theorem ifT {c : Bool} {A B : Prop} (h1 : c = true → A) (h2 : c = false → B) : if c = true then A else B := by
  cases c with
  | true => exact h1 rfl
  | false => exact h2 rfl
theorem app_at (m t : Store) (j : Nat) : (m ++ t)[m.length + j]? = t[j]? := by
  rw [List.getElem?_append_right (by omega)]
  congr 1; omega
theorem app_at0 (m : Store) (e : Ent) (t : Store) : (m ++ e :: t)[m.length]? = some e := app_at m (e :: t) 0
theorem app_set (m t : Store) (j : Nat) (e : Ent) : (m ++ t).set (m.length + j) e = m ++ t.set j e := by
  rw [List.set_append_right _ _ (by omega)]
  congr 2; omega
theorem seqL_own {m : Store} {k : Nat} {xs : List DV} (h : m[k]? = some (.lst xs)) : seqL m (.own k) = some xs := by
  show (match m[k]? with
    | some (.lst xs) => some xs
    | some (.frz (.list ds)) => some (ds.map .sh)
    | _ => none) = some xs
  rw [h]
theorem dISeq_own {te : DT} {δ : DEnv} {m m1 : Store} {k : Nat} {xs : List DV} {Q : List DV → (Store → Prop) → Store → Prop} {E : DXK} (ht : ∀ Q' : DQ, Q' (.own k) m1 → te δ m Q' E) (h : m1[k]? = some (.lst xs)) (q : Q xs (fun m' => seqL m' (.own k) = some xs) m1) : dISeq te δ m Q E := by
  refine ht _ ?_
  show (match seqL m1 (.own k) with
    | some xs => Q xs (fun m' => seqL m' (.own k) = some xs) m1
    | none => False)
  rw [seqL_own h]
  exact q
theorem gIx_own {m : Store} {k j : Nat} {xs : List DV} {x : DV} {Q : DQ} (h : m[k]? = some (.lst xs)) (hj : xs[j]? = some x) (q : Q x m) : gIx (.own k) (.sh (.int (j : Int))) m Q := by
  have hl : j < xs.length := (List.getElem?_eq_some_iff.mp hj).1
  have e : atI xs (j : Int) = some x := atI_nat hj
  show match seqL m (.own k) with
    | some xs => (match atI xs (j : Int) with
      | some z => Q z m
      | none => False)
    | none => False
  have e2 : seqL m (.own k) = some xs := by
    show (match m[k]? with
    | some (.lst xs) => some xs
    | some (.frz (.list ds)) => some (ds.map .sh)
    | _ => none) = some xs
    rw [h]
  rw [e2]
  show match atI xs (j : Int) with
      | some z => Q z m
      | none => False
  rw [e]
  exact q
theorem gIx_seq {m : Store} {i : Int} {v : DV} {xs : List DV} {x : DV} {Q : DQ} (hs : ∀ s, v ≠ .sh (.str s)) (h : seqA m v = some xs) (hj : atI xs i = some x) (q : Q x m) : gIx v (.sh (.int i)) m Q := by
  unfold gIx
  split
  · rename_i j e
    cases e
    split
    · rename_i s; exact absurd rfl (hs s)
    · unfold seqA at h
      split at h
      · rename_i ys e1; cases h; rw [hj]; exact q
      · rw [h]
        show match atI xs i with
          | some z => Q z m
          | none => False
        rw [hj]; exact q
  · rename_i h2; exact absurd rfl (h2 i)
theorem gSetL_own {m : Store} {k j : Nat} {xs : List DV} {z : DV} {Q : Store → Prop} (h : m[k]? = some (.lst xs)) (hj : j < xs.length) (q : Q (m.set k (.lst (xs.set j z)))) : gSetL (.own k) (.sh (.int (j : Int))) z m Q := by
  show match m[k]? with
    | some (.lst xs) => (match ixN xs.length (j : Int) with
      | some j => Q (m.set k (.lst (xs.set j z)))
      | none => False)
    | _ => False
  rw [h]
  have e : ixN xs.length (j : Int) = some j := by
    unfold ixN
    rw [if_pos (by omega), if_pos (by omega)]
    simp
  show match ixN xs.length (j : Int) with
      | some j => Q (m.set k (.lst (xs.set j z)))
      | none => False
  rw [e]
  exact q
theorem gLen_seq {m : Store} {v : DV} {xs : List DV} {Q : DQ} (hs : ∀ s, v ≠ .sh (.str s)) (h : seqA m v = some xs) (q : Q (.sh (.int xs.length)) m) : gLen [v] m Q := by
  unfold gLen
  split
  · rename_i s e; cases e; exact absurd rfl (hs s)
  · rename_i x _ e
    cases e
    unfold seqA at h
    split at h
    · cases h; exact q
    · rw [h]; exact q
  · rename_i h2; exact absurd rfl (h2 v)
theorem fmod_bd (a : Int) {b : Int} (h : 0 < b) : 0 ≤ a.fmod b ∧ a.fmod b < b := ⟨Int.fmod_nonneg_of_pos a h, Int.fmod_lt_of_pos a h⟩
theorem bits64 {i : Int} (h0 : -18446744073709551616 < i) (h1 : i < 18446744073709551616) : Builtin.Int.intBits i ≤ 64 := intBits_le_64 (by omega) (by omega)
theorem nz_of {a b : Int} (h : (b == 0) = false) : cNz a b := by
  show b ≠ 0
  intro e
  subst e
  cases h
theorem set_id {α : Type} {l : List α} {k : Nat} {x : α} (h : l[k]? = some x) : l.set k x = l := by
  apply List.ext_getElem?
  intro i
  by_cases e : k = i
  · subst e; rw [List.getElem?_set_self (List.getElem?_eq_some_iff.mp h).1, h]
  · rw [List.getElem?_set_ne e]
theorem scs_ints (n : Nat) : ∀ l : List Int, DV.scs n (l.map fun i => .sh (.int i))
  | [] => trivial
  | _ :: l => ⟨trivial, scs_ints n l⟩
theorem scs_drwL (n : Nat) (ns l : List Int) : (drwL ns l).sc n := ⟨trivial, scs_ints n l⟩
theorem Scp.set {m : Store} (h : Scp m) {k : Nat} {e : Ent} (he : e.sc m.length) : Scp (m.set k e) := by
  intro i u hu
  rw [List.length_set]
  by_cases q : k = i
  · subst q
    rw [List.getElem?_set_self (by have := (List.getElem?_eq_some_iff.mp hu).1; rwa [List.length_set] at this)] at hu
    cases hu; exact he
  · rw [List.getElem?_set_ne q] at hu
    exact h i u hu
theorem canLay_ints : ∀ ns : List Int, PyData.canLayAll0 (ns.map PyData.int) = true
  | [] => by simp [PyData.canLayAll0]
  | n :: ns => by simp [PyData.canLayAll0, PyData.canLay0, canLay_ints ns]
theorem depth_ints : ∀ ns : List Int, PyData.depthAll (ns.map PyData.int) = 0
  | [] => by simp [PyData.depthAll]
  | n :: ns => by simp [PyData.depthAll, PyData.depth, depth_ints ns]
theorem gEq_nil {m : Store} {k : Nat} {ns : List Int} {Q : DQ} (h : m[k]? = some (.lst [])) (q : Q (.sh (.bool (!ns.isEmpty))) m) : gEq true (.sh (.list (ns.map .int))) (.own k) m Q := by
  show (match some (PyData.list (ns.map .int)), (match m[k]? with
    | some (.lst xs) => (match datL (dat m 7) xs with
      | some ds => some (PyData.list ds)
      | none => none)
    | some (.frz d) => some d
    | _ => none) with
    | some d, some e => (SeqAt.shaped d = true ∧ SeqAt.shaped e = true) ∧ Q (.sh (.bool (!PyData.eqv d e))) m
    | _, _ => False)
  rw [h]
  show (SeqAt.shaped (.list (ns.map .int)) = true ∧ SeqAt.shaped (.list []) = true) ∧ Q (.sh (.bool (!PyData.eqv (.list (ns.map .int)) (.list [])))) m
  refine ⟨⟨?_, by decide⟩, ?_⟩
  · unfold SeqAt.shaped
    simp only [PyData.canLay0, PyData.depth, canLay_ints, depth_ints]; rfl
  · cases ns with
    | nil => simpa [PyData.eqv, PyData.eqvAll] using q
    | cons n ns => simpa [PyData.eqv, PyData.eqvAll] using q
/-! ### what repr takes -/
def SB (B D : Nat) (d : PyData) : Prop := fine d = true ∧ d.shown.length ≤ B ∧ d.depth ≤ D
theorem SB.int {i : Int} {k : Nat} (hk : 0 < k) (h : i.natAbs < 10 ^ k) (hk2 : k ≤ 4300) : SB (k + 1) 0 (.int i) := by
  refine ⟨?_, ?_, Nat.le_refl _⟩
  · simp only [fine, decide_eq_true_eq]
    exact Nat.lt_of_lt_of_le h (Nat.pow_le_pow_right (by decide) hk2)
  · simp only [PyData.shown]
    rw [PySem.ofString_length]
    exact int_text_length_le10 hk h
theorem SB.nat2 {i : Int} {n k : Nat} (h : i.natAbs < 2 ^ n) (hn : n ≤ 3 * k) (hk : 0 < k) (hk2 : k ≤ 4300) : SB (k + 1) 0 (.int i) := by
  refine SB.int hk (Nat.lt_of_lt_of_le h ?_) hk2
  calc 2 ^ n ≤ 2 ^ (3 * k) := Nat.pow_le_pow_right (by decide) hn
    _ = 8 ^ k := by rw [Nat.pow_mul]
    _ ≤ 10 ^ k := Nat.pow_le_pow_left (by decide) k
theorem SB.mono {B D B' D' : Nat} {d : PyData} (h : SB B D d) (hB : B ≤ B') (hD : D ≤ D') : SB B' D' d := ⟨h.1, Nat.le_trans h.2.1 hB, Nat.le_trans h.2.2 hD⟩
theorem sb_all {B D : Nat} : ∀ {ds : List PyData}, (∀ d ∈ ds, SB B D d) → fineL ds = true ∧ ((PyData.shownAll ds).map (·.length)).sum ≤ ds.length * B ∧ (PyData.shownAll ds).length = ds.length ∧ PyData.depthAll ds ≤ D
  | [], _ => ⟨rfl, Nat.le_of_eq (by simp [PyData.shownAll]), rfl, Nat.zero_le _⟩
  | d :: ds, h => by
    obtain ⟨h1, h2, h3⟩ := h d List.mem_cons_self
    obtain ⟨g1, g2, g3, g4⟩ := sb_all fun x hx => h x (List.mem_cons_of_mem _ hx)
    refine ⟨by simp only [fineL, h1, g1, Bool.and_self], ?_, by simp only [PyData.shownAll, List.length_cons, g3], ?_⟩
    · simp only [PyData.shownAll, List.map_cons, List.sum_cons, List.length_cons]
      rw [Nat.add_mul, Nat.one_mul]; omega
    · simp only [PyData.depthAll]; omega
theorem SB.list {B D n : Nat} {ds : List PyData} (h : ∀ d ∈ ds, SB B D d) (hn : ds.length ≤ n) : SB (n * (B + 2) + 3) (D + 1) (.list ds) := by
  obtain ⟨g1, g2, g3, g4⟩ := sb_all h
  refine ⟨by simp only [fine]; exact g1, ?_, by simp only [PyData.depth]; omega⟩
  have q := listText_len_le (PyData.shownAll ds)
  have e : (PyData.list ds).shown = listText (PyData.shownAll ds) := by simp only [PyData.shown]
  rw [e]
  have e2 : ds.length * (B + 2) ≤ n * (B + 2) := Nat.mul_le_mul_right _ hn
  rw [Nat.mul_add] at e2
  omega
theorem SB.tuple {B D n : Nat} {ds : List PyData} (h : ∀ d ∈ ds, SB B D d) (hn : ds.length ≤ n) : SB (n * (B + 2) + 3) (D + 1) (.tuple ds) := by
  obtain ⟨g1, g2, g3, g4⟩ := sb_all h
  refine ⟨by simp only [fine]; exact g1, ?_, by simp only [PyData.depth]; omega⟩
  have q := tupleText_len_le (PyData.shownAll ds)
  have e : (PyData.tuple ds).shown = tupleText (PyData.shownAll ds) := by simp only [PyData.shown]
  rw [e]
  have e2 : ds.length * (B + 2) ≤ n * (B + 2) := Nat.mul_le_mul_right _ hn
  rw [Nat.mul_add] at e2
  omega
theorem gRepr_ok {m : Store} {x : DV} {d : PyData} {B D : Nat} {Q : DQ} (h : dat m deep x = some d) (s : SB B D d) (hB : B ≤ 16777216) (hD : D ≤ 50) (q : Q (.sh (.str d.shown)) m) : gRepr [x] m Q := by
  unfold gRepr
  split
  · rename_i y e
    cases e
    rw [h]
    exact ⟨⟨s.1, Nat.le_trans s.2.1 hB, Nat.le_trans s.2.2 hD⟩, q⟩
  · rename_i h2; exact absurd rfl (h2 x)
/-! ### fractions -/
def frD (x : Int × Int) : PyData := .tuple [.int x.1, .int x.2]
def fr (a b : Int) : Int × Int := if 0 < b then (a / (Int.gcd a b : Int), b / (Int.gcd a b : Int)) else (-a / (Int.gcd a b : Int), -b / (Int.gcd a b : Int))
def Red (x : Int × Int) : Prop := 0 < x.2 ∧ Int.gcd x.1 x.2 = 1
def FB (n : Nat) (x : Int × Int) : Prop := x.1.natAbs < 2 ^ n ∧ x.2.natAbs < 2 ^ n
theorem gcd_pos {a b : Int} (h : b ≠ 0) : 0 < Int.gcd a b := Nat.pos_of_ne_zero fun e => h (Int.gcd_eq_zero_iff.mp e).2
theorem fr_red {a b : Int} (h : b ≠ 0) : Red (fr a b) := by
  have g := gcd_pos (a := a) h
  have gi : (0 : Int) < (Int.gcd a b : Int) := by omega
  unfold fr
  split
  · rename_i hb
    refine ⟨?_, Int.gcd_ediv_gcd_ediv_gcd g⟩
    exact Int.ediv_pos_of_pos_of_dvd hb (by omega) (Int.gcd_dvd_right ..)
  · rename_i hb
    have e : Int.gcd a b = Int.gcd (-a) (-b) := by rw [Int.neg_gcd, Int.gcd_neg]
    refine ⟨?_, ?_⟩
    · exact Int.ediv_pos_of_pos_of_dvd (by omega) (by omega) (Int.dvd_neg.mpr (Int.gcd_dvd_right ..))
    · show Int.gcd (-a / (Int.gcd a b : Int)) (-b / (Int.gcd a b : Int)) = 1
      rw [e]
      exact Int.gcd_ediv_gcd_ediv_gcd (by rw [← e]; exact g)
theorem fr_of_red {x : Int × Int} (h : Red x) : fr x.1 x.2 = x := by
  unfold fr
  rw [if_pos h.1, h.2]
  simp
theorem div_natAbs_le (a : Int) {g : Nat} (h : 0 < g) : (a / (g : Int)).natAbs ≤ a.natAbs := by
  exact Int.natAbs_ediv_le_natAbs a g
theorem fr_bd {a b : Int} {n : Nat} (ha : a.natAbs < 2 ^ n) (hb : b.natAbs < 2 ^ n) (h : b ≠ 0) : FB n (fr a b) := by
  have g := gcd_pos (a := a) h
  unfold fr
  split
  · exact ⟨Nat.lt_of_le_of_lt (div_natAbs_le _ g) ha, Nat.lt_of_le_of_lt (div_natAbs_le _ g) hb⟩
  · exact ⟨Nat.lt_of_le_of_lt (div_natAbs_le _ g) (by rwa [Int.natAbs_neg]), Nat.lt_of_le_of_lt (div_natAbs_le _ g) (by rwa [Int.natAbs_neg])⟩
def addF (x y : Int × Int) : Int × Int := fr (x.1 * y.2 + y.1 * x.2) (x.2 * y.2)
def mulF (x y : Int × Int) : Int × Int := fr (x.1 * y.1) (x.2 * y.2)
theorem mul_lt {a b : Int} {n k : Nat} (ha : a.natAbs < 2 ^ n) (hb : b.natAbs < 2 ^ k) : (a * b).natAbs < 2 ^ (n + k) := by
  rw [Int.natAbs_mul, Nat.pow_add]
  exact Nat.mul_lt_mul'' ha hb
theorem add_lt {a b : Int} {n : Nat} (ha : a.natAbs < 2 ^ n) (hb : b.natAbs < 2 ^ n) : (a + b).natAbs < 2 ^ (n + 1) := by
  have := Int.natAbs_add_le a b
  rw [Nat.pow_succ]; omega
theorem FB.mono {n k : Nat} {x : Int × Int} (h : FB n x) (hk : n ≤ k) : FB k x :=
  ⟨Nat.lt_of_lt_of_le h.1 (Nat.pow_le_pow_right (by decide) hk), Nat.lt_of_lt_of_le h.2 (Nat.pow_le_pow_right (by decide) hk)⟩
theorem pos_mul {a b : Int} (h : 0 < a) (g : 0 < b) : a * b ≠ 0 := Int.ne_of_gt (Int.mul_pos h g)
theorem addF_bd {x y : Int × Int} {n k : Nat} (hx : FB n x) (hy : FB k y) (px : 0 < x.2) (py : 0 < y.2) : FB (n + k + 1) (addF x y) :=
  fr_bd (add_lt (mul_lt hx.1 hy.2) (by rw [Nat.add_comm n k]; exact mul_lt hy.1 hx.2)) (Nat.lt_of_lt_of_le (mul_lt hx.2 hy.2) (Nat.pow_le_pow_right (by decide) (Nat.le_succ _))) (pos_mul px py)
theorem mulF_bd {x y : Int × Int} {n k : Nat} (hx : FB n x) (hy : FB k y) (px : 0 < x.2) (py : 0 < y.2) : FB (n + k) (mulF x y) := fr_bd (mul_lt hx.1 hy.1) (mul_lt hx.2 hy.2) (pos_mul px py)
theorem addF_red {x y : Int × Int} (px : 0 < x.2) (py : 0 < y.2) : Red (addF x y) := fr_red (pos_mul px py)
theorem mulF_red {x y : Int × Int} (px : 0 < x.2) (py : 0 < y.2) : Red (mulF x y) := fr_red (pos_mul px py)
theorem mul_okN {a b : Int} {n k : Nat} (ha : a.natAbs < 2 ^ n) (hb : b.natAbs < 2 ^ k) (hn : n ≤ 2 ^ 20) (hk : k ≤ 2 ^ 20) : IntMulOk a b := by
  have bit : ∀ {i : Int} {q : Nat}, i.natAbs < 2 ^ q → q ≤ 2 ^ 20 → Builtin.Int.intBits i ≤ 2 ^ 20 := by
    intro i q h hq
    unfold Builtin.Int.intBits
    split
    · omega
    · rename_i hi
      have hz : i.natAbs ≠ 0 := by
        intro e
        have : i = 0 := Int.natAbs_eq_zero.mp e
        subst this
        exact hi rfl
      have := (Nat.log2_lt hz).mpr h
      omega
  exact IntMulOk.of_bits (bit ha hn) (bit hb hk)
theorem log2_lt9 {a : Nat} {n : Nat} (h : a < 2 ^ n) (hn : n ≤ 9000) (h0 : 0 < n) : a.log2 < 9000 := by
  by_cases e : a = 0
  · subst e; simp
  · exact Nat.lt_of_lt_of_le ((Nat.log2_lt e).mpr h) hn
/-- Euclid's loop: a promise -/
theorem gcd_step {a b : Int} (ha : 0 ≤ a) (hb : 0 < b) : Int.gcd b (a.fmod b) = Int.gcd a b := by
  rw [Int.fmod_eq_emod_of_nonneg a (Int.le_of_lt hb)]
  obtain ⟨n, rfl⟩ := Int.eq_ofNat_of_zero_le ha
  obtain ⟨k, rfl⟩ := Int.eq_ofNat_of_zero_le (Int.le_of_lt hb)
  show Nat.gcd k (n % k) = Nat.gcd n k
  rw [Nat.gcd_comm k, ← Nat.gcd_rec, Nat.gcd_comm]
theorem absI (a : Int) : (if a < 0 then -a else a) = (a.natAbs : Int) := by split <;> omega
theorem sb_fr {x : Int × Int} {n k : Nat} (h : FB n x) (hn : n ≤ 3 * k) (hk : 0 < k) (hk2 : k ≤ 4300) : SB (2 * (k + 1 + 2) + 3) 1 (frD x) := by
  refine SB.tuple (B := k + 1) (D := 0) (n := 2) (fun d hd => ?_) (Nat.le_refl _)
  rcases List.mem_cons.mp hd with rfl | hd
  · exact SB.nat2 h.1 hn hk hk2
  · rcases List.mem_cons.mp hd with rfl | hd
    · exact SB.nat2 h.2 hn hk hk2
    · cases hd
theorem log2_len {n : Nat} (h : n ≤ 2 ^ 64) : (n : Int).natAbs.log2 < 9000 := by
  have e : (n : Int).natAbs = n := by omega
  rw [e]
  exact log2_lt9 (n := 65) (Nat.lt_of_le_of_lt h (by decide)) (by decide) (by decide)
theorem gcd_le {a b : Int} (h : b ≠ 0) : Int.gcd a b ≤ b.natAbs := Nat.le_of_dvd (by omega) (Int.gcd_dvd_natAbs_right a b)
theorem log2_mono {a b : Nat} (h : a ≤ b) : a.log2 ≤ b.log2 := by
  by_cases e : a = 0
  · subst e; simp
  · have hb : b ≠ 0 := by omega
    have := (Nat.log2_lt (n := a) e (k := b.log2 + 1)).mpr (Nat.lt_of_le_of_lt h Nat.lt_log2_self)
    omega
theorem div_fr {a b : Int} (h : b ≠ 0) {s : Int} (hs : s = if 0 < b then 1 else -1) : (s * a).fdiv (Int.gcd a b : Int) = (fr a b).1 ∧ (s * b).fdiv (Int.gcd a b : Int) = (fr a b).2 := by
  rw [Int.fdiv_eq_ediv_of_nonneg _ (by omega), Int.fdiv_eq_ediv_of_nonneg _ (by omega)]
  unfold fr
  subst hs
  split
  · simp
  · simp
theorem div_fr2 {a b : Int} (h : b ≠ 0) : a.fdiv (if b < 0 then -(Int.gcd a b : Int) else (Int.gcd a b : Int)) = (fr a b).1 ∧ b.fdiv (if b < 0 then -(Int.gcd a b : Int) else (Int.gcd a b : Int)) = (fr a b).2 := by
  unfold fr
  have key : ∀ x : Int, x.fdiv (-(Int.gcd a b : Int)) = -x / (Int.gcd a b : Int) := by
    intro x
    have e : x.fdiv (-(Int.gcd a b : Int)) = (-(-x)).fdiv (-(Int.gcd a b : Int)) := by rw [Int.neg_neg]
    rw [e, Int.neg_fdiv_neg, Int.fdiv_eq_ediv_of_nonneg _ (by omega)]
  by_cases hb : b < 0
  · rw [if_pos hb, if_neg (by omega), key, key]; exact ⟨rfl, rfl⟩
  · rw [if_neg hb, if_pos (by omega), Int.fdiv_eq_ediv_of_nonneg _ (by omega), Int.fdiv_eq_ediv_of_nonneg _ (by omega)]; exact ⟨rfl, rfl⟩
theorem chain_int {ta tb tc : DT} {δ : DEnv} {m : Store} {Q : DQ} {E : DXK} {b d i : Int} (ha : ∀ Q' : DQ, Q' (.sh (.int b)) m → ta δ m Q' E) (hb : ∀ Q' : DQ, Q' (.sh (.int d)) m → tb δ m Q' E) (hc : ∀ Q' : DQ, Q' (.sh (.int i)) m → tc δ m Q' E)
    (q : Q (.sh (.bool (decide (b = d) && decide (d = i)))) m) : dChain (gEq false) (gEq false) ta tb tc δ m Q E := by
  refine ha _ (hb _ ?_)
  show (match DV.sh (.bool (decide (b = d))) with
  | .sh (.bool true) => tc δ m (fun w m4 => gEq false (.sh (.int d)) w m4 Q) E
  | .sh (.bool false) => Q (.sh (.bool false)) m
  | _ => False)
  cases e : decide (b = d) with
  | true =>
    rw [e] at q
    refine hc _ ?_
    exact q
  | false =>
    rw [e] at q
    exact q
/-! ### rows of fractions -/
def frL (fs : List (Int × Int)) : List DV := (fs.map frD).map DV.sh
def sumF (fs : List (Int × Int)) : Int × Int := fs.foldl addF (0, 1)
def dotF (fs gs : List (Int × Int)) : Int × Int := sumF ((fs.zip gs).map fun p => mulF p.1 p.2)
theorem gEq_fr {m : Store} {f g : Int × Int} {neg : Bool} {Q : DQ} (q : Q (.sh (.bool (if neg then !decide (f = g) else decide (f = g)))) m) : gEq neg (.sh (frD f)) (.sh (frD g)) m Q := by
  show (SeqAt.shaped (frD f) = true ∧ SeqAt.shaped (frD g) = true) ∧ Q (.sh (.bool (if neg then !PyData.eqv (frD f) (frD g) else PyData.eqv (frD f) (frD g)))) m
  have sh : ∀ f, SeqAt.shaped (frD f) = true := by
    intro f
    unfold SeqAt.shaped frD
    simp [PyData.canLay0, PyData.canLayAll0, PyData.depth, PyData.depthAll]
  have e : PyData.eqv (frD f) (frD g) = decide (f = g) := by
    obtain ⟨a, b⟩ := f
    obtain ⟨c, d⟩ := g
    simp only [frD, PyData.eqv, PyData.eqvAll, Prod.mk.injEq]
    by_cases h1 : a = c <;> by_cases h2 : b = d <;> simp [h1, h2]
  rw [e]
  exact ⟨⟨sh _, sh _⟩, q⟩
theorem dISeq_A {te : DT} {δ : DEnv} {m m1 : Store} {x : DV} {xs : List DV} {Q : List DV → (Store → Prop) → Store → Prop} {E : DXK} (ht : ∀ Q' : DQ, Q' x m1 → te δ m Q' E) (h : seqA m1 x = some xs) (q : ∀ kp : Store → Prop, kp m1 → Q xs kp m1) : dISeq te δ m Q E := by
  refine ht _ ?_
  unfold seqA at h
  show (match seqT x with
  | some xs => Q xs (fun _ => True) m1
  | none => match seqL m1 x with
    | some xs => Q xs (fun m' => seqL m' x = some xs) m1
    | none => False)
  cases e : seqT x with
  | some ys =>
    rw [e] at h
    cases h
    exact q (fun _ => True) trivial
  | none =>
    rw [e] at h
    have h2 : seqL m1 x = some xs := h
    show (match seqL m1 x with
    | some xs => Q xs (fun m' => seqL m' x = some xs) m1
    | none => False)
    rw [h2]
    exact q (fun m' => seqL m' x = some xs) h2
def zipA (m : Store) (x y : DV) (xs ys : List DV) : Prop := (seqT x = some xs ∧ seqT y = some ys) ∨ (seqL m x = some xs ∧ seqL m y = some ys)
theorem seqTL {m : Store} {x : DV} {xs : List DV} (h : seqL m x = some xs) : seqT x = none := by
  unfold seqL at h
  split at h
  · rfl
  · rfl
  · cases h
theorem dIZip_A {tr : DTA} {δ : DEnv} {m m1 : Store} {x y : DV} {xs ys : List DV} {Q : List DV → (Store → Prop) → Store → Prop} {E : DXK} (ht : ∀ Q' : List DV → Store → Prop, Q' [x, y] m1 → tr δ m Q' E) (h : zipA m1 x y xs ys) (q : ∀ kp : Store → Prop, kp m1 → Q (zpD xs ys) kp m1) : dIZip tr δ m Q E := by
  refine ht _ ?_
  rcases h with ⟨h1, h2⟩ | ⟨h1, h2⟩
  · show (match seqT x, seqT y with
    | some xs, some ys => _
    | _, _ => _)
    rw [h1, h2]; exact q _ trivial
  · show (match seqT x, seqT y with
    | some xs, some ys => _
    | _, _ => match seqL m1 x, seqL m1 y with
      | some xs, some ys => _
      | _, _ => False)
    rw [seqTL h1, h1, h2]; exact q _ ⟨h1, h2⟩
theorem zpD_frL : ∀ fs gs : List (Int × Int), zpD (frL fs) (frL gs) = (fs.zip gs).map fun p => DV.sh (.tuple [frD p.1, frD p.2])
  | [], _ => by simp [frL, zpD]
  | _ :: _, [] => by simp [frL, zpD]
  | f :: fs, g :: gs => by
    have := zpD_frL fs gs
    unfold zpD frL at this ⊢
    simp only [List.map_cons, List.zip_cons_cons, this]
    rfl
theorem dat_own {m : Store} {k n : Nat} {ds : List PyData} (h : m[k]? = some (.lst (ds.map .sh))) : dat m (n + 1) (.own k) = some (.list ds) := by
  show (match m[k]? with
    | some (.lst xs) => (match datL (dat m n) xs with
      | some ds => some (PyData.list ds)
      | none => none)
    | some (.frz d) => some d
    | _ => none) = _
  rw [h]
  show (match datL (dat m n) (ds.map .sh) with
      | some ds => some (PyData.list ds)
      | none => none) = _
  rw [datL_sh]
theorem dat_two {m : Store} {n : Nat} {x y : DV} {d e : PyData} (h1 : dat m n x = some d) (h2 : dat m n y = some e) : dat m (n + 1) (.tup [x, y]) = some (.tuple [d, e]) := by
  show (match datL (dat m n) [x, y] with
      | some ds => some (PyData.tuple ds)
      | none => none) = _
  simp only [datL, h1, h2]
theorem gTuple_own {m : Store} {k : Nat} {ds : List PyData} {Q : DQ} (h : m[k]? = some (.lst (ds.map .sh))) (q : Q (.sh (.tuple ds)) m) : gTuple [.own k] m Q := by
  show (match seqL m (.own k) with
      | some ys => Q (mkTup ys) m
      | none => False)
  rw [seqL_own h]
  show Q (mkTup (ds.map .sh)) m
  rw [mkTup_map]; exact q
theorem sb_frL {fs : List (Int × Int)} {n k N : Nat} (h : ∀ f ∈ fs, FB n f) (hn : n ≤ 3 * k) (hk : 0 < k) (hk2 : k ≤ 4300) (hN : fs.length ≤ N) : SB (N * (2 * (k + 1 + 2) + 3 + 2) + 3) 2 (.list (fs.map frD)) :=
  SB.list (fun d hd => by
    obtain ⟨f, hf, rfl⟩ := List.mem_map.mp hd
    exact sb_fr (h f hf) hn hk hk2) (by rw [List.length_map]; exact hN)
theorem addF_zero {x : Int × Int} (h : Red x) : addF x (0, 1) = x := by
  unfold addF
  simp only [Int.mul_one, Int.zero_mul, Int.add_zero]
  exact fr_of_red h
theorem fr_zero {d : Int} (h : 0 < d) : fr 0 d = (0, 1) := by
  unfold fr
  rw [if_pos h]
  have e : (Int.gcd 0 d : Int) = d := by simp; omega
  rw [e, Int.zero_ediv, Int.ediv_self (by omega)]
theorem mulF_z1 {y : Int × Int} (h : 0 < y.2) : mulF (0, 1) y = (0, 1) := by
  unfold mulF
  simp only [Int.zero_mul, Int.one_mul]
  exact fr_zero h
theorem mulF_z2 {y : Int × Int} (h : 0 < y.2) : mulF y (0, 1) = (0, 1) := by
  unfold mulF
  simp only [Int.mul_zero, Int.mul_one]
  exact fr_zero h
theorem dot_skip : ∀ (ps : List ((Int × Int) × (Int × Int))) (acc : Int × Int), Red acc → (∀ p ∈ ps, Red p.1 ∧ Red p.2) →
    ((ps.filter fun p => !decide (p.1 = (0, 1)) && !decide (p.2 = (0, 1))).map fun p => mulF p.1 p.2).foldl addF acc = (ps.map fun p => mulF p.1 p.2).foldl addF acc
  | [], _, _, _ => rfl
  | p :: ps, acc, ha, h => by
    obtain ⟨h1, h2⟩ := h p List.mem_cons_self
    have hr := fun q hq => h q (List.mem_cons_of_mem _ hq)
    rw [List.filter_cons]
    split
    · simp only [List.map_cons, List.foldl_cons]
      exact dot_skip ps _ (addF_red ha.1 (mulF_red h1.1 h2.1).1) hr
    · rename_i hc
      simp only [List.map_cons, List.foldl_cons]
      have e : mulF p.1 p.2 = (0, 1) := by
        by_cases e1 : p.1 = (0, 1)
        · rw [e1]; exact mulF_z1 h2.1
        · by_cases e2 : p.2 = (0, 1)
          · rw [e2]; exact mulF_z2 h1.1
          · simp [e1, e2] at hc
      rw [e, addF_zero ha]
      exact dot_skip ps _ ha hr
theorem red01 : Red (0, 1) := ⟨by decide, by decide⟩
theorem foldl_bd : ∀ (fs : List (Int × Int)) (acc : Int × Int) (n p : Nat), FB p acc → Red acc → (∀ f ∈ fs, FB n f ∧ Red f) → FB (p + fs.length * (n + 1)) (fs.foldl addF acc) ∧ Red (fs.foldl addF acc)
  | [], acc, n, p, h, r, _ => ⟨by simpa using h, r⟩
  | f :: fs, acc, n, p, h, r, hf => by
    obtain ⟨h1, h2⟩ := hf f List.mem_cons_self
    obtain ⟨g1, g2⟩ := foldl_bd fs _ n _ (addF_bd h h1 r.1 h2.1) (addF_red r.1 h2.1) fun q hq => hf q (List.mem_cons_of_mem _ hq)
    refine ⟨g1.mono ?_, g2⟩
    rw [List.length_cons, Nat.succ_mul]; omega
/-! ### larger steps -/
theorem ifF {A B : Prop} (h : B) : if false = true then A else B := h
theorem r_if {R : DV → Prop} {tA : DTB} {ta tb : DT} {δ : DEnv} {m : Store} {Q : DQ} {E : DXK} (hA : ∀ Q' : Bool → Store → Prop, (∀ c, Q' c m) → tA δ m Q' E) (h1 : ∀ Q' : DQ, (∀ x, R x → Q' x m) → ta δ m Q' E) (h2 : ∀ Q' : DQ, (∀ x, R x → Q' x m) → tb δ m Q' E)
    (q : ∀ x, R x → Q x m) : dIf tA ta tb δ m Q E := hA _ fun c => by
  cases c with
  | true => exact h1 _ q
  | false => exact h2 _ q
theorem r_lc {R : DV → Prop} {ti : DTI} {g : DTG} {te : DT} {vs : List Nat} {δ : DEnv} {m : Store} {Q : DQ} {E : DXK} {items : List DV} {kp : Store → Prop} (hi : ∀ Q' : List DV → (Store → Prop) → Store → Prop, Q' items kp m → ti δ m Q' E) (hk : kp m) (hn : items.length ≤ 16777216) (sc : Scp m)
    (turn : ∀ x ∈ items, ∀ Q' : DQ, (∀ y, R y → y.sc m.length → ∀ t, Q' y (m ++ t)) → g x (dwipe δ vs) m fun δ2 m2 => te δ2 m2 Q' noE)
    (q : ∀ ys : List DV, ys.length = items.length → (∀ y ∈ ys, R y) → DV.scs m.length ys → Q (.own m.length) (m ++ [.lst ys])) : dLc ti g dYes te vs δ m Q E := by
  refine hi _ ?_
  refine ⟨fun rest acc m' => m' = m ∧ (∀ x ∈ rest, x ∈ items) ∧ acc.length + rest.length = items.length ∧ (∀ y ∈ acc, R y) ∧ DV.scs m.length acc, ⟨rfl, fun _ h => h, by simp, (fun y h => absurd h List.not_mem_nil), trivial⟩, ?_, ?_, ?_⟩
  · rintro rest acc m' ⟨rfl, _⟩
    exact hk
  · rintro x rest acc m' ⟨rfl, h1, h2, h3, h4⟩
    rw [List.length_cons] at h2
    show g x (dwipe δ vs) m' fun δ2 m2 => te δ2 m2 _ noE
    refine turn x (h1 x List.mem_cons_self) _ fun y hy hs t => ?_
    have sa : ∀ {l : List DV}, DV.scs m'.length l → DV.scs m'.length (l ++ [y]) := by
      intro l
      induction l with
      | nil => intro _; exact ⟨hs, trivial⟩
      | cons z l ih => intro h; exact ⟨h.1, ih h.2⟩
    refine And.intro (by rw [PySem.sizeLine_eq]; omega) (.inr ⟨m', t, rfl, sc, sa h4, Nat.le_refl _, rfl, fun z hz => h1 z (List.mem_cons_of_mem _ hz), ?_, ?_, sa h4⟩)
    · rw [List.length_append, List.length_singleton]; omega
    · intro z hz
      rcases List.mem_append.mp hz with hz | hz
      · exact h3 z hz
      · rw [List.mem_singleton] at hz; subst hz; exact hy
  · rintro acc m' ⟨rfl, h1, h2, h3, h4⟩
    exact q acc (by simpa using h2) h3 h4
def RFr (n : Nat) (y : DV) : Prop := ∃ f : Int × Int, y = .sh (frD f) ∧ FB n f ∧ Red f
theorem frL_of {n : Nat} : ∀ {ys : List DV}, (∀ y ∈ ys, RFr n y) → ∃ fs : List (Int × Int), ys = frL fs ∧ (∀ f ∈ fs, FB n f ∧ Red f) ∧ fs.length = ys.length
  | [], _ => ⟨[], rfl, (fun f h => absurd h List.not_mem_nil), rfl⟩
  | y :: ys, h => by
    obtain ⟨f, rfl, h1, h2⟩ := h y List.mem_cons_self
    obtain ⟨fs, rfl, h3, h4⟩ := frL_of fun z hz => h z (List.mem_cons_of_mem _ hz)
    refine ⟨f :: fs, rfl, fun g hg => ?_, by rw [List.length_cons, List.length_cons, h4]⟩
    rcases List.mem_cons.mp hg with rfl | hg
    · exact ⟨h1, h2⟩
    · exact h3 g hg
theorem rgD_mem {lo : Int} {n : Nat} {x : DV} (h : x ∈ rgD lo n) : ∃ i : Int, x = .sh (.int i) ∧ lo ≤ i ∧ i < lo + n := by
  obtain ⟨i, hi, rfl⟩ := List.mem_map.mp h
  have := List.mem_range.mp hi
  exact ⟨_, rfl, by omega, by omega⟩
theorem rgD_len (lo : Int) (n : Nat) : (rgD lo n).length = n := by unfold rgD; rw [List.length_map, List.length_range]
abbrev drB (q : Nat) : Store := [.gone, .gone, .gone, .drw q]
theorem scp_drB (q : Nat) : Scp (drB q) := by
  intro k e h
  match k, h with
  | 0, h => cases h; trivial
  | 1, h => cases h; trivial
  | 2, h => cases h; trivial
  | 3, h => cases h; trivial
  | k + 4, h => cases h
theorem scp_app {m : Store} (h : Scp m) {e : Ent} (he : e.sc m.length) (mono : e.sc m.length → e.sc (m.length + 1)) (hm : ∀ (k : Nat) (u : Ent), m[k]? = some u → u.sc (m.length + 1)) : Scp (m ++ [e]) := by
  intro k u hu
  rw [List.length_append, List.length_singleton]
  by_cases hk : k < m.length
  · rw [List.getElem?_append_left hk] at hu
    exact hm k u hu
  · have hl := (List.getElem?_eq_some_iff.mp hu).1
    rw [List.length_append, List.length_singleton] at hl
    have e1 : k = m.length := by omega
    subst e1
    rw [app_at0] at hu
    cases hu
    exact mono he
theorem scs_sh (n : Nat) : ∀ ds : List PyData, DV.scs n (ds.map .sh)
  | [] => trivial
  | _ :: ds => ⟨trivial, scs_sh n ds⟩
theorem gt_false_zero {a : Int} (h : decide (a = 0) = true) : a = 0 := of_decide_eq_true h
end DL
namespace DL
open PySem PySem.Spec PyProof.Rows L2
theorem exV_ok {P : Program} {w : World} {H : Hp} {h : Heap} {a : Addr} {cls : Value} {od : Option Addr} {oe : Obj} {vs : Array Value} (e : h.get? a = some oe) (z : Zc cls od oe) (d : oe.data = .fields vs) : ObjOk P w H h a (exV cls od a) :=
  ⟨⟨oe, vs, e, z, d⟩, ⟨oe, e⟩, fun _ _ ⟨o, v, q, r⟩ k => ⟨o, v, k o q, r⟩⟩
theorem hok_track {P : Program} {w : World} {H : Hp} {h : Heap} {a : Addr} {o : HO} (x : HOk P w H h) (hn : H a = none) (new : ObjOk P w (upd H a o) h a o) : HOk P w (upd H a o) h := fun b u e => by
  by_cases hb : b = a
  · subst hb
    rw [upd_same] at e
    cases e
    exact new
  · rw [upd_ne hb] at e
    exact (x b u e).stay (fun c v _ q => q) (fun c q => by rw [upd_ne (ne_of_none q hn)]; exact q) fun c xs q => by rw [upd_ne (ne_of_none q hn)]; exact q
section
variable {X : Cx} {pins : List (Addr × Obj)} {σ : St} {H : Hp} {s : Shared}
/-- a pinned object is tracked from here on -/
theorem inv_track {a : Addr} {oe : Obj} {φ : Heap → Prop} (I : Inv X ((a, oe) :: pins) σ H s) (h0 : X.s_0.heap.get? a = none) (hpn : ∀ p ∈ X.pn ++ pins, p.1 ≠ a) (new : ObjOk X.prog X.w (upd H a (.ext φ)) s.heap a (.ext φ)) : Inv X pins σ (upd H a (.ext φ)) s := by
  obtain ⟨hget, hn, neL, nF, nC⟩ := I.pin (a, oe) (List.mem_append_right _ List.mem_cons_self)
  refine ⟨I.ok, I.os, I.bare, ⟨I.base.keep, I.base.slot, fun b o e n hx => ?_, I.base.there, fun b xs e => ?_, fun b o u e => ?_, fun b ps e => ?_⟩, I.loc, I.cell, ?_, fun x c e => ?_, fun p hp => ?_, hok_track I.hok hn new, I.len⟩
  · rw [upd_ne (fun z => by rw [z, h0] at e; cases e)]; exact I.base.free b o e n hx
  · have q := I.base.tups b xs e
    rw [upd_ne (ne_of_none q hn)]; exact q
  · have q := I.base.frzs b o u e
    rw [upd_ne (ne_of_none q hn)]; exact q
  · obtain ⟨more, q⟩ := I.base.tbls b ps e
    exact ⟨more, by rw [upd_ne (ne_of_none q hn)]; exact q⟩
  · rw [upd_ne (Ne.symm neL)]; exact I.free
  · rw [upd_ne]
    · exact I.freeC x c e
    · intro z
      subst z
      obtain ⟨v, hv⟩ := I.cell x c e
      obtain ⟨o, ho, hd⟩ := hv
      rw [hget] at ho
      cases ho
      exact nC v hd
  · have hp' : p ∈ X.pn ++ ((a, oe) :: pins) := by
      rcases List.mem_append.mp hp with h | h
      · exact List.mem_append_left _ h
      · exact List.mem_append_right _ (List.mem_cons_of_mem _ h)
    obtain ⟨p1, p2, p3, p4, p5⟩ := I.pin p hp'
    exact ⟨p1, by rw [upd_ne (hpn p hp)]; exact p2, p3, p4, p5⟩
theorem inv_unsuite_pin {a : Addr} {oe : Obj} {pn' : List (Addr × Obj)} (I : Inv (X.suite a ((a, oe) :: (X.pn ++ pins))) pn' σ H s) (ok : X.Ok) : Inv X ((a, oe) :: pins) σ H s :=
  ⟨ok, I.os, I.bare, I.base, I.loc, I.cell, I.free, I.freeC, fun p hp => I.pin p (List.mem_append_left _ (by
    rcases List.mem_append.mp hp with h | h
    · exact List.mem_cons_of_mem _ (List.mem_append_left _ h)
    · rcases List.mem_cons.mp h with h | h
      · rw [h]; exact List.mem_cons_self
      · exact List.mem_cons_of_mem _ (List.mem_append_right _ h))), I.hok, I.len⟩
end
/-- what the clause 'x as n' wants of an error that it will keep -/
def wKeep (K : PySem.W.Frag) (c : Value) (i : Nat) (ts : Addr → Value → Option Addr → TS) (Wo : WX) (D : Ends) : WX := fun C od ρ G =>
  ∃ k, PySem.W.exmOne K C c = some k ∧ (k = false → Wo C od ρ G) ∧ (k = true → ∀ z, G z = none →
    ts z C od { nx := fun ρ1 G1 => G1 z = none → D.nx (ρ1.set i none) (upd G1 z (exV C od z)), rt := fun _ _ => False, bk := fun _ _ => False, ct := fun _ _ => False } (ρ.set i (some (.ref z))) G)
/-- an error has come down to the clauses of this frame -/
structure Fallen (X : Cx) (pins : List (Addr × Obj)) (B : Heap) (ρ : St) (G : Hp) (x : Addr) (C : Value) (od : Option Addr) (t : Shared) : Prop where
  inv : Inv X pins ρ G t
  held : HandSPX.FlyingZ B (X.env :: X.outer) x (Zc C od) t.heap
  out : G x = none
  noL : x ≠ X.env.locals
  noF : x ∉ X.fs
  new0 : X.s_0.heap.get? x = none
  far : ∀ p ∈ X.pn ++ pins, p.1 ≠ x
/-- where an error stands behind the body, seen from the clauses -/
structure Gave (X : Cx) (pins : List (Addr × Obj)) (B : Heap) (ρ : St) (G : Hp) (x : Addr) (C : Value) (od : Option Addr) (t0 t : Shared) : Prop where
  inv : Inv X pins ρ G t0
  grow : ∀ b o, t0.heap.get? b = some o → b ∉ frs X.stack → B.get? b = some o
  up : t0.heap.UpToSlots t.heap
  out : G x = none
  os : t.os = t0.os
  bare : AllBare t.gens
section
variable {X : Cx} {pins : List (Addr × Obj)} {B : Heap} {ρ : St} {G : Hp} {x : Addr} {C : Value} {od : Option Addr} {t0 t : Shared} {c : Value}
theorem Fallen.intoSuite (f : Fallen X pins B ρ G x C od t) :
    ∃ o fs, t.heap.get? x = some o ∧ Zc C od o ∧ o.data = .fields fs ∧ Inv (X.suite x ((x, o) :: (X.pn ++ pins))) [] ρ G t := by
  obtain ⟨o, fs, e, z, q⟩ := HandSPX.FlyingZ.there f.held
  exact ⟨o, fs, e, z, q, f.inv.suite e q f.out f.noL f.noF⟩
theorem Gave.fall {g : Heap} (y : Gave X pins B ρ G x C od t0 t) (e0 : X.ex = []) (est : X.stack = X.env :: X.outer) (efr : X.env.frame = some X.env.locals) (more : t.heap.UpToSlots g)
    (held : HandSPX.FlyingZ B (X.env :: X.outer) x (Zc C od) g) : Fallen X pins B ρ G x C od { t with heap := g } := by
  obtain ⟨o, fs, e, _, q⟩ := HandSPX.FlyingZ.there held
  have notFrame : x ∉ frs (X.env :: X.outer) := by
    intro hm
    obtain ⟨_, o2, e2, no⟩ := held.2.2.1.mem hm
    have : o2 = o := Option.some.inj (e2.symm.trans e)
    exact no fs (this ▸ q)
  have fresh : t0.heap.get? x = none := by
    cases hc : t0.heap.get? x with
    | none => rfl
    | some u =>
      have := y.grow x u hc (est ▸ notFrame)
      rw [held.2.1] at this
      cases this
  refine ⟨y.inv.landed y.grow held.1 (y.up.trans more) y.os y.bare, held, y.out, fun z => notFrame (List.mem_filterMap.mpr ⟨_, List.mem_cons_self, efr.trans (congrArg some z.symm)⟩), fun hm => ?_, ?_, fun p hp z => ?_⟩
  · obtain ⟨en, hen, w⟩ := List.mem_filterMap.mp hm
    exact notFrame (List.mem_filterMap.mpr ⟨en, List.mem_cons_of_mem _ hen, w⟩)
  · cases hc : X.s_0.heap.get? x with
    | none => rfl
    | some u =>
      obtain ⟨u2, hu2⟩ := y.inv.base.there x u hc (by rw [e0]; exact List.not_mem_nil)
      rw [fresh] at hu2
      cases hu2
  · have := (y.inv.pin p hp).1
    rw [z, fresh] at this
    cases this
/-- the clause's question and its answer -/
theorem Fallen.asks (f : Fallen X pins B ρ G x C od t) {nm : Str} {k : Bool} {np : Pos} (w : Names X nm c) (hk : PySem.W.exmOne X.K C c = some k) {R : Bool → Shared → Prop} {U V : Value → Shared → Prop} (q : R k t) :
    wpAny (model X.prog X.w) (X.A.mark (some (.ref x))) (eval (.Name nm np) X.env) (fun u t1 => wpAny (model X.prog X.w) (X.A.mark (some (.ref x))) (excMatches (.ref x) u) R U t1) V t := by
  obtain ⟨o, fs, e, z, d, S⟩ := f.intoSuite
  have at1 : PySem.W.Looks (model X.prog X.w) t.heap (excMatches (.ref x) c) k := PySem.W.exm_one f.inv.kIn (fun _ _ _ _ stay go => wpAny_typeOf_ref (stay _ _ e) (z.1.symm ▸ go)) hk
  obtain ⟨w1, w2, w3⟩ := w
  refine w3.elim (fun w3 => ld_glob S w1 w3 (at1.here q) w2) fun w3 => ?_
  exact ld_blt S w1 w3.1 w3.2.1 (at1.here q) w3.2.2 w2
/-- the clause does not take it: it goes on -/
theorem Fallen.passes (f : Fallen X pins B ρ G x C od t) (est : X.stack = X.env :: X.outer) (efr : X.env.frame = some X.env.locals) {Wo : WX} (tk : Takes X Wo) (y : Gave X pins B ρ G x C od t0 t) (q : Wo C od ρ G) {D : Ends} :
    wpAny (model X.prog X.w) X.A (handleBy (.ref x) X.env []) (SP X pins D) X.xe t := by
  obtain ⟨h1, h2, h3, o, vs, tb, e1, e2, e3, e4, e5, e6, e7⟩ := id f.held
  have go : ∀ {Q : Unit → Shared → Prop}, wpAny (model X.prog X.w) X.A (setFlight (.ref x) X.env.frame) (fun _ t4 => wpAny (model X.prog X.w) X.A (throw (.ref x) : Sem Flow) (SP X pins D) X.xe t4) X.xe t := fun {_} => by
    rw [efr]
    exact HandSPX.setFlight_upZ f.held fun g held up => wpAny_throw (tk _ _ ⟨x, B, t0, pins, ρ, G, C, od, rfl, y.inv, y.grow, y.up.trans up, .inr (.inr (est ▸ held)), y.out, y.os, y.bare, q⟩)
  apply wpAny_handleBy_nil
  unfold PySem.passOn
  apply wpAny_bind
  apply wpAny_field e3 e5 e6
  rw [if_neg (by simp)]
  first
    | exact wpAny_bind (wpAny_pure (wpAny_bind (go (Q := fun _ _ => True))))
    | exact wpAny_bind (go (Q := fun _ _ => True))
/-- the clause takes it: its suite, the name goes, the error stays -/
theorem Fallen.keeps (f : Fallen X pins B ρ G x C od t) (ok : X.Ok) (y : ∀ g, t.heap.UpToSlots g → HandSPX.FlyingZ B (X.env :: X.outer) x (Zc C od) g → Fallen X pins B ρ G x C od { t with heap := g }) {n : Str} {i : Nat} {b₀ : Stmt} {suite : List Stmt} {ts : TS} {D : Ends} {pos' : Pos}
    (nd : X.N.Nodup) (hi : X.N[i]? = some n) (lc : X.env.kindOf n = some .local) (hsu : ∀ o, PSs (X.suite x ((x, o) :: (X.pn ++ pins))) (b₀ :: suite) ts)
    (q : ts { nx := fun ρ1 G1 => G1 x = none → D.nx (ρ1.set i none) (upd G1 x (exV C od x)), rt := fun _ _ => False, bk := fun _ _ => False, ct := fun _ _ => False } (ρ.set i (some (.ref x))) G) {R : Result → Shared → Prop}
    (hR : ∀ t2, wpAny (model X.prog X.w) X.A (do bindName X.env n .none; unbindBehindTheSuite X.env n pos') (fun _ t3 => SP X pins D .next t3) X.xe t2 → R (.ok .next) t2) :
    codeAny (model X.prog X.w) (X.A.mark (some (.ref x))) (.handlers (.ref x) [.ExceptHandler none (some n) (b₀ :: suite) pos'] X.env) R t := by
  apply codeAny_handlers_suite_as
  refine HandSPX.lands_againZ f.held fun g held up => ?_
  have f2 := y g up held
  obtain ⟨o, fs, e, z, d, S⟩ := f2.intoSuite
  refine store_ok (v := .ref x) (X := X.suite x ((x, o) :: (X.pn ++ pins))) S nd hi (Or.inl lc) rfl (fun t5 S5 => ?_) (Or.inr lc)
  refine wpAny_mono ((hsu o).run [] t5 _ G _ S5 q) (fun fl t6 r => ?_) fun _ _ n => n.elim
  match fl, r with
  | .brk, ⟨_, _, _, no⟩ => exact no.elim
  | .cont, ⟨_, _, _, no⟩ => exact no.elim
  | .ret _, ⟨_, _, _, _, _, no⟩ => exact no.elim
  | .next, ⟨ρ6, G6, S6, k6⟩ =>
    have free6 := (S6.pin (x, o) (List.mem_append_left _ List.mem_cons_self)).2.1
    refine hR t6 (gone_ok (inv_unsuite_pin S6 ok) nd hi lc fun t7 I7 => ?_)
    have e7 := (I7.pin (x, o) (List.mem_append_right _ List.mem_cons_self)).1
    exact ⟨ρ6.set i none, upd G6 x (exV C od x), inv_track I7 f2.new0 f2.far (exV_ok e7 z d), k6 free6⟩
/-- behind the body: what it leaves is the try's own -/
theorem tried {pn : List (Addr × Obj)} {xe : Value → Shared → Prop} {D : Ends} {fl : Flow} (ok : X.Ok) (e : pn = X.pn ++ pins) (r : SP (X.tr pn xe) [] D fl t) :
    match fl with
    | .next => wpAny (model X.prog X.w) X.A (execs [] X.env) (SP X pins D) X.xe t
    | fl => SP X pins D fl t := by
  subst e
  match fl, r with
  | .next, ⟨_, _, I, q⟩ => exact wpAny_execs_nil ⟨_, _, I.ofTry ok, q⟩
  | .brk, ⟨_, _, I, q⟩ => exact ⟨_, _, I.ofTry ok, q⟩
  | .cont, ⟨_, _, I, q⟩ => exact ⟨_, _, I.ofTry ok, q⟩
  | .ret _, ⟨_, _, _, I, v, q⟩ => exact ⟨_, _, _, I.ofTry ok, v, q⟩
/-- what the body of such a try may raise -/
abbrev keepXe (X : Cx) (hd : List ExceptHandler) (P : Flow → Shared → Prop) : Value → Shared → Prop := fun e t => wpAny (model X.prog X.w) X.A (noteFrame e X.env) (fun _ t1 => wpAny (model X.prog X.w) X.A (setFlight e none) (fun _ t2 => wpAny (model X.prog X.w) X.A (handleBy e X.env hd) P X.xe t2) X.xe t1) X.xe t
theorem ps_try_keep {nm n : Str} {i : Nat} {body suite : List Stmt} {b₀ : Stmt} {np pos pos' : Pos} {tb : WX → TS} {ts : Addr → Value → Option Addr → TS} {Wo : WX} (e0 : X.ex = []) (est : X.stack = X.env :: X.outer) (efr : X.env.frame = some X.env.locals)
    (nd : X.N.Nodup) (hi : X.N[i]? = some n) (lc : X.env.kindOf n = some .local) (w : Names X nm c) (tk : Takes X Wo)
    (hbody : ∀ (W : WX) (pn : List (Addr × Obj)) (xe : Value → Shared → Prop), Takes (X.tr pn xe) W → PassesOwn (model X.prog X.w) X.A X.env xe → PSs (X.tr pn xe) body (tb W))
    (hsuite : ∀ (z : Addr) (o : Obj) (C : Value) (od : Option Addr) (pn : List (Addr × Obj)), PSs (X.suite z ((z, o) :: pn)) (b₀ :: suite) (ts z C od)) :
    PS X (.Try body [.ExceptHandler (some (.Name nm np)) (some n) (b₀ :: suite) pos'] [] [] pos) (fun D ρ G => tb (wKeep X.K c i ts Wo D) D ρ G) := by
  constructor
  intro pins t0 ρ G D I q
  have ok := I.ok
  apply wpAny_Try_except
  have takes : Takes (X.tr (X.pn ++ pins) (keepXe X [.ExceptHandler (some (.Name nm np)) (some n) (b₀ :: suite) pos'] (SP X pins D))) (wKeep X.K c i ts Wo D) := by
    rintro u t ⟨x, B, t1, pins1, ρ1, G1, C, od, rfl, J, grow, up, sky, out, os, bare, k, hk, no, yes⟩
    have y : Gave X pins B ρ1 G1 x C od t1 t := ⟨J.ofTry ok, grow, up, out, os, bare⟩
    have sky' : Sky B (X.env :: X.outer) x (Zc C od) X.env.locals t.heap := est ▸ sky
    refine Sky.land Zc.steady (ok.frames.trans (congrArg some est)) efr sky' fun g held more => ?_
    have f := y.fall e0 est efr more held
    have y2 : Gave X pins B ρ1 G1 x C od t1 { t with heap := g } := ⟨y.inv, grow, up.trans more, out, os, bare⟩
    refine wpAny_handleBy_cons (codeAny_handlers_test (f.asks w hk ?_)) nofun
    match k, no, yes with
    | false, no, _ => exact f.passes est efr tk y2 (no rfl)
    | true, _, yes => exact f.keeps ok (fun g2 more2 held2 => y2.fall e0 est efr more2 held2) nd hi lc (fun o => hsuite x o C od _) (yes rfl x out) fun _ r => r
  exact wpAny_mono ((hbody _ _ _ takes PassesOwn.looking).run [] t0 ρ G D (I.toTry _) q) (fun fl t1 r => by have z := tried ok rfl r; cases fl <;> exact z) fun _ _ r => r
end
/-! ### the data side -/
def liftS (K : PySem.W.Frag) (W : WX) (t : DTS) : TS := fun E σ H => ∃ F S ad m δ D, Core K H F S ad m ∧ SR K S ad σ δ ∧ t D δ m ∧ DEL K W F S ad D E
theorem lifted {X : Cx} {W : WX} {sts : List Stmt} {t : DTS} (h : DSs X W sts t) : PSs X sts (liftS X.K W t) := by
  obtain ⟨ts, p, h⟩ := h
  refine ⟨fun pins s σ H D I g => ?_⟩
  obtain ⟨F, S, ad, m, δ, D', C, R, q, k⟩ := g
  exact p.run pins s σ H D I (h σ H F S ad m δ D' D C R q k)
theorem core_ghost {K : PySem.W.Frag} {H F S : Hp} {ad : List Addr} {m : Store} (C : Core K H F S ad m) (a : Addr) : Core K H F S (ad ++ [a]) (m ++ [.gone]) := by
  refine ⟨C.sF, C.FH, by rw [List.length_append, List.length_append, C.len]; rfl, fun i j b e1 e2 h1 h2 g1 g2 l1 l2 => ?_, fun k e b h1 h2 => ?_⟩
  · rcases app_cases C.len g1 h1 with ⟨_, a2, a3⟩ | ⟨_, a2, _⟩
    · rcases app_cases C.len g2 h2 with ⟨_, b2, b3⟩ | ⟨_, b2, _⟩
      · exact C.nd i j b e1 e2 a3 b3 a2 b2 l1 l2
      · subst b2; cases l2
    · subst a2; cases l1
  · rcases app_cases C.len h1 h2 with ⟨_, a2, a3⟩ | ⟨_, a2, _⟩
    · exact (C.ent k e b a2 a3).mono (Ext.refl _) (Pfx.app _ _) (fun _ z => z) fun _ => rfl
    · subst a2; trivial
theorem core_track {K : PySem.W.Frag} {H F S : Hp} {ad : List Addr} {m : Store} (C : Core K H F S ad m) {k : Nat} {a : Addr} {nm : Str} {od : Option Addr} {fs : List (Str × DV)} (ha : ad[k]? = some a) (hn : H a = none) (xf : ExF K S ad od fs) : Core K (upd H a (exV (.ref (He.ga K nm)) od a)) F S ad (m.set k (.exc nm fs)) := by
  have nF := C.noF hn
  have live : ∀ {i : Nat} {e : Ent}, (m.set k (.exc nm fs))[i]? = some e → i ≠ k → m[i]? = some e := fun h z => by rwa [List.getElem?_set_ne (Ne.symm z)] at h
  have far : ∀ {i : Nat} {e : Ent}, m[i]? = some e → ad[i]? = some a → e.live = true → False := fun h1 h2 l => C.apart hn h1 h2 l rfl
  refine ⟨C.sF, ext_upd C.FH nF, by rw [List.length_set]; exact C.len, fun i j b e1 e2 h1 h2 g1 g2 l1 l2 => ?_, fun i e b h1 h2 => ?_⟩
  · by_cases hi : i = k
    · by_cases hj : j = k
      · rw [hi, hj]
      · subst hi
        rw [ha] at h1; cases h1
        exact (far (live g2 hj) h2 l2).elim
    · by_cases hj : j = k
      · subst hj
        rw [ha] at h2; cases h2
        exact (far (live g1 hi) h1 l1).elim
      · exact C.nd i j b e1 e2 h1 h2 (live g1 hi) (live g2 hj) l1 l2
  · by_cases hi : i = k
    · subst hi
      rw [ha] at h2; cases h2
      rw [List.getElem?_set_self (by have := (List.getElem?_eq_some_iff.mp h1).1; rwa [List.length_set] at this)] at h1
      cases h1
      exact ⟨nF, od, upd_same, xf⟩
    · have h1' := live h1 hi
      exact (C.ent i e b h1' h2).mono (Ext.refl _) (Pfx.refl _) (fun _ z => z) fun l => upd_ne (C.apart hn h1' h2 l)
/-- try / except x as n, the error kept behind the suite; sub: which classes the clause takes -/
abbrev dTryK (sub : Str → Option Bool) (i : Nat) (tb tsu : DTS) : DTS := fun D δ m => tb { D with ex := fun x δ' m' => ∃ b, sub x.nm = some b ∧
  (b = true → tsu { nx := fun δ2 m2 => D.nx (δ2.set i none) (m2.set m'.length (.exc x.nm x.fs)), rt := fun _ _ => False } (δ'.set i (some (.own m'.length))) (m' ++ [.gone])) ∧ (b = false → D.ex x δ' m') } δ m
section
variable {X : Cx} {W : WX} {x n : Str} {c : Value} {body suite : List Stmt} {b₀ : Stmt} {np pos pos' : Pos} {tb tsu : DTS}
theorem ds_tryK (i : Nat) {sub : Str → Option Bool} (hx0 : X.ex = []) (hs : X.stack = X.env :: X.outer) (hf : X.env.frame = some X.env.locals) (hN : X.N.Nodup) (hc : Names X x c) (tk : Takes X W)
    (hsub : ∀ nm b, sub nm = some b → PySem.W.exmOne X.K (.ref (He.ga X.K nm)) c = some b)
    (hb : ∀ (W' : WX) (pn : List (Addr × Obj)) (xe : Value → Shared → Prop), Takes (X.tr pn xe) W' → PassesOwn (model X.prog X.w) X.A X.env xe → DSs (X.tr pn xe) W' body tb)
    (hsu : ∀ (a : Addr) (oe : Obj) (pn : List (Addr × Obj)), DSs (X.suite a ((a, oe) :: pn)) (fun _ _ _ _ => False) (b₀ :: suite) tsu)
    (hi : X.N[i]? = some n := by rfl) (hln : X.env.kindOf n = some .local := by rfl) :
    DS X W (.Try body [.ExceptHandler (some (.Name x np)) (some n) (b₀ :: suite) pos'] [] [] pos) (dTryK sub i tb tsu) := by
  refine ⟨_, ps_try_keep (tb := fun W' => liftS X.K W' tb) (ts := fun _ _ _ => liftS X.K (fun _ _ _ _ => False) tsu) hx0 hs hf hN hi hln hc tk (fun W' pn xe t p => lifted (hb W' pn xe t p)) (fun a oe cls _ pn => lifted (hsu a oe pn)), fun σ H F S ad m δ D E C R h k => ?_⟩
  refine ⟨F, S, ad, m, δ, _, C, R, h, ⟨k.nx, k.rt, k.bk, k.ct, ?_⟩⟩
  rintro cls d σ' H' F' S' ad' m' δ' x st C' R' ⟨r1, r2⟩ ⟨b, hb1, q1, q2⟩
  refine ⟨b, by rw [r1]; exact hsub _ _ hb1, fun e => k.ex _ _ _ _ _ _ _ _ _ _ st C' R' ⟨r1, r2⟩ (q2 e), fun e a ha => ?_⟩
  · have q := q1 e
    have own : (ad' ++ [a])[m'.length]? = some a := by rw [← C'.len, List.getElem?_append_right (Nat.le_refl _)]; simp
    have st1 : Stp F' S' ad' F' S' (ad' ++ [a]) := ⟨Ext.refl _, Ext.refl _, Pfx.app _ _, fun _ _ _ _ z => z⟩
    refine ⟨F', S', ad' ++ [a], m' ++ [.gone], _, _, core_ghost C' a, (R'.stp st1).set (.own own) i, q, ⟨?_, ?_, ?_, ?_, ?_⟩⟩
    · intro σ3 H3 F3 S3 ad3 m3 δ3 s3 C3 R3 q3 hn3
      have ha3 : ad3[m'.length]? = some a := s3.p _ _ own
      have C4 := core_track (nm := x.nm) C3 ha3 hn3 (r2.mono (st1.trans s3).s (st1.trans s3).p)
      rw [r1]
      exact k.nx _ _ _ _ _ _ _ ((st.trans st1).trans s3) C4 (R3.unset i) q3
    · intro _ _ _ _ _ _ _ _ _ _ z; exact z.elim
    · intro _ _ _ _ _ _ _ _ _ _ z; exact z.elim
    · intro _ _ _ _ _ _ _ _ _ _ z; exact z.elim
    · intro _ _ _ _ _ _ _ _ _ _ _ _ _ _ z; exact z.elim
end
/-- raise X('m'), X without own __init__ -/
abbrev dRaise (nm : Str) : DTS := fun D δ m => D.ex { nm := nm, fs := [] } δ m
theorem ds_raiseC {X : Cx} {W : WX} {nm msg : Str} {p p2 pos' pos : Pos} {j : Nat} (tk : Takes X W) (T : (He.Fa.exc nm).ok X.K = true) (gC : X.mg nm = some (.ref (He.ga X.K nm))) (hc : X.calm = true := by rfl) (hg : Gl X nm := by rfl) (hdb : (nm == ("__debug__" : Str)) = false := by decide) :
    DS X W (.Raise (some (.Call (.Name nm p) [.Constant (.str msg) j p2] [] pos')) none pos) (dRaise nm) := by
  obtain ⟨x1, x2, x3, x4⟩ := He.exc_ok T
  refine ⟨_, ps_raise hc tk (pmk_own PySem.F.excBase_ValueError x1 gC x2 (raises_own x3 x4) hg hdb), fun σ H F S ad m δ D E C R h k => ?_⟩
  exact k.ex _ _ _ _ _ _ _ _ _ { nm := nm, fs := [] } (Stp.refl _ _ _) C R ⟨rfl, rfl⟩ h
end DL
namespace DL
open PySem PySem.Spec PyProof.Rows L2
/-! ### count, index, in: by trees -/
section
variable {X : Cx} {W : WX} {a b c e : Expr} {ta tb tc te : DT} {tr : DTA} {pos : Pos} {es : List Expr}
def rCount (K : PySem.W.Frag) : V → List V → Hp → VK → Prop := fun x vs H Q => ∃ l us ds y d, x = .ref l ∧ vs = [y] ∧ SqL K H l us ∧ DpAll K H us ds ∧ Dp K H y d ∧ PyData.plainAll ds = true ∧ d.plain = true ∧ d.depth ≤ 50 ∧ Q (.int ((ds.countP fun z => PyData.eqv z d : Nat) : Int)) H
theorem mt_count {k : Nat} (hr : RoomG k X.A) : MtR X "list.count" (rCount X.K) := by
  intro pins s σ H x vs v us Q I rx rv h
  obtain ⟨l, ws, ds, y, d, rfl, rfl, hS, hD, hd, p1, p2, p3, q⟩ := h
  cases rx
  obtain ⟨u, rfl, ru⟩ := rv.one
  obtain ⟨its, r, pl, hz⟩ := I.list hS
  obtain ⟨as, rs⟩ := Dp.readsAll I ds ws its hD r
  obtain ⟨bs, rx⟩ := Dp.reads I d y u hd ru
  refine PySem.SeqAt.count_list_data pl.isList (by simpa using rs) rx p1 p2 (by have := hr.r.units; omega) ⟨.int _, H, I.kept (t' := s.toks + 1) fun _ _ z => z, ⟨_, rfl⟩, q⟩
def rIndex (K : PySem.W.Frag) : V → List V → Hp → VK → Prop := fun x vs H Q => ∃ l us ds y d j, x = .ref l ∧ vs = [y] ∧ SqL K H l us ∧ DpAll K H us ds ∧ Dp K H y d ∧ PyData.plainAll ds = true ∧ d.plain = true ∧ d.depth ≤ 50 ∧ PySem.SeqAt.dataPlace ds d = some j ∧ Q (.int (j : Int)) H
theorem mt_index {k : Nat} (hr : RoomG k X.A) : MtR X "list.index" (rIndex X.K) := by
  intro pins s σ H x vs v us Q I rx rv h
  obtain ⟨l, ws, ds, y, d, j, rfl, rfl, hS, hD, hd, p1, p2, p3, hj, q⟩ := h
  cases rx
  obtain ⟨u, rfl, ru⟩ := rv.one
  obtain ⟨its, r, pl, hz⟩ := I.list hS
  obtain ⟨as, rs⟩ := Dp.readsAll I ds ws its hD r
  obtain ⟨bs, rx⟩ := Dp.reads I d y u hd ru
  have rs2 : ReadsAll s.heap its.toArray.toList ds as := by simpa using rs
  obtain ⟨⟨cls, dd, data, sl⟩, ho, hc, n, hd'⟩ := id pl.isList
  simp only at hc hd'
  subst hc hd'
  obtain ⟨hlt, hit, hno⟩ := PySem.SeqAt.hit_at rs2 p1 hj
  have hsz : its.toArray.size ≤ sizeLine := by rw [List.size_toArray, ← r.length]; exact hz
  rw [PySem.sizeLine_eq] at hsz
  refine call_meets PySem.F.slot_list_index ⟨_, ho, rfl⟩ PySem.F.entry_list_index (PySem.F.args_list_index_2 _ _) (PySem.SeqAt.list_indexAt l its.toArray n dd sl u _ j hlt (by omega) hit hno) ⟨ho, PySem.SeqAt.items_plain rs2 rx p1 p2 (by have := hr.r.units; omega), ?_⟩
  exact ⟨.int _, H, I.kept (t' := s.toks + 1) fun _ _ z => z, ⟨_, rfl⟩, q⟩
def gCount : DV → List DV → Store → DQ → Prop := fun x ys m Q => match ys with
  | [y] => (match dat m deep x, dat m deep y with
    | some (.list ds), some d => (PyData.plainAll ds = true ∧ d.plain = true ∧ d.depth ≤ 50) ∧ Q (.sh (.int ((ds.countP fun z => PyData.eqv z d : Nat) : Int))) m
    | _, _ => False)
  | _ => False
def gIndex : DV → List DV → Store → DQ → Prop := fun x ys m Q => match ys with
  | [y] => (match dat m deep x, dat m deep y with
    | some (.list ds), some d => (PyData.plainAll ds = true ∧ d.plain = true ∧ d.depth ≤ 50) ∧ (match PySem.SeqAt.dataPlace ds d with
      | some j => Q (.sh (.int (j : Int))) m
      | none => False)
    | _, _ => False)
  | _ => False
theorem ll_count {K : PySem.W.Frag} : LkM K (rCount K) gCount := by
  intro H F S ad m v x vs xs Qd Q C rv rs q kq
  unfold gCount at q
  split at q
  · rename_i y
    obtain ⟨u, eu, ru⟩ := vrs1 rs
    subst eu
    split at q
    · rename_i ds d h1 h2
      have d1 := dat_at C _ _ _ _ rv h1
      have d2 := dat_at C _ _ _ _ ru h2
      cases d1 with
      | lst hs ha => exact ⟨_, _, ds, u, d, rfl, rfl, hs, ha, d2, q.1.1, q.1.2.1, q.1.2.2, kq _ _ _ _ _ _ _ (Stp.refl _ _ _) C (.sh (.int _)) q.2⟩
    · exact q.elim
  · exact q.elim
theorem ll_index {K : PySem.W.Frag} : LkM K (rIndex K) gIndex := by
  intro H F S ad m v x vs xs Qd Q C rv rs q kq
  unfold gIndex at q
  split at q
  · rename_i y
    obtain ⟨u, eu, ru⟩ := vrs1 rs
    subst eu
    split at q
    · rename_i ds d h1 h2
      have d1 := dat_at C _ _ _ _ rv h1
      have d2 := dat_at C _ _ _ _ ru h2
      obtain ⟨q1, q2⟩ := q
      split at q2
      · rename_i j hj
        cases d1 with
        | lst hs ha => exact ⟨_, _, ds, u, d, j, rfl, rfl, hs, ha, d2, q1.1, q1.2.1, q1.2.2, hj, kq _ _ _ _ _ _ _ (Stp.refl _ _ _) C (.sh (.int _)) q2⟩
      · exact q2.elim
    · exact q.elim
  · exact q.elim
theorem de_count {k : Nat} (hr : RoomG k X.A) {apos cpos : Pos} (ho : DE X W a ta) (ha : DE X W e te) (hbase : attributeBase a "count" X.env (eval a X.env) = eval a X.env := by rfl)
    (hs : starEach [e] X.env = (false, eval e X.env) :: starEach [] X.env := by rfl)
    (hfew : ((backTo cpos (starEach [e] X.env)).all (fun x => !x.1) && (backToKw cpos (keywordEach [] X.env)).all (fun x => x.1.isSome)
      && decide ([e].length + ([] : List Keyword).length + (if ([] : List Keyword).isEmpty then 0 else 1) < 30)) = true := by rfl)
    (hline : (apos.endLine == cpos.line) = true := by rfl) (hplain : (backTo cpos (starEach [] X.env)).any (·.1) = false := by rfl) :
    DE X W (.Call (.Attribute a "count" apos) [e] [] cpos) (dML gCount ta (dCons te dNil)) :=
  de_ml PySem.F.slot_list_count PySem.F.type_list_count (mt_count hr) ll_count ho (da_cons ha da_nil hs) hbase hfew hline hs hplain
theorem de_index {k : Nat} (hr : RoomG k X.A) {apos cpos : Pos} (ho : DE X W a ta) (ha : DE X W e te) (hbase : attributeBase a "index" X.env (eval a X.env) = eval a X.env := by rfl)
    (hs : starEach [e] X.env = (false, eval e X.env) :: starEach [] X.env := by rfl)
    (hfew : ((backTo cpos (starEach [e] X.env)).all (fun x => !x.1) && (backToKw cpos (keywordEach [] X.env)).all (fun x => x.1.isSome)
      && decide ([e].length + ([] : List Keyword).length + (if ([] : List Keyword).isEmpty then 0 else 1) < 30)) = true := by rfl)
    (hline : (apos.endLine == cpos.line) = true := by rfl) (hplain : (backTo cpos (starEach [] X.env)).any (·.1) = false := by rfl) :
    DE X W (.Call (.Attribute a "index" apos) [e] [] cpos) (dML gIndex ta (dCons te dNil)) :=
  de_ml PySem.F.slot_list_index PySem.F.type_list_index (mt_index hr) ll_index ho (da_cons ha da_nil hs) hbase hfew hline hs hplain
/-! ### isinstance of a kept error -/
def rIsK (K : PySem.W.Frag) (kit : Str → Option Bool) : List V → Hp → VK → Prop := fun xs H Q => ∃ (l : Addr) (nm : Str) (c : V) (bb : Bool), xs = [.ref l, c] ∧ H l = some (exV (.ref (He.ga K nm)) none l) ∧ kit nm = some bb ∧ Q (.bl bb) H
theorem call_isK {kit : Str → Option Bool} {cv : Value} {cV : V} (hcv : ∀ u, RelV cV u → u = cv) (hk : ∀ nm bb, kit nm = some bb → ExcC X.K (He.ga X.K nm) ∧ PySem.W.kitOne X.K (.ref (He.ga X.K nm)) cv = some bb) :
    CallR X (.builtin "isinstance") (fun xs H Q => ∃ v, xs = [v, cV] ∧ rIsK X.K kit xs H Q) := by
  intro pins s σ H xs us Q I r h
  obtain ⟨v, rfl, l, nm, c, bb, e1, hH, hkit, q⟩ := h
  cases e1
  cases r with
  | cons rx rr =>
    cases rr with
    | cons rt rr =>
      cases rr
      cases rx
      have ec := hcv _ rt
      subst ec
      obtain ⟨⟨oe, vs, hget, hz, hv⟩, _, _⟩ := I.hok _ _ hH
      obtain ⟨C, e⟩ := hk nm bb hkit
      have J : PySem.W.InstAt s.heap l oe (He.ga X.K nm) none := by
        obtain ⟨oc, od, oda, osl⟩ := oe
        obtain ⟨h1, h2⟩ := hz
        dsimp only at h1 h2 hv
        subst h1 h2 hv
        exact ⟨hget, rfl, rfl, trivial⟩
      exact PySem.W.kia_one (PySem.W.handS_kitx_exc C.hg C.hk C.hs C.hd C.ha C.hn C.ht C.hm) I.kIn J e (fun z => nomatch z) fun tk => ⟨.bl bb, H, I.kept (t' := tk) fun _ _ z => z, rfl, q⟩
abbrev dIsK (kit : Str → Option Bool) (ta : DT) : DT := fun δ m Q E => ta δ m (fun x m1 => match x with
  | .own k => (match m1[k]? with
    | some (.exc nm []) => (match kit nm with
      | some bb => Q (.sh (.bool bb)) m1
      | none => False)
    | _ => False)
  | _ => False) E
theorem de_isK {kit : Str → Option Bool} {cv : Value} {cV : V} {c : Str} {p p2 : Pos} (hcv : ∀ u, RelV cV u → u = cv) (hk : ∀ nm bb, kit nm = some bb → ExcC X.K (He.ga X.K nm) ∧ PySem.W.kitOne X.K (.ref (He.ga X.K nm)) cv = some bb)
    (hg : Gl X "isinstance") (hm : X.mg "isinstance" = none) (hC : PE X (.Name c p2) (tC cV)) (ho : DE X W a ta) (hs : starEach [a, .Name c p2] X.env = (false, eval a X.env) :: starEach [.Name c p2] X.env := by rfl) (hs2 : starEach [.Name c p2] X.env = (false, eval (.Name c p2) X.env) :: starEach [] X.env := by rfl)
    (hpl : (backTo pos (starEach [.Name c p2] X.env)).any (·.1) = false := by rfl) : DE X W (.Call (.Name "isinstance" p) [a, .Name c p2] [] pos) (dIsK kit ta) := by
  obtain ⟨t0, p0, h0⟩ := ho
  refine ⟨_, pe_callB (call_isK (kit := kit) hcv hk) hg hm (by decide +kernel) (pa_cons p0 (pa_cons hC pa_nil hs2) hs) (by decide) (by decide) hs hpl, fun σ H F S ad m δ Qd Ed Q C R h kq kx => ?_⟩
  refine h0 σ H F S ad m δ _ Ed _ C R h (fun v H1 F1 S1 ad1 m1 x s1 C1 rv q1 => ?_) kx
  split at q1
  · rename_i k
    split at q1
    · rename_i nm hm1
      split at q1
      · rename_i bb hb
        cases rv with
        | own ha =>
          obtain ⟨_, od, hH, hx⟩ := C1.ent _ _ _ hm1 ha
          obtain rfl := hx.nil
          exact ⟨_, rfl, _, nm, cV, bb, rfl, hH, hb, kq _ _ _ _ _ _ _ s1 C1 (.sh (.bl bb)) q1⟩
      · exact q1.elim
    · exact q1.elim
  · exact q1.elim
/-- a class of the program, a built-in one -/
theorem de_isC {kit : Str → Option Bool} {c : Str} {p p2 : Pos} (hg : Gl X "isinstance") (hm : X.mg "isinstance" = none) (hgc : Gl X c) (gC : X.mg c = some (.ref (He.ga X.K c))) (hk : ∀ nm bb, kit nm = some bb → ExcC X.K (He.ga X.K nm) ∧ PySem.W.kitOne X.K (.ref (He.ga X.K nm)) (.ref (He.ga X.K c)) = some bb)
    (ho : DE X W a ta) (hdb : (c == ("__debug__" : Str)) = false := by decide) (hs : starEach [a, .Name c p2] X.env = (false, eval a X.env) :: starEach [.Name c p2] X.env := by rfl) (hs2 : starEach [.Name c p2] X.env = (false, eval (.Name c p2) X.env) :: starEach [] X.env := by rfl)
    (hpl : (backTo pos (starEach [.Name c p2] X.env)).any (·.1) = false := by rfl) : DE X W (.Call (.Name "isinstance" p) [a, .Name c p2] [] pos) (dIsK kit ta) :=
  de_isK (cV := .ref (He.ga X.K c)) (fun u r => r) hk hg hm (pe_glob hgc gC rfl hdb) ho hs hs2 hpl
theorem de_isT {kit : Str → Option Bool} {c : Str} {T : String} {p p2 : Pos} (hg : Gl X "isinstance") (hm : X.mg "isinstance" = none) (hgc : Gl X c) (gC : X.mg c = none) (hv : bootBuiltins c = some (.type T)) (hk : ∀ nm bb, kit nm = some bb → ExcC X.K (He.ga X.K nm) ∧ PySem.W.kitOne X.K (.ref (He.ga X.K nm)) (.type T) = some bb)
    (ho : DE X W a ta) (hn : c ≠ "__name__" := by decide) (hdb : (c == ("__debug__" : Str)) = false := by decide) (hs : starEach [a, .Name c p2] X.env = (false, eval a X.env) :: starEach [.Name c p2] X.env := by rfl) (hs2 : starEach [.Name c p2] X.env = (false, eval (.Name c p2) X.env) :: starEach [] X.env := by rfl)
    (hpl : (backTo pos (starEach [.Name c p2] X.env)).any (·.1) = false := by rfl) : DE X W (.Call (.Name "isinstance" p) [a, .Name c p2] [] pos) (dIsK kit ta) :=
  de_isK (cV := .ty T) (fun u r => r) hk hg hm (pe_bltn hgc gC hv rfl hn hdb) ho hs hs2 hpl
end
/-! ### what the classes must say, as one Bool each -/
def excCB (K : PySem.W.Frag) (D : Addr) : Bool :=
  He.eqO (PySem.W.findIn K (.ref D) "__getattribute__") (some (some (.builtin "BaseException.__getattribute__"))) && (He.eqO (PySem.W.findIn K (.ref D) "__getattr__") (some none) && (decide (PySem.W.subIn K (.ref D) (.type "BaseException") = some true) && (PySem.W.hasDictIn K D && (He.eqO (PySem.W.findIn K (.ref D) "__class__") (some (some (.builtin "object.__class__"))) && (He.eqO (PySem.W.specialIn K (.builtin "object.__class__") "__get__") (some (some (.builtin "getset_descriptor.__get__"))) &&
    (decide (PySem.W.takesIn K (.builtin "object.__class__") = some true) && decide (PySem.W.mroIn K D (.type "object") = some true)))))))
theorem excCB_ok {K : PySem.W.Frag} {D : Addr} (h : excCB K D = true) : ExcC K D := by
  obtain ⟨h1, h⟩ := He.ba h
  obtain ⟨h2, h⟩ := He.ba h
  obtain ⟨h3, h⟩ := He.ba h
  obtain ⟨h4, h⟩ := He.ba h
  obtain ⟨h5, h⟩ := He.ba h
  obtain ⟨h6, h⟩ := He.ba h
  obtain ⟨h7, h8⟩ := He.ba h
  exact ⟨He.eqO_ok h1, He.eqO_ok h2, of_decide_eq_true h3, h4, He.eqO_ok h5, He.eqO_ok h6, of_decide_eq_true h7, of_decide_eq_true h8⟩
def kitB (K : PySem.W.Frag) (nm : Str) (c : Value) (b : Bool) : Bool := excCB K (He.ga K nm) && decide (PySem.W.kitOne K (.ref (He.ga K nm)) c = some b)
theorem kitB_ok {K : PySem.W.Frag} {nm : Str} {c : Value} {b : Bool} (h : kitB K nm c b = true) : ExcC K (He.ga K nm) ∧ PySem.W.kitOne K (.ref (He.ga K nm)) c = some b := by
  obtain ⟨h1, h2⟩ := He.ba h
  exact ⟨excCB_ok h1, of_decide_eq_true h2⟩
/-- a table of one row -/
def row1 (x : Str) (b : Bool) : Str → Option Bool := fun nm => if nm = x then some b else none
theorem row1_ok {x : Str} {b : Bool} {P : Str → Bool → Prop} (h : P x b) : ∀ nm bb, row1 x b nm = some bb → P nm bb := by
  intro nm bb e
  unfold row1 at e
  split at e
  · rename_i e2
    cases e
    rw [e2]; exact h
  · cases e
end DL
/-! lists given to the trees; a def's own small store -/
namespace DL
open PySem PySem.Spec PyProof.Rows L2
section
variable {K : PySem.W.Frag} {H F S : Hp} {ad : List Addr} {m : Store}
/-- a list of trees is given to the trees for good -/
theorem Core.freezeL (C : Core K H F S ad m) {k : Nat} {ds : List PyData} (h : m[k]? = some (.lst (ds.map .sh))) : ∃ F' S' a, ad[k]? = some a ∧ Stp F S ad F' S' ad ∧ Core K H F' S' ad (m.set k .gone) ∧ Dp K S' (.ref a) (.list ds) := by
  have hk : k < m.length := (List.getElem?_eq_some_iff.mp h).1
  have hka : k < ad.length := by rw [C.len]; exact hk
  have ha : ad[k]? = some ad[k] := List.getElem?_eq_getElem hka
  obtain ⟨hF, vs, hh, hr⟩ := C.ent k _ _ h ha
  have nS := C.noS hF
  have e1 : Ext S (upd S ad[k] (.lst vs)) := ext_new nS
  have dd : DpAll K (upd S ad[k] (.lst vs)) vs ds := dpa_ext e1 (sh_vrs hr)
  have off : ∀ {i : Nat} {e : Ent}, (m.set k .gone)[i]? = some e → e.live = true → i ≠ k := fun g l q => by
    subst q; rw [List.getElem?_set_self hk] at g; cases g; cases l
  refine ⟨upd F ad[k] (.lst vs), upd S ad[k] (.lst vs), ad[k], ha, ⟨e1, ext_new hF, Pfx.refl _, fun b u o hb ho => ?_⟩, ⟨ext_upd2 C.sF, fun b u hb => ?_, by rw [List.length_set]; exact C.len, fun i j b e1 e2 h1 h2 g1 g2 l1 l2 => ?_, fun i e' b h1 h2 => ?_⟩, .lst (.inl (.inl upd_same)) dd⟩
  · rw [upd_ne (ne_of_none hb hF)] at ho; exact ho
  · by_cases q : b = ad[k]
    · subst q; rw [upd_same] at hb; rw [hh]; exact hb
    · rw [upd_ne q] at hb; exact C.FH b u hb
  · have hi := off g1 l1
    have hj := off g2 l2
    rw [List.getElem?_set_ne (Ne.symm hi)] at g1
    rw [List.getElem?_set_ne (Ne.symm hj)] at g2
    exact C.nd i j b e1 e2 h1 h2 g1 g2 l1 l2
  · by_cases hi : i = k
    · subst hi; rw [List.getElem?_set_self hk] at h1; cases h1; trivial
    · rw [List.getElem?_set_ne (Ne.symm hi)] at h1
      refine (C.ent i e' b h1 h2).mono e1 (Pfx.refl _) (fun l z => ?_) fun _ => rfl
      rw [upd_ne fun q => ?_]
      · exact z
      · subst q; exact hi (C.nd i k _ e' _ h2 ha h1 h l rfl)
end
/-- a list of trees in a store becomes a tree -/
abbrev frzG (x : DV) (m1 : Store) (Q : DQ) : Prop := match x with
  | .own k => ∃ ds : List PyData, m1[k]? = some (.lst (ds.map .sh)) ∧ Q (.sh (.list ds)) (m1.set k .gone)
  | .sh d => Q (.sh d) m1
  | _ => False
abbrev dFrzG (t : DT) : DT := fun δ m Q E => t δ m (fun x m1 => frzG x m1 Q) E
/-- .. the newest entry: it is taken away -/
abbrev frzD (m : Store) (x : DV) (m1 : Store) (Q : DQ) : Prop := ∃ (m0 : Store) (ds : List PyData), x = .own m0.length ∧ m1 = m0 ++ [.lst (ds.map .sh)] ∧ (m0 = m ∨ (Scp m0 ∧ m.length ≤ m0.length)) ∧ Q (.sh (.list ds)) m0
abbrev dFrz (t : DT) : DT := fun δ m Q E => t δ m (fun x m1 => frzD m x m1 Q) E
section
variable {X : Cx} {W : WX} {e : Expr} {t : DT}
theorem kq_frzG {K : PySem.W.Frag} {F S : Hp} {ad : List Addr} {Qd : DQ} {Q : VK} (kq : KQ K F S ad Qd Q) : KQ K F S ad (fun x m1 => frzG x m1 Qd) Q := by
  intro v H1 F1 S1 ad1 m1 x s1 C1 rv q1
  match x, q1 with
  | .sh d, q1 => exact kq _ _ _ _ _ _ _ s1 C1 rv q1
  | .own k, ⟨ds, hm, q⟩ =>
    obtain ⟨F2, S2, a, ha, s2, C2, hd⟩ := C1.freezeL hm
    cases rv with
    | own r =>
      rw [ha] at r
      cases r
      exact kq _ _ _ _ _ _ _ (s1.trans s2) C2 (.sh hd) q
theorem de_frzG (h : DE X W e t) : DE X W e (dFrzG t) := by
  obtain ⟨t0, p0, h0⟩ := h
  exact ⟨t0, p0, fun σ H F S ad m δ Qd Ed Q C R q kq kx => h0 σ H F S ad m δ _ Ed Q C R q (kq_frzG kq) kx⟩
theorem kq_frzD {K : PySem.W.Frag} {H F S : Hp} {ad : List Addr} {m : Store} {Qd : DQ} {Q : VK} (C : Core K H F S ad m) (kq : KQ K F S ad Qd Q) : KQ K F S ad (fun x m1 => frzD m x m1 Qd) Q := by
  intro v H1 F1 S1 ad1 m1 x s1 C1 rv ⟨m0, ds, e1, e2, hs, q⟩
  subst e1 e2
  have hm : (m0 ++ [Ent.lst (ds.map .sh)])[m0.length]? = some (.lst (ds.map .sh)) := app_at0 _ _ _
  obtain ⟨F2, S2, a, ha, s2, C2, hd⟩ := C1.freezeL hm
  have e3 : (m0 ++ [Ent.lst (ds.map .sh)]).set m0.length .gone = m0 ++ [.gone] := app_set m0 _ 0 _
  rw [e3] at C2
  obtain ⟨sc, hl⟩ : Scp m0 ∧ m.length ≤ m0.length := by
    rcases hs with rfl | h
    · exact ⟨C.scp, Nat.le_refl _⟩
    · exact h
  cases rv with
  | own r =>
    rw [ha] at r
    cases r
    have s12 := s1.trans s2
    refine kq _ _ _ _ _ _ _ ⟨s12.s, s12.f, ?_, s12.n⟩ (C2.cut sc) (.sh hd) q
    exact pfx_of s12.p (by rw [C.len]; exact hl) fun k a hk z => by rw [List.getElem?_take_of_lt hk]; exact z
theorem de_frz (h : DE X W e t) : DE X W e (dFrz t) := by
  obtain ⟨t0, p0, h0⟩ := h
  exact ⟨t0, p0, fun σ H F S ad m δ Qd Ed Q C R q kq kx => h0 σ H F S ad m δ _ Ed Q C R q (kq_frzD C kq) kx⟩
end
/-! ### a def's own small store -/
/-- an entry that names no other -/
def shs {κ : Type} (l : List (κ × DV)) : Prop := ∀ p ∈ l, ∃ d, p.2 = .sh d
def Ent.flat : Ent → Prop
  | .lst xs => ∃ ds : List PyData, xs = ds.map .sh
  | .dK l => shs l
  | .dT l => shs l
  | .fK l => shs l
  | .fT l => shs l
  | .ins _ l => shs l
  | .exc _ l => shs l
  | _ => True
section
variable {K : PySem.W.Frag} {H F S H2 F2 S2 : Hp} {ad a0 ad2 : List Addr} {m m0 : Store}
theorem VR.shA {v : V} {d : PyData} (h : VR K S ad v (.sh d)) : VR K S a0 v (.sh d) := by
  cases h with
  | sh h => exact .sh h
theorem kvr_flat {κ : Type} {vs : List (κ × V)} {xs : List (κ × DV)} (f : shs xs) (h : KVR K S ad vs xs) : KVR K S a0 vs xs := by
  unfold KVR at h ⊢
  induction h with
  | nil => exact .nil
  | @cons p q ps qs r t ih =>
    refine .cons ⟨r.1, ?_⟩ (ih fun z hz => f z (List.mem_cons_of_mem _ hz))
    obtain ⟨d, e⟩ := f q List.mem_cons_self
    have r2 := r.2
    rw [e] at r2 ⊢
    exact r2.shA
theorem ktr_flat {vs : List (NestedKey × Addr × V)} {xs : List (NestedKey × DV)} (f : shs xs) (h : KTR K S ad vs xs) : KTR K S a0 vs xs := by
  unfold KTR at h ⊢
  induction h with
  | nil => exact .nil
  | @cons p q ps qs r t ih =>
    refine .cons ⟨r.1, r.2.1, ?_⟩ (ih fun z hz => f z (List.mem_cons_of_mem _ hz))
    obtain ⟨d, e⟩ := f q List.mem_cons_self
    have r2 := r.2.2
    rw [e] at r2 ⊢
    exact r2.shA
theorem EntR.flat {a : Addr} {e : Ent} (f : e.flat) (h : EntR K H F S ad a e) : EntR K H F S a0 a e := by
  cases e with
  | lst xs => obtain ⟨ds, rfl⟩ := f; obtain ⟨z, vs, q, r⟩ := h; exact ⟨z, vs, q, vrs_sh (sh_vrs r)⟩
  | dK l => obtain ⟨z, vs, q, r⟩ := h; exact ⟨z, vs, q, kvr_flat f r⟩
  | dT l => obtain ⟨z, vs, q, r⟩ := h; exact ⟨z, vs, q, ktr_flat f r⟩
  | fK l => obtain ⟨o, vs, q, r⟩ := h; exact ⟨o, vs, q, kvr_flat f r⟩
  | fT l => obtain ⟨o, vs, q, r⟩ := h; exact ⟨o, vs, q, ktr_flat f r⟩
  | ins C l => obtain ⟨z, dx, vs, q, r⟩ := h; exact ⟨z, dx, vs, q, kvr_flat f r⟩
  | exc C l =>
    obtain ⟨z, od, q, r⟩ := h
    refine ⟨z, od, q, ?_⟩
    cases od with
    | none => exact r
    | some dx => obtain ⟨y, vs, p, r⟩ := r; exact ⟨y, vs, p, kvr_flat f r⟩
  | drw q => exact h
  | frz d => exact h
  | gone => trivial
/-- what stands at the entries that the callee does not see -/
def Prk (ks : List Nat) (ad : List Addr) (m : Store) (a : Addr) : Prop := ∃ j e, j ∉ ks ∧ m[j]? = some e ∧ e.live = true ∧ ad[j]? = some a
open Classical in
noncomputable def parkF (ks : List Nat) (ad : List Addr) (m : Store) (H F : Hp) : Hp := fun a => if Prk ks ad m a then H a else F a
structure Sel (ks : List Nat) (ad : List Addr) (m : Store) (a0 : List Addr) (m0 : Store) : Prop where
  nd : ks.Nodup
  la : a0.length = ks.length
  lm : m0.length = ks.length
  at_ : ∀ (i k : Nat), ks[i]? = some k → m[k]? = m0[i]? ∧ ad[k]? = a0[i]?
  fl : ∀ (i : Nat) (e : Ent), m0[i]? = some e → e.flat
theorem Core.sel (C : Core K H F S ad m) {ks : List Nat} (s : Sel ks ad m a0 m0) : Core K H (parkF ks ad m H F) S a0 m0 := by
  have ix : ∀ {i : Nat} {e : Ent}, m0[i]? = some e → ∃ k, ks[i]? = some k := fun {i e} h => by
    have : i < ks.length := by rw [← s.lm]; exact (List.getElem?_eq_some_iff.mp h).1
    exact ⟨_, List.getElem?_eq_getElem this⟩
  have pk : ∀ a, Prk ks ad m a → F a = none := fun a ⟨j, e, _, hm, hl, ha⟩ => (C.ent j e a hm ha).notF hl
  refine ⟨fun a o h => ?_, fun a o h => ?_, by rw [s.la, s.lm], fun i j a e u h1 h2 g1 g2 l1 l2 => ?_, fun i e a h1 h2 => ?_⟩
  · unfold parkF
    rw [if_neg fun p => ?_]
    · exact C.sF a o h
    · rw [C.noS (pk a p)] at h; cases h
  · unfold parkF at h
    split at h
    · exact h
    · exact C.FH a o h
  · obtain ⟨k1, hk1⟩ := ix g1
    obtain ⟨k2, hk2⟩ := ix g2
    have q1 := s.at_ i k1 hk1
    have q2 := s.at_ j k2 hk2
    have := C.nd k1 k2 a e u (q1.2.trans h1) (q2.2.trans h2) (q1.1.trans g1) (q2.1.trans g2) l1 l2
    subst this
    have hi := (List.getElem?_eq_some_iff.mp hk1)
    have hj := (List.getElem?_eq_some_iff.mp hk2)
    exact (List.getElem_inj s.nd).mp (hi.2.trans hj.2.symm)
  · obtain ⟨k1, hk1⟩ := ix h1
    have q1 := s.at_ i k1 hk1
    refine (C.ent k1 e a (q1.1.trans h1) (q1.2.trans h2)).flat (s.fl i e h1) |>.mono (Ext.refl _) (Pfx.refl _) (fun l z => ?_) fun _ => rfl
    unfold parkF
    rw [if_neg fun p => ?_]
    · exact z
    · obtain ⟨j, u, hj, hm, hl, ha⟩ := p
      have := C.nd j k1 a u e ha (q1.2.trans h2) hm (q1.1.trans h1) hl l
      subst this
      exact hj (List.mem_of_getElem? hk1)
/-- the callee is back, what it saw stands as it was -/
theorem Core.back (C : Core K H F S ad m) {ks : List Nat} (s : Sel ks ad m a0 m0) {t : Store} (st : Stp (parkF ks ad m H F) S a0 F2 S2 ad2) (C2 : Core K H2 F2 S2 ad2 (m0 ++ t)) : ∃ F3, Stp F S ad F3 S2 ad ∧ Core K H2 F3 S2 ad m := by
  classical
  have pk : ∀ a, Prk ks ad m a → F a = none := fun a ⟨j, e, _, hm, hl, ha⟩ => (C.ent j e a hm ha).notF hl
  have pH : ∀ a, Prk ks ad m a → ∃ o, H a = some o := fun a ⟨j, e, _, hm, hl, ha⟩ => (C.ent j e a hm ha).there hl
  have pF : ∀ a o, Prk ks ad m a → H a = some o → parkF ks ad m H F a = some o := fun a o p h => by unfold parkF; rw [if_pos p]; exact h
  have pS : ∀ a, Prk ks ad m a → S2 a = none := fun a p => by
    obtain ⟨o, ho⟩ := pH a p
    cases q : S2 a with
    | none => rfl
    | some u =>
      have := st.n a o u (pF a o p ho) q
      rw [C.noS (pk a p)] at this; cases this
  have fF : ∀ a o, F a = some o → parkF ks ad m H F a = some o := fun a o h => by
    unfold parkF
    rw [if_neg fun p => ?_]
    · exact h
    · rw [pk a p] at h; cases h
  let F3 : Hp := fun a => if Prk ks ad m a then none else F2 a
  have F3a : ∀ a, Prk ks ad m a → F3 a = none := fun a p => if_pos p
  have F3b : ∀ a, ¬ Prk ks ad m a → F3 a = F2 a := fun a p => if_neg p
  refine ⟨F3, ⟨st.s, fun a o h => ?_, Pfx.refl _, fun a u o h g => st.n a u o (fF a u h) g⟩, ⟨fun a o h => ?_, fun a o h => ?_, C.len, C.nd, fun i e a h1 h2 => ?_⟩⟩
  · rw [F3b a fun p => by rw [pk a p] at h; cases h]
    exact st.f a o (fF a o h)
  · rw [F3b a fun p => by rw [pS a p] at h; cases h]
    exact C2.sF a o h
  · have h' : (if Prk ks ad m a then none else F2 a) = some o := h
    split at h'
    · cases h'
    · exact C2.FH a o h'
  · by_cases hi : i ∈ ks
    · obtain ⟨j, hj⟩ := List.getElem?_of_mem hi
      have q := s.at_ j i hj
      have hj0 : j < m0.length := by rw [s.lm]; exact (List.getElem?_eq_some_iff.mp hj).1
      have e0 : (m0 ++ t)[j]? = some e := by rw [List.getElem?_append_left hj0, ← q.1]; exact h1
      have ea : a0[j]? = some a := q.2.symm.trans h2
      refine ((C2.ent j e a e0 (st.p j a ea)).flat (s.fl j e (q.1.symm.trans h1))).mono (Ext.refl _) (Pfx.refl _) (fun l z => ?_) fun _ => rfl
      rw [F3b a fun p => ?_]
      · exact z
      · obtain ⟨j2, u, hj2, hm, hl, ha⟩ := p
        have := C.nd j2 i a u e ha h2 hm h1 hl l
        subst this
        exact hj2 hi
    · refine (C.ent i e a h1 h2).mono st.s (Pfx.refl _) (fun l z => F3a a ⟨i, e, hi, h1, l, h2⟩) fun l => ?_
      have p : Prk ks ad m a := ⟨i, e, hi, h1, l, h2⟩
      obtain ⟨o, ho⟩ := pH a p
      rw [ho]
      exact C2.FH a o (st.f a o (pF a o p ho))
/-- .. with a new entry of its own -/
theorem Core.backE (C : Core K H F S ad m) {ks : List Nat} (s : Sel ks ad m a0 m0) {t : Store} (st : Stp (parkF ks ad m H F) S a0 F2 S2 ad2) (C2 : Core K H2 F2 S2 ad2 (m0 ++ t)) {k : Nat} {e : Ent} {a : Addr} (hk : m0.length ≤ k) (he : (m0 ++ t)[k]? = some e) (ha : ad2[k]? = some a) (fl : e.flat) (lv : e.live = true) :
    ∃ F3, Stp F S ad F3 S2 (ad ++ [a]) ∧ Core K H2 F3 S2 (ad ++ [a]) (m ++ [e]) := by
  obtain ⟨F3, s3, C3⟩ := C.back s st C2
  have z2 := (C2.ent k e a he ha).notF lv
  have nP : ¬ Prk ks ad m a := fun p => by
    obtain ⟨j, u, hj, hm, hl, hb⟩ := id p
    obtain ⟨o, ho⟩ := (C.ent j u a hm hb).there hl
    have := st.f a o (by unfold parkF; rw [if_pos p]; exact ho)
    rw [z2] at this; cases this
  have apart : ∀ (i : Nat) (u : Ent), m[i]? = some u → ad[i]? = some a → u.live = true → False := fun i u h1 h2 l => by
    by_cases hi : i ∈ ks
    · obtain ⟨j, hj⟩ := List.getElem?_of_mem hi
      have q := s.at_ j i hj
      have hj0 : j < m0.length := by rw [s.lm]; exact (List.getElem?_eq_some_iff.mp hj).1
      have e0 : (m0 ++ t)[j]? = some u := by rw [List.getElem?_append_left hj0, ← q.1]; exact h1
      have ea : ad2[j]? = some a := st.p j a (q.2.symm.trans h2)
      have := C2.nd j k a u e ea ha e0 he l lv
      omega
    · exact nP ⟨i, u, hi, h1, l, h2⟩
  -- what is kept for good leaves the new one out
  classical
  let F4 : Hp := fun b => if b = a then none else F3 b
  have F4a : F4 a = none := if_pos rfl
  have F4b : ∀ b, b ≠ a → F4 b = F3 b := fun b h => if_neg h
  have S2a : S2 a = none := C2.noS z2
  have Fa : F a = none := by
    cases q : F a with
    | none => rfl
    | some o =>
      have := st.f a o (by unfold parkF; rw [if_neg nP]; exact q)
      rw [z2] at this; cases this
  refine ⟨F4, ⟨s3.s, fun b o h => ?_, Pfx.app _ _, s3.n⟩, ⟨fun b o h => ?_, fun b o h => ?_, by rw [List.length_append, List.length_append, C.len]; rfl, fun i j b e1 e2 h1 h2 g1 g2 l1 l2 => ?_, fun i e' b h1 h2 => ?_⟩⟩
  · rw [F4b b fun q => by rw [q, Fa] at h; cases h]; exact s3.f b o h
  · rw [F4b b fun q => by rw [q, S2a] at h; cases h]; exact C3.sF b o h
  · by_cases q : b = a
    · rw [q, F4a] at h; cases h
    · rw [F4b b q] at h; exact C3.FH b o h
  · rcases app_cases C.len g1 h1 with ⟨a1, a2, a3⟩ | ⟨a1, a2, a3⟩
    · rcases app_cases C.len g2 h2 with ⟨b1, b2, b3⟩ | ⟨b1, b2, b3⟩
      · exact C.nd i j b e1 e2 a3 b3 a2 b2 l1 l2
      · subst b3; exact (apart i e1 a2 a3 l1).elim
    · rcases app_cases C.len g2 h2 with ⟨b1, b2, b3⟩ | ⟨b1, b2, b3⟩
      · subst a3; exact (apart j e2 b2 b3 l2).elim
      · rw [a1, b1]
  · rcases app_cases C.len h1 h2 with ⟨a1, a2, a3⟩ | ⟨a1, a2, a3⟩
    · refine (C3.ent i e' b a2 a3).mono (Ext.refl _) (Pfx.app _ _) (fun l z => ?_) fun _ => rfl
      rw [F4b b fun q => by subst q; exact apart i e' a2 a3 l]
      exact z
    · subst a2; subst a3
      refine ((C2.ent k e' b he ha).flat fl).mono (Ext.refl _) (Pfx.refl _) (fun l z => F4a) fun _ => rfl
end
/-- what a def of the small store gives: a tree, or a new entry -/
inductive LR where
  | v (d : PyData)
  | e (x : Ent)
abbrev LQ := LR → Prop
abbrev LSpec := List DV → Store → LQ → (DX → Prop) → Prop
/-- how the callee's names of entries read at the caller's -/
def renK (ks : List Nat) : DV → DV
  | .own i => .own (ks.getD i 0)
  | x => x
def lrQ (m : Store) (Q : DQ) : LQ
  | .v d => Q (.sh d) m
  | .e x => Q (.own m.length) (m ++ [x])
/-- an argument: a tree, or one of the entries seen -/
def argOk (n : Nat) : DV → Prop
  | .sh _ => True
  | .own i => i < n
  | .tup _ => False
/-- a def that sees of the store but the entries m0, and leaves them as they are -/
def locS (f : LSpec) : DSpec := fun xs m Q E => ∃ (ks : List Nat) (m0 : Store) (ys : List DV), ks.Nodup ∧ m0.length = ks.length ∧ (∀ (i k : Nat), ks[i]? = some k → m[k]? = m0[i]? ∧ k < m.length) ∧ (∀ (i : Nat) (e : Ent), m0[i]? = some e → e.flat) ∧ xs = ys.map (renK ks) ∧ (∀ y ∈ ys, argOk ks.length y) ∧
  f ys m0 (lrQ m Q) (fun x => E x m)
/-- how it returns -/
def RtL (b : Store) (Q : LQ) : DQ := fun x m' => ∃ t, m' = b ++ t ∧ ((∃ d, x = .sh d ∧ Q (.v d)) ∨ (∃ k e, x = .own k ∧ m'[k]? = some e ∧ b.length ≤ k ∧ e.flat ∧ e.live = true ∧ (Q (.e e) ∨ ∃ ds : List PyData, e = .lst (ds.map .sh) ∧ Q (.v (.list ds)))))
def RtE (b : Store) (E : DX → Prop) : DXK := fun x m' => ∃ t, m' = b ++ t ∧ shs x.fs ∧ E x
abbrev retL (b : Store) (Q : LQ) (E : DX → Prop) : DEnds := { nx := fun _ m' => RtQ b.length (RtL b Q) (.sh .none) m', rt := RtQ b.length (RtL b Q), ex := RtX b.length (RtE b E) }
def lspL (f : LSpec) : DSpec := fun xs m Qd Ed => ∃ Q E, f xs m Q E ∧ Qd = RtL m Q ∧ Ed = RtE m E
theorem xr_flat {K : PySem.W.Frag} {S : Hp} {ad a0 : List Addr} {cls : Value} {d : Option Addr} {H : Hp} {x : DX} (f : shs x.fs) (h : XR K S ad cls d H x) : XR K S a0 cls d H x := by
  obtain ⟨e, r⟩ := h
  refine ⟨e, ?_⟩
  cases d with
  | none => exact r
  | some dx => obtain ⟨y, vs, p, r⟩ := r; exact ⟨y, vs, p, kvr_flat f r⟩
theorem vrs_ren {K : PySem.W.Frag} {S : Hp} {ad a0 : List Addr} {ks : List Nat} (h : ∀ (i k : Nat), ks[i]? = some k → ad[k]? = a0[i]?) : ∀ {ys : List DV} {vs : List V}, (∀ y ∈ ys, argOk ks.length y) → VRs K S ad vs (ys.map (renK ks)) → VRs K S a0 vs ys
  | [], _, _, r => by cases r; exact .nil
  | y :: ys, vs, o, r => by
    rw [List.map_cons] at r
    cases r with
    | cons r rr =>
      refine .cons ?_ (vrs_ren h (fun z hz => o z (List.mem_cons_of_mem _ hz)) rr)
      have o1 := o y List.mem_cons_self
      cases y with
      | sh d => exact r.shA
      | own i =>
        have hi : i < ks.length := o1
        have r : VR K S ad _ (.own (ks.getD i 0)) := r
        cases r with
        | own r =>
          refine .own ?_
          rw [← h i ks[i] (List.getElem?_eq_getElem hi)]
          rw [List.getD_eq_getElem?_getD, List.getElem?_eq_getElem hi] at r
          exact r
      | tup xs => exact o1.elim
theorem conv_loc {K : PySem.W.Frag} {f : LSpec} {vs : List V} {H : Hp} {Q : VK} {E : XK} (h : dsp K (locS f) vs H Q E) : dsp K (lspL f) vs H Q E := by
  obtain ⟨F, S, ad, m, xs, Qd, Ed, C, r, ⟨ks, m0, ys, nd, hl, hat, hfl, rfl, hok, hf⟩, kq, kx⟩ := h
  have sel : Sel ks ad m (ks.map fun k => ad.getD k 0) m0 := by
    refine ⟨nd, List.length_map _, hl, fun i k e => ⟨(hat i k e).1, ?_⟩, hfl⟩
    have hk : k < ad.length := by rw [C.len]; exact (hat i k e).2
    rw [List.getElem?_map, e, Option.map_some, List.getD_eq_getElem?_getD, List.getElem?_eq_getElem hk]; rfl
  refine ⟨_, S, _, m0, ys, _, _, C.sel sel, vrs_ren (fun i k e => (sel.at_ i k e).2) hok r, ⟨_, _, hf, rfl, rfl⟩, ?_, ?_⟩
  · rintro v H2 F2 S2 ad2 m2 x st C2 rv ⟨t, rfl, q⟩
    rcases q with ⟨d, rfl, q⟩ | ⟨k, e, rfl, hk, hbk, fl, lv, q⟩
    · obtain ⟨F3, s3, C3⟩ := C.back sel st C2
      exact kq _ _ _ _ _ _ _ s3 C3 rv.shA q
    · rcases q with q | ⟨ds, rfl, q⟩
      · cases rv with
        | own ra =>
          obtain ⟨F3, s3, C3⟩ := C.backE sel st C2 hbk hk ra fl lv
          refine kq _ _ _ _ _ _ _ s3 C3 (.own ?_) q
          rw [← C.len, List.getElem?_append_right (Nat.le_refl _)]; simp
      · obtain ⟨F4, S4, a, ha, s4, C4, hd⟩ := C2.freezeL hk
        cases rv with
        | own ra =>
          rw [ha] at ra
          cases ra
          rw [List.set_append_right _ _ hbk] at C4
          obtain ⟨F3, s3, C3⟩ := C.back sel (st.trans s4) C4
          exact kq _ _ _ _ _ _ _ s3 C3 (.sh hd) q
  · rintro cls d H2 F2 S2 ad2 m2 x st C2 rx ⟨t, rfl, fx, q⟩
    obtain ⟨F3, s3, C3⟩ := C.back sel st C2
    exact kx _ _ _ _ _ _ _ _ s3 C3 (xr_flat fx rx) q
/-- a promise over the small store -/
abbrev PromL (N : List Str) (rd : DTS) (f : LSpec) : Prop := ∀ ys b Q E, Scp b → f ys b Q E → rd (retL b Q E) (dstart N ys) b
theorem PromL.go {N : List Str} {rd : DTS} {f : LSpec} (h : PromL N rd f) : Promise N rd (lspL f) := by
  rintro xs m Qd Ed sc ⟨Q, E, hf, rfl, rfl⟩
  exact h xs m Q E sc hf
theorem rtl_v {b t : Store} {Q : LQ} {d : PyData} {n : Nat} (q : Q (.v d)) : RtQ n (RtL b Q) (.sh d) (b ++ t) := .inl ⟨t, rfl, .inl ⟨d, rfl, q⟩⟩
theorem rtl_v0 {m : Store} {Q : LQ} {d : PyData} {n : Nat} (q : Q (.v d)) : RtQ n (RtL [] Q) (.sh d) m := .inl ⟨m, rfl, .inl ⟨d, rfl, q⟩⟩
theorem rtl_l {b t : Store} {Q : LQ} {k : Nat} {ds : List PyData} {n : Nat} (h : (b ++ t)[k]? = some (.lst (ds.map .sh))) (hk : b.length ≤ k) (q : Q (.v (.list ds))) : RtQ n (RtL b Q) (.own k) (b ++ t) :=
  .inl ⟨t, rfl, .inr ⟨k, _, rfl, h, hk, ⟨ds, rfl⟩, rfl, .inr ⟨ds, rfl, q⟩⟩⟩
theorem rtl_e {b t : Store} {Q : LQ} {k : Nat} {e : Ent} {n : Nat} (h : (b ++ t)[k]? = some e) (hk : b.length ≤ k) (fl : e.flat) (lv : e.live = true) (q : Q (.e e)) : RtQ n (RtL b Q) (.own k) (b ++ t) :=
  .inl ⟨t, rfl, .inr ⟨k, _, rfl, h, hk, fl, lv, .inl q⟩⟩
end DL
/-! list comprehensions of two clauses -/
namespace DL
open PySem PySem.Spec PyProof.Rows L2
section
variable {X : Cx} {W : WX} {e tg iter tg1 iter1 : Expr} {te : DT} {tt tt1 : DTB} {ti ti1 : DTI} {g g1 : DTG} {pos : Pos} {ifs ifs1 : List Expr}
def liftI (K : PySem.W.Frag) (W : WX) (t : DTI) : TI := fun σ H R => ∃ F S ad m δ Qd Ed, Core K H F S ad m ∧ SR K S ad σ δ ∧ t δ m Qd Ed ∧
  (∀ J H' F' S' ad' m' items kp, Stp F S ad F' S' ad' → Core K H' F' S' ad' m' → kp m' → ItR K J items F' S' ad' kp → Qd items kp m' → R J H') ∧ KX K F S ad Ed (fun c d H' => W c d σ H')
theorem DI.pi (h : DI X W tg iter ti) : PI X tg iter (liftI X.K W ti) := by
  obtain ⟨wi, p, h⟩ := h
  exact ⟨fun pins s σ H R I ⟨F, S, ad, m, δ, Qd, Ed, C, SRR, q, k, kx⟩ => p.run pins s σ H R I (h σ H F S ad m δ Qd Ed R C SRR q k kx)⟩
/-- one turn of the inner clause -/
def lcTurn1 (n : Nat) (δ : DEnv) (vs1 : List Nat) (g1 : DTG) (tt1 : DTB) (te : DT) (J : List DV → List DV → Store → Prop) (y : DV) (rest acc : List DV) (m : Store) : Prop :=
  g1 y (dwipe δ vs1) m fun δ3 m2 => tt1 δ3 m2 (fun b m3 => if b = true then te δ3 m3 (fun z m4 => acc.length < sizeLine ∧ WkL n (acc ++ [z]) (J rest (acc ++ [z])) m4) noE else WkL n acc (J rest acc) m3) noE
/-- one turn of the outer clause -/
def lcTurn2 (n : Nat) (δ : DEnv) (vs vs1 : List Nat) (g : DTG) (tt : DTB) (ti1 : DTI) (g1 : DTG) (tt1 : DTB) (te : DT) (I : List DV → List DV → Store → Prop) (x : DV) (rest acc : List DV) (m : Store) : Prop :=
  g x (dwipe δ vs) m fun δ2 m2 => tt δ2 m2 (fun b m3 => if b = true then ti1 δ2 m3 (fun items1 kp1 m4 => ∃ J : List DV → List DV → Store → Prop, J items1 acc m4 ∧ (∀ rest1 acc1 m', J rest1 acc1 m' → kp1 m') ∧
      (∀ y rest1 acc1 m', J (y :: rest1) acc1 m' → lcTurn1 m4.length δ2 vs1 g1 tt1 te J y rest1 acc1 m') ∧ ∀ acc1 m', J [] acc1 m' → WkL n acc1 (I rest acc1) m') noE
    else WkL n acc (I rest acc) m3) noE
abbrev dLc2 (ti : DTI) (g : DTG) (tt : DTB) (ti1 : DTI) (g1 : DTG) (tt1 : DTB) (te : DT) (vs vs1 : List Nat) : DT := fun δ m Q E => ti δ m (fun items kp m1 => ∃ I : List DV → List DV → Store → Prop, I items [] m1 ∧
  (∀ rest acc m', I rest acc m' → kp m') ∧
  (∀ x rest acc m', I (x :: rest) acc m' → lcTurn2 m1.length δ vs vs1 g tt ti1 g1 tt1 te I x rest acc m') ∧
  ∀ acc m', I [] acc m' → Q (.own m'.length) (m' ++ [.lst acc])) E
/-- the list that is being made stands at D, kept -/
def AtD (K : PySem.W.Frag) (F S : Hp) (ad : List Addr) (D : Addr) (P : List DV → Store → Prop) (H' : Hp) : Prop :=
  ∃ F' S' ad' m' acc avs, Stp F S ad F' S' ad' ∧ Core K H' F' S' ad' m' ∧ F' D = some (.lst avs) ∧ S' D = none ∧ VRs K S' ad' avs acc ∧ P acc m'
theorem AtD.keep {F2 S2 F9 S9 : Hp} {ad2 ad9 : List Addr} {D : Addr} {avs : List V} (fD : F2 D = some (.lst avs)) (sD : S2 D = none) (s9 : Stp F2 S2 ad2 F9 S9 ad9) : F9 D = some (.lst avs) ∧ S9 D = none := by
  refine ⟨s9.f D _ fD, ?_⟩
  cases q : S9 D with
  | none => rfl
  | some o => have z := s9.n D _ o fD q; rw [sD] at z; cases z
theorem SR.grw {K : PySem.W.Frag} {S S' : Hp} {ad ad' : List Addr} {σ : St} {δ : DEnv} (h : SR K S ad σ δ) (w : Grw S ad S' ad') : SR K S' ad' σ δ :=
  ⟨h.len, fun i x e => by obtain ⟨v, a, b⟩ := h.get i x e; exact ⟨v, a, b.mono w.s w.p⟩⟩
theorem lc2_run {K : PySem.W.Frag} {J : It} {items : List DV} {kp : Store → Prop} {H F S : Hp} {ad : List Addr} {m : Store} {σ : St} {δ : DEnv} {vs vs1 : List Nat} {Qd : DQ} {Q : VK} (C : Core K H F S ad m) (R : SR K S ad σ δ) (T : ItR K J items F S ad kp)
    {I : List DV → List DV → Store → Prop} (h0 : I items [] m) (hk : ∀ rest acc m', I rest acc m' → kp m') (hs : ∀ x rest acc m', I (x :: rest) acc m' → lcTurn2 m.length δ vs vs1 g tt ti1 g1 tt1 te I x rest acc m') (hd : ∀ acc m', I [] acc m' → Qd (.own m'.length) (m' ++ [.lst acc])) (kq : KQ K F S ad Qd Q) :
    ∀ D, H D = none → ∃ W : Nat → Nat → Hp → Prop, (∃ m, W 0 m (upd H D (.lst []))) ∧ ∀ i m H, W i m H →
      (J.stop i H ∧ Q (.ref D) H) ∨ (J.go i H ∧ ∃ Nx : Hp → Prop, (∀ H', Nx H' → ∃ m', m' < m ∧ W (i + 1) m' H') ∧ ∀ x H', J.yld i H x H' → liftG K vs g x (wipe σ vs) H' fun σ2 H2 => wipe σ2 vs = wipe σ vs ∧ liftT K W0 tt σ2 H2 fun b H3 =>
        if b = true then liftI K W0 ti1 σ2 H3 fun J1 H4 => ∃ W1 : Nat → Nat → Hp → Prop, (∃ m, W1 0 m H4) ∧ ∀ j k H, W1 j k H →
          (J1.stop j H ∧ Nx H) ∨ (J1.go j H ∧ ∃ Nx1 : Hp → Prop, (∀ H', Nx1 H' → ∃ k', k' < k ∧ W1 (j + 1) k' H') ∧ ∀ x H', J1.yld j H x H' → liftG K vs1 g1 x (wipe σ2 vs1) H' fun σ3 H5 => wipe σ3 vs1 = wipe σ2 vs1 ∧ liftT K W0 tt1 σ3 H5 fun b H6 =>
            if b = true then liftE K W0 te σ3 H6 fun y H7 => ∃ acc, H7 D = some (.lst acc) ∧ acc.length < sizeLine ∧ Nx1 (upd H7 D (.lst (acc ++ [y]))) else Nx1 H6)
        else Nx H3) := by
  intro D hD
  obtain ⟨C0, s0⟩ := C.keepNew (o := .lst []) hD
  have nFD : F D = none := C.noF hD
  have nSD : S D = none := C.noS nFD
  let Wf : Nat → Nat → Hp → Prop := fun i n H' => n = items.length - i ∧ i ≤ items.length ∧ AtD K F S ad D (I (items.drop i)) H'
  refine ⟨Wf, ⟨items.length - 0, rfl, Nat.zero_le _, _, S, ad, m, [], [], ⟨Ext.refl _, s0.f, Pfx.refl _, fun _ _ _ _ z => z⟩, C0, upd_same, nSD, .nil, by simpa using h0⟩, ?_⟩
  rintro i n H' ⟨en, hi, F', S', ad', m', acc, avs, s', C', fD, sD, ra, hI⟩
  obtain ⟨t_go, t_stop⟩ := T i H' F' S' ad' m' ⟨s'.s, s'.p⟩ C' (hk _ _ _ hI)
  by_cases hlt : i < items.length
  · have ed : items.drop i = items[i] :: items.drop (i + 1) := List.drop_eq_getElem_cons hlt
    obtain ⟨go, yl⟩ := t_go items[i] (List.getElem?_eq_getElem hlt)
    -- back to the outer turn, by what is given up
    have nxt : ∀ {H9 F9 S9 : Hp} {ad9 : List Addr} {m9 : Store} {acc9 : List DV} {avs9 : List V}, Stp F S ad F9 S9 ad9 → Core K H9 F9 S9 ad9 m9 → F9 D = some (.lst avs9) → S9 D = none → VRs K S9 ad9 avs9 acc9 →
        WkL m.length acc9 (I (items.drop (i + 1)) acc9) m9 → Wf (i + 1) (items.length - (i + 1)) H9 := fun {H9 F9 S9 ad9 m9 acc9 avs9} s9 C9 f9 z9 r9 w => by
      obtain ⟨m0, ad0, C7, r7, kk, hJ, hn⟩ := WkL.go w C9 r9
      exact ⟨rfl, hlt, F9, S9, ad0, m0, acc9, avs9, ⟨s9.s, s9.f, pfx_of s9.p (by rw [C.len]; exact Nat.le_refl _) kk, s9.n⟩, C7, f9, z9, r7, hJ⟩
    refine .inr ⟨go, Wf (i + 1) (items.length - (i + 1)), fun H2 w => ⟨items.length - (i + 1), by omega, w⟩, fun v H2 y => ?_⟩
    obtain ⟨F2, S2, s2, C2, rv⟩ := yl v H2 y
    rw [ed] at hI
    have R2 : SR K S2 ad' σ δ := (R.stp s').stp s2
    refine ⟨F2, S2, ad', m', items[i], dwipe δ vs, _, C2, R2.wiped vs, rv, hs _ _ _ _ hI, fun σ3 δ3 o3 R3 q3 => ⟨wipe_off o3, ?_⟩⟩
    refine ⟨F2, S2, ad', m', δ3, _, _, C2, R3, q3, fun b H4 F4 S4 ad4 m4 s4 C4 q4 => ?_, kx_no⟩
    obtain ⟨d4, e4⟩ := AtD.keep fD sD (s2.trans s4)
    have ra4 : VRs K S4 ad4 avs acc := (ra.stp s2).stp s4
    have s04 := (s'.trans s2).trans s4
    cases b with
    | false => exact nxt s04 C4 d4 e4 ra4 q4
    | true =>
      refine ⟨F4, S4, ad4, m4, δ3, _, _, C4, R3.stp s4, q4, fun J1 H5 F5 S5 ad5 m5 items1 kp1 s5 C5 hk5 T1 q5 => ?_, kx_no⟩
      obtain ⟨Jn, j0, jk, js, jd⟩ := q5
      obtain ⟨d5, e5⟩ := AtD.keep d4 e4 s5
      have R5 := (R3.stp s4).stp s5
      have s05 := s04.trans s5
      have hm5 : m.length ≤ m5.length := by
        rw [← C.len, ← C5.len]
        refine Nat.le_of_not_lt fun hlt5 => ?_
        have := s05.p ad5.length _ (List.getElem?_eq_getElem hlt5)
        rw [List.getElem?_eq_none (Nat.le_refl _)] at this
        cases this
      let W1 : Nat → Nat → Hp → Prop := fun j k H' => k = items1.length - j ∧ j ≤ items1.length ∧ ∃ F6 S6 ad6 m6 acc6 avs6, Stp F S ad F6 S6 ad6 ∧ Grw S5 ad5 S6 ad6 ∧ Core K H' F6 S6 ad6 m6 ∧ F6 D = some (.lst avs6) ∧ S6 D = none ∧ VRs K S6 ad6 avs6 acc6 ∧ Jn (items1.drop j) acc6 m6
      refine ⟨W1, ⟨items1.length - 0, rfl, Nat.zero_le _, F5, S5, ad5, m5, acc, avs, s05, ⟨Ext.refl _, Pfx.refl _⟩, C5, d5, e5, ra4.stp s5, by simpa using j0⟩, ?_⟩
      rintro j k H6 ⟨ek, hj, F6, S6, ad6, m6, acc6, avs6, s6, w6, C6, d6, e6, ra6, hJ⟩
      obtain ⟨u_go, u_stop⟩ := T1 j H6 F6 S6 ad6 m6 w6 C6 (jk _ _ _ hJ)
      by_cases hl1 : j < items1.length
      · have ed1 : items1.drop j = items1[j] :: items1.drop (j + 1) := List.drop_eq_getElem_cons hl1
        obtain ⟨go1, yl1⟩ := u_go items1[j] (List.getElem?_eq_getElem hl1)
        have nx1 : ∀ {H9 F9 S9 : Hp} {ad9 : List Addr} {m9 : Store} {acc9 : List DV} {avs9 : List V}, Stp F S ad F9 S9 ad9 → Grw S5 ad5 S9 ad9 → Core K H9 F9 S9 ad9 m9 → F9 D = some (.lst avs9) → S9 D = none → VRs K S9 ad9 avs9 acc9 →
            WkL m5.length acc9 (Jn (items1.drop (j + 1)) acc9) m9 → W1 (j + 1) (items1.length - (j + 1)) H9 := fun {H9 F9 S9 ad9 m9 acc9 avs9} s9 g9 C9 f9 z9 r9 w => by
          obtain ⟨m0, ad0, C7, r7, kk, hJ9, hn⟩ := WkL.go w C9 r9
          exact ⟨rfl, hl1, F9, S9, ad0, m0, acc9, avs9, ⟨s9.s, s9.f, pfx_of s9.p (by rw [C.len]; exact hm5) kk, s9.n⟩, ⟨g9.s, pfx_of g9.p (by rw [C5.len]; exact Nat.le_refl _) kk⟩, C7, f9, z9, r7, hJ9⟩
        refine .inr ⟨go1, W1 (j + 1) (items1.length - (j + 1)), fun H7 w => ⟨items1.length - (j + 1), by omega, w⟩, fun v1 H7 y1 => ?_⟩
        obtain ⟨F7, S7, s7, C7, rv1⟩ := yl1 v1 H7 y1
        rw [ed1] at hJ
        have R7 : SR K S7 ad6 σ3 δ3 := (R5.grw w6).stp s7
        refine ⟨F7, S7, ad6, m6, items1[j], dwipe δ3 vs1, _, C7, R7.wiped vs1, rv1, js _ _ _ _ hJ, fun σ4 δ4 o4 R8 q8 => ⟨wipe_off o4, ?_⟩⟩
        refine ⟨F7, S7, ad6, m6, δ4, _, _, C7, R8, q8, fun b H8 F8 S8 ad8 m8 s8 C8 q8 => ?_, kx_no⟩
        obtain ⟨d8, e8⟩ := AtD.keep d6 e6 (s7.trans s8)
        have ra8 : VRs K S8 ad8 avs6 acc6 := (ra6.stp s7).stp s8
        have s08 := (s6.trans s7).trans s8
        have w8 : Grw S5 ad5 S8 ad8 := ⟨w6.s.trans (s7.trans s8).s, w6.p.trans (s7.trans s8).p⟩
        cases b with
        | false => exact nx1 s08 w8 C8 d8 e8 ra8 q8
        | true =>
          refine ⟨F8, S8, ad8, m8, δ4, _, _, C8, R8.stp s8, q8, fun yv H9 F9 S9 ad9 m9 yx s9 C9 ry q9 => ?_, kx_no⟩
          obtain ⟨hsz, w⟩ := q9
          obtain ⟨d9, e9⟩ := AtD.keep d8 e8 s9
          have ra9 : VRs K S9 ad9 (avs6 ++ [yv]) (acc6 ++ [yx]) := (ra8.stp s9).append (.cons ry .nil)
          refine ⟨avs6, C9.FH D _ d9, by rw [ra8.length]; exact hsz, ?_⟩
          have s09 := s08.trans s9
          refine nx1 (F9 := upd F9 D (.lst (avs6 ++ [yv]))) ⟨s09.s, fun a u e => ?_, s09.p, s09.n⟩ ⟨w8.s.trans s9.s, w8.p.trans s9.p⟩ (C9.keepUpd (o := .lst (avs6 ++ [yv])) d9 e9) upd_same e9 ra9 w
          rw [upd_ne (ne_of_none e nFD)]
          exact s09.f a u e
      · have ej : j = items1.length := by omega
        subst ej
        rw [List.drop_length] at hJ
        exact .inl ⟨u_stop rfl, nxt s6 C6 d6 e6 ra6 (jd _ _ hJ)⟩
  · have e : i = items.length := by omega
    subst e
    rw [List.drop_length] at hI
    refine .inl ⟨t_stop rfl, ?_⟩
    let F0 : Hp := fun a => if a = D then none else F' a
    have z0 : F0 D = none := if_pos rfl
    have off : ∀ a, a ≠ D → F0 a = F' a := fun a q => if_neg q
    have f0 : Ext F0 F' := fun a u e => by
      by_cases q : a = D
      · rw [q, z0] at e; cases e
      · rw [off a q] at e; exact e
    have sF0 : Ext S' F0 := fun a u e => by rw [off a fun q => by rw [q, sD] at e; cases e]; exact C'.sF a u e
    have C8 := C'.freeE (e := .lst acc) fD sD f0 z0 sF0 ⟨z0, avs, C'.FH D _ fD, ra.mono (Ext.refl _) (Pfx.app _ _)⟩
    have s8 : Stp F S ad F0 S' (ad' ++ [D]) := ⟨s'.s, fun a u e => by rw [off a fun q => by rw [q, nFD] at e; cases e]; exact s'.f a u e, s'.p.trans (Pfx.app _ _), s'.n⟩
    refine kq _ _ _ _ _ _ _ s8 C8 (.own ?_) (hd _ _ hI)
    rw [← C'.len, List.getElem?_append_right (Nat.le_refl _)]
    simp
theorem de_lc2 {scope : Scope} (own : List (Str × Nat)) (vs1 : List Nat) (hc : X.calm = true) (hN : X.N.Nodup) (hi : DI X W tg iter ti) (ok : BlkOk X.N X.env.scope scope own) (hv : ∀ i ∈ vs1, i ∈ own.map (·.2))
    (hg : ∀ (s : Shared) (H : Hp) (C : Addr) (cl : List (Str × Addr)) (fp : List Addr), DN (X.blk s H scope (compEnvC scope cl C X.env) fp) tg (own.map (·.2)) g) (ht : ∀ (s : Shared) (H : Hp) (C : Addr) (cl : List (Str × Addr)) (fp : List Addr), DBs (X.blk s H scope (compEnvC scope cl C X.env) fp) W0 ifs tt)
    (hi1 : ∀ (s : Shared) (H : Hp) (C : Addr) (cl : List (Str × Addr)) (fp : List Addr), DI (X.blk s H scope (compEnvC scope cl C X.env) fp) W0 tg1 iter1 ti1)
    (hg1 : ∀ (s : Shared) (H : Hp) (C : Addr) (cl : List (Str × Addr)) (fp : List Addr), DN (X.blk s H scope (compEnvC scope cl C X.env) fp) tg1 vs1 g1) (ht1 : ∀ (s : Shared) (H : Hp) (C : Addr) (cl : List (Str × Addr)) (fp : List Addr), DBs (X.blk s H scope (compEnvC scope cl C X.env) fp) W0 ifs1 tt1)
    (he : ∀ (s : Shared) (H : Hp) (C : Addr) (cl : List (Str × Addr)) (fp : List Addr), DE (X.blk s H scope (compEnvC scope cl C X.env) fp) W0 e te) (hs : ∀ x, foldedSetIterable iter X.env x = pure x := by intro _; rfl) (hs1 : ∀ env x, foldedSetIterable iter1 env x = pure x := by intro _ _; rfl) :
    DE X W (.ListComp e [⟨tg, iter, ifs, 0⟩, ⟨tg1, iter1, ifs1, 0⟩] scope pos) (dLc2 ti g tt ti1 g1 tt1 te (own.map (·.2)) vs1) := by
  obtain ⟨t1, p1, h1⟩ := hi
  refine ⟨_, pe_lc2 (g := liftG X.K (own.map (·.2)) g) (tt := liftT X.K W0 tt) (te := liftE X.K W0 te) (wi1 := liftI X.K W0 ti1) (g1 := liftG X.K vs1 g1) (tt1 := liftT X.K W0 tt1) (vs1 := vs1) hc hN p1 ok hv (fun s H C cl fp => (hg s H C cl fp).pg) (fun s H C cl fp => (ht s H C cl fp).pt)
    (fun s H C cl fp => (hi1 s H C cl fp).pi) (fun s H C cl fp => (hg1 s H C cl fp).pg) (fun s H C cl fp => (ht1 s H C cl fp).pt) (fun s H C cl fp => (he s H C cl fp).pe) hs hs1, fun σ H F S ad m δ Qd Ed Q C R h kq kx => ?_⟩
  refine h1 σ H F S ad m δ _ Ed _ C R h (fun J H1 F1 S1 ad1 m1 items kp s1 C1 hk T q1 => ?_) kx
  obtain ⟨I, h0, hkp, hst, hdn⟩ := q1
  exact lc2_run C1 (R.stp s1) T h0 hkp hst hdn (kq.stp s1)
theorem ds_setLc2 (i : Nat) {y : Str} {py : Pos} {scope : Scope} (own : List (Str × Nat)) (vs1 : List Nat) {spos : Pos} (fz : (DT → DT)) (fzok : ∀ t : DT, ∀ {K : PySem.W.Frag} {H F S : Hp} {ad : List Addr} {m : Store} {δ : DEnv} {Qd : DQ} {Ed : DXK} {Q : VK}, Core K H F S ad m → fz t δ m Qd Ed → KQ K F S ad Qd Q → ∃ Qd', t δ m Qd' Ed ∧ KQ K F S ad Qd' Q) (hc : X.calm = true) (hN : X.N.Nodup) (hi : DI X W tg iter ti) (ok : BlkOk X.N X.env.scope scope own) (hv : ∀ i ∈ vs1, i ∈ own.map (·.2))
    (hg : ∀ (s : Shared) (H : Hp) (C : Addr) (cl : List (Str × Addr)) (fp : List Addr), DN (X.blk s H scope (compEnvC scope cl C X.env) fp) tg (own.map (·.2)) g) (ht : ∀ (s : Shared) (H : Hp) (C : Addr) (cl : List (Str × Addr)) (fp : List Addr), DBs (X.blk s H scope (compEnvC scope cl C X.env) fp) W0 ifs tt)
    (hi1 : ∀ (s : Shared) (H : Hp) (C : Addr) (cl : List (Str × Addr)) (fp : List Addr), DI (X.blk s H scope (compEnvC scope cl C X.env) fp) W0 tg1 iter1 ti1)
    (hg1 : ∀ (s : Shared) (H : Hp) (C : Addr) (cl : List (Str × Addr)) (fp : List Addr), DN (X.blk s H scope (compEnvC scope cl C X.env) fp) tg1 vs1 g1) (ht1 : ∀ (s : Shared) (H : Hp) (C : Addr) (cl : List (Str × Addr)) (fp : List Addr), DBs (X.blk s H scope (compEnvC scope cl C X.env) fp) W0 ifs1 tt1)
    (he : ∀ (s : Shared) (H : Hp) (C : Addr) (cl : List (Str × Addr)) (fp : List Addr), DE (X.blk s H scope (compEnvC scope cl C X.env) fp) W0 e te)
    (hsw : swapsWith (.ListComp e [⟨tg, iter, ifs, 0⟩, ⟨tg1, iter1, ifs1, 0⟩] scope pos) (some (.Name y py)) spos.line X.env = pure true := by exact sw_true rfl rfl rfl (by decide +kernel)) (hy : X.N[i]? = some y := by rfl) (hyl : X.env.scope.names.lookup y = some .local := by rfl) (hs : ∀ x, foldedSetIterable iter X.env x = pure x := by intro _; rfl) (hs1 : ∀ env x, foldedSetIterable iter1 env x = pure x := by intro _ _; rfl) :
    DS X W (.Assign [.Name y py] (.ListComp e [⟨tg, iter, ifs, 0⟩, ⟨tg1, iter1, ifs1, 0⟩] scope pos) spos) (dAsg (fz (dLc2 ti g tt ti1 g1 tt1 te (own.map (·.2)) vs1)) (hName i)) := by
  obtain ⟨t1, p1, h1⟩ := hi
  refine ⟨_, ps_setLc2 (g := liftG X.K (own.map (·.2)) g) (tt := liftT X.K W0 tt) (te := liftE X.K W0 te) (wi1 := liftI X.K W0 ti1) (g1 := liftG X.K vs1 g1) (tt1 := liftT X.K W0 tt1) (vs1 := vs1) hc hN hy hyl hsw p1 ok hv (fun s H C cl fp => (hg s H C cl fp).pg) (fun s H C cl fp => (ht s H C cl fp).pt)
    (fun s H C cl fp => (hi1 s H C cl fp).pi) (fun s H C cl fp => (hg1 s H C cl fp).pg) (fun s H C cl fp => (ht1 s H C cl fp).pt) (fun s H C cl fp => (he s H C cl fp).pe) hs hs1, fun σ H F S ad m δ D E C R h k => ?_⟩
  have kq0 : KQ X.K F S ad (fun x m1 => hName i x δ m1 D.nx) (fun v H2 => gName i v σ H2 E.nx) := fun v H2 F2 S2 ad2 m2 x s2 C2 rv q2 => k.nx _ _ _ _ _ _ _ s2 C2 ((R.stp s2).set rv i) q2
  obtain ⟨Qd', h, kq⟩ := fzok _ C h kq0
  refine h1 σ H F S ad m δ _ _ _ C R h (fun J H1 F1 S1 ad1 m1 items kp s1 C1 hk T q1 => ?_) (k.ex.at R)
  obtain ⟨I, h0, hkp, hst, hdn⟩ := q1
  exact lc2_run C1 (R.stp s1) T h0 hkp hst hdn (kq.stp s1)
theorem fz_id : ∀ t : DT, ∀ {K : PySem.W.Frag} {H F S : Hp} {ad : List Addr} {m : Store} {δ : DEnv} {Qd : DQ} {Ed : DXK} {Q : VK}, Core K H F S ad m → (fun t : DT => t) t δ m Qd Ed → KQ K F S ad Qd Q → ∃ Qd', t δ m Qd' Ed ∧ KQ K F S ad Qd' Q := fun _ {_ _ _ _ _ _ _ _ _ _} _ h k => ⟨_, h, k⟩
theorem fz_D : ∀ t : DT, ∀ {K : PySem.W.Frag} {H F S : Hp} {ad : List Addr} {m : Store} {δ : DEnv} {Qd : DQ} {Ed : DXK} {Q : VK}, Core K H F S ad m → dFrz t δ m Qd Ed → KQ K F S ad Qd Q → ∃ Qd', t δ m Qd' Ed ∧ KQ K F S ad Qd' Q := fun _ {_ _ _ _ _ _ _ _ _ _} C h k => ⟨_, h, kq_frzD C k⟩
end
end DL
/-! further operators and calls over data -/
namespace DL
open PySem PySem.Spec PyProof.Rows L2
section
variable {X : Cx} {W : WX} {a b c e o : Expr} {ta tb tc te to : DT} {tr : DTA} {pos : Pos} {es : List Expr}
theorem ds_setLcF (fz : DT → DT) (fzok : ∀ t : DT, ∀ {K : PySem.W.Frag} {H F S : Hp} {ad : List Addr} {m : Store} {δ : DEnv} {Qd : DQ} {Ed : DXK} {Q : VK}, Core K H F S ad m → fz t δ m Qd Ed → KQ K F S ad Qd Q → ∃ Qd', t δ m Qd' Ed ∧ KQ K F S ad Qd' Q)
    {tg iter : Expr} {ifs : List Expr} {ti : DTI} {g : DTG} {tt : DTB} (i : Nat) {y : Str} {py : Pos} {scope : Scope} (own : List (Str × Nat)) {spos : Pos} (hc : X.calm = true) (hN : X.N.Nodup) (hi : DI X W tg iter ti) (ok : BlkOk X.N X.env.scope scope own)
    (hg : ∀ (s : Shared) (H : Hp) (C : Addr) (cl : List (Str × Addr)) (fp : List Addr), DN (X.blk s H scope (compEnvC scope cl C X.env) fp) tg (own.map (·.2)) g) (ht : ∀ (s : Shared) (H : Hp) (C : Addr) (cl : List (Str × Addr)) (fp : List Addr), DBs (X.blk s H scope (compEnvC scope cl C X.env) fp) W0 ifs tt)
    (he : ∀ (s : Shared) (H : Hp) (C : Addr) (cl : List (Str × Addr)) (fp : List Addr), DE (X.blk s H scope (compEnvC scope cl C X.env) fp) W0 e te)
    (hsw : swapsWith (.ListComp e [⟨tg, iter, ifs, 0⟩] scope pos) (some (.Name y py)) spos.line X.env = pure true := by exact sw_true rfl rfl rfl (by decide +kernel)) (hy : X.N[i]? = some y := by rfl) (hyl : X.env.scope.names.lookup y = some .local := by rfl) (hs : ∀ x, foldedSetIterable iter X.env x = pure x := by intro _; rfl) :
    DS X W (.Assign [.Name y py] (.ListComp e [⟨tg, iter, ifs, 0⟩] scope pos) spos) (dAsg (fz (dLc ti g tt te (own.map (·.2)))) (hName i)) := by
  obtain ⟨t1, p1, h1⟩ := hi
  refine ⟨_, ps_setLc (g := liftG X.K (own.map (·.2)) g) (tt := liftT X.K W0 tt) (te := liftE X.K W0 te) hc hN hy hyl hsw p1 ok (fun s H C cl fp => (hg s H C cl fp).pg) (fun s H C cl fp => (ht s H C cl fp).pt) (fun s H C cl fp => (he s H C cl fp).pe) hs, fun σ H F S ad m δ D E C R h k => ?_⟩
  have kq0 : KQ X.K F S ad (fun x m1 => hName i x δ m1 D.nx) (fun v H2 => gName i v σ H2 E.nx) := fun v H2 F2 S2 ad2 m2 x s2 C2 rv q2 => k.nx _ _ _ _ _ _ _ s2 C2 ((R.stp s2).set rv i) q2
  obtain ⟨Qd', h, kq⟩ := fzok _ C h kq0
  refine h1 σ H F S ad m δ _ _ _ C R h (fun J H1 F1 S1 ad1 m1 items kp s1 C1 hk T q1 => ?_) (k.ex.at R)
  obtain ⟨I, h0, hkp, hst, hdn⟩ := q1
  exact lc_run C1 (R.stp s1) T h0 hkp hst hdn (kq.stp s1)
/-! ### list(text) -/
def signD (z : Str) : List PyData := z.cps.toList.map fun c => .str ⟨#[c]⟩
def signV (z : Str) : List V := z.cps.toList.map fun c => .str ⟨#[c]⟩
theorem dpa_signs {K : PySem.W.Frag} {S : Hp} (z : Str) : DpAll K S (signV z) (signD z) := by
  unfold signV signD
  induction z.cps.toList with
  | nil => exact .nil
  | cons c cs ih => exact .cons (.str _) ih
theorem vals_signs {z : Str} {acc : Array Value} (h : ItemsOf (SignAt z) acc z.cps.size) : Vals (signV z) acc.toList := by
  have go : ∀ (cs : List Nat) (us : List Value), us.length = cs.length → (∀ (j : Nat) (u : Value), us[j]? = some u → ∃ (c : Nat) (t : Tok), cs[j]? = some c ∧ u = Value.str ⟨#[c]⟩ t) → Vals (cs.map fun c => V.str ⟨#[c]⟩) us := by
    intro cs
    induction cs with
    | nil => intro us hl _; rw [List.eq_nil_of_length_eq_zero hl]; exact .nil
    | cons c cs ih =>
      intro us hl hu
      cases us with
      | nil => simp at hl
      | cons u us =>
        obtain ⟨c', t, hc, rfl⟩ := hu 0 u rfl
        cases hc
        exact .cons ⟨t, rfl⟩ (ih us (by simpa using hl) fun j v hv => hu (j + 1) v hv)
  refine go _ _ (by rw [Array.length_toList, Array.length_toList]; exact h.1) fun j u hj => ?_
  obtain ⟨c, t, hc, e⟩ := h.2 j u (by rw [← hj, Array.getElem?_toList])
  exact ⟨c, t, by rw [Array.getElem?_toList]; exact hc, e⟩
theorem call_list_text (hc : X.calm = true) : CallR X (.type "list") (fun xs H Q => ∃ z, xs = [.str z] ∧ z.length ≤ sizeLine ∧ ∀ l, H l = none → Q (.ref l) (upd H l (.lst (signV z)))) := by
  intro pins s σ H vs us Q I r h
  obtain ⟨z, rfl, hz, q⟩ := h
  obtain ⟨u, rfl, ru⟩ := r.one
  obtain ⟨t, rfl⟩ := ru
  refine call_list_str (I.ok.hd hc) z t (fun h' tk acc c' hk hS hi => ?_) hz
  have e := vals_signs hi
  refine ⟨.ref _, upd H s.heap.objs.size (.lst (signV z)), I.laid (t' := tk) hk (Nat.le_refl _) ⟨?_, acc.toList, c', e, by simpa using hS⟩, rfl, q _ (I.hok.fresh (Nat.le_refl _))⟩
  unfold signV
  rw [List.length_map, Array.length_toList]; exact hz
/-- list(x): of a list, a tuple, a text -/
def gList2 : List DV → Store → DQ → Prop := fun xs m Q => match xs with
  | [.sh (.str z)] => z.length ≤ sizeLine ∧ Q (.own m.length) (m ++ [.lst ((signD z).map .sh)])
  | [x] => (match seqA m x with
    | some ys => Q (.own m.length) (m ++ [.lst ys])
    | none => False)
  | _ => False
theorem ll_list2 {K : PySem.W.Frag} : LkA K (fun xs H Q => (∃ p ys, xs = [.ref p] ∧ (SqL K H p ys ∨ SqT K H p ys) ∧ ∀ l, H l = none → Q (.ref l) (upd H l (.lst ys))) ∨ (∃ z, xs = [.str z] ∧ z.length ≤ sizeLine ∧ ∀ l, H l = none → Q (.ref l) (upd H l (.lst (signV z))))) gList2 := by
  intro H F S ad m vs xs Qd Q C r h kq
  unfold gList2 at h
  split at h
  · rename_i z
    obtain ⟨v, rfl, rv⟩ := vrs1 r
    cases rv with
    | sh rv =>
      cases rv
      refine .inr ⟨_, rfl, h.1, fun l hl => ?_⟩
      obtain ⟨C2, s2, e2⟩ := new_lst C hl (vrs_sh (ds := signD z) (dpa_signs z))
      exact kq _ _ _ _ _ _ _ s2 C2 e2 h.2
  · split at h
    · rename_i x hx ys e
      obtain ⟨v, rfl, rv⟩ := vrs1 r
      obtain ⟨p, us, rfl, hs, rs⟩ := seqA_at C rv e
      refine .inl ⟨p, us, rfl, hs, fun l hl => ?_⟩
      obtain ⟨C2, s2, e2⟩ := new_lst C hl rs
      exact kq _ _ _ _ _ _ _ s2 C2 e2 h
    · exact h.elim
  · exact h.elim
theorem call_list2 (hc : X.calm = true := by rfl) : CallR X (.type "list") (fun xs H Q => (∃ p ys, xs = [.ref p] ∧ (SqL X.K H p ys ∨ SqT X.K H p ys) ∧ ∀ l, H l = none → Q (.ref l) (upd H l (.lst ys))) ∨ (∃ z, xs = [.str z] ∧ z.length ≤ sizeLine ∧ ∀ l, H l = none → Q (.ref l) (upd H l (.lst (signV z))))) :=
  CallR.or call_list_of (call_list_text hc)
/-! ### list(range(..)) -/
theorem vrs_rg {K : PySem.W.Frag} {S : Hp} {ad : List Addr} (lo hi : Int) : VRs K S ad (rgV lo hi) (rgD lo (hi - lo).toNat) := by
  unfold rgV rgD
  induction List.range (hi - lo).toNat with
  | nil => exact .nil
  | cons i is ih => exact .cons (.sh (.int _)) ih
abbrev dListRg2 (tr : DTA) : DT := fun δ m Q E => tr δ m (fun xs m1 => match xs with
  | [.sh (.int i), .sh (.int j)] => RgOk i j ∧ Q (.own m1.length) (m1 ++ [.lst (rgD i (j - i).toNat)])
  | _ => False) E
abbrev dListRg1 (tr : DTA) : DT := fun δ m Q E => tr δ m (fun xs m1 => match xs with
  | [.sh (.int j)] => RgOk 0 j ∧ Q (.own m1.length) (m1 ++ [.lst (rgD 0 j.toNat)])
  | _ => False) E
theorem de_listRg2 {p p2 pos2 : Pos} (hcm : X.calm = true) (hgl : Gl X "list") (hml : X.mg "list" = none) (hgr : Gl X "range") (hmr : X.mg "range" = none) (ha : DE X W a ta) (hb : DE X W b tb)
    (na : starEach [.Call (.Name "range" p2) [a, b] [] pos2] X.env = (false, eval (.Call (.Name "range" p2) [a, b] [] pos2) X.env) :: starEach [] X.env := by rfl) (na2 : starEach [a, b] X.env = (false, eval a X.env) :: starEach [b] X.env := by rfl) (na3 : starEach [b] X.env = (false, eval b X.env) :: starEach [] X.env := by rfl) (na4 : (backTo pos2 (starEach [b] X.env)).any (·.1) = false := by rfl) :
    DE X W (.Call (.Name "list" p) [.Call (.Name "range" p2) [a, b] [] pos2] [] pos) (dListRg2 (dCons ta (dCons tb dNil))) := by
  obtain ⟨t1, p1, h1⟩ := ha
  obtain ⟨t2, q2, h2⟩ := hb
  refine ⟨_, pe_listRg hcm hgl hml (prg_2 hgr hmr p1 q2 na2 na3 (hp := na4)) na, fun σ H F S ad m δ Qd Ed Q C R h kq kx => ?_⟩
  refine h1 σ H F S ad m δ _ Ed _ C R h (fun v H1 F1 S1 ad1 m1 x s1 C1 rv q1 => ?_) kx
  refine h2 σ H1 F1 S1 ad1 m1 δ _ Ed _ C1 (R.stp s1) q1 (fun u H2 F2 S2 ad2 m2 y s2 C2 ru q3 => ?_) (kx.stp s1)
  dsimp only [dNil] at q3
  split at q3
  · rename_i i j e
    cases e
    have rv2 := rv.stp s2
    cases rv2 with
    | sh rv2 =>
      cases rv2
      cases ru with
      | sh ru =>
        cases ru
        refine ⟨i, j, rfl, rfl, q3.1, fun q hq => ?_⟩
        obtain ⟨C3, s3, e3⟩ := new_lst C2 hq (vrs_rg i j)
        exact kq _ _ _ _ _ _ _ ((s1.trans s2).trans s3) C3 e3 q3.2
  · exact q3.elim
theorem de_listRg1 {p p2 pos2 : Pos} (hcm : X.calm = true) (hgl : Gl X "list") (hml : X.mg "list" = none) (hgr : Gl X "range") (hmr : X.mg "range" = none) (ha : DE X W a ta)
    (na : starEach [.Call (.Name "range" p2) [a] [] pos2] X.env = (false, eval (.Call (.Name "range" p2) [a] [] pos2) X.env) :: starEach [] X.env := by rfl) (na2 : starEach [a] X.env = (false, eval a X.env) :: starEach [] X.env := by rfl) (na4 : (backTo pos2 (starEach [] X.env)).any (·.1) = false := by rfl) :
    DE X W (.Call (.Name "list" p) [.Call (.Name "range" p2) [a] [] pos2] [] pos) (dListRg1 (dCons ta dNil)) := by
  obtain ⟨t1, p1, h1⟩ := ha
  refine ⟨_, pe_listRg hcm hgl hml (prg_1 hgr hmr p1 na2) na, fun σ H F S ad m δ Qd Ed Q C R h kq kx => ?_⟩
  refine h1 σ H F S ad m δ _ Ed _ C R h (fun v H1 F1 S1 ad1 m1 x s1 C1 rv q3 => ?_) kx
  dsimp only [dNil] at q3
  split at q3
  · rename_i j e
    cases e
    cases rv with
    | sh rv =>
      cases rv
      refine ⟨j, rfl, q3.1, fun q hq => ?_⟩
      have r := vrs_rg (K := X.K) (S := S1) (ad := ad1) 0 j
      rw [Int.sub_zero] at r
      obtain ⟨C3, s3, e3⟩ := new_lst C1 hq r
      exact kq _ _ _ _ _ _ _ (s1.trans s3) C3 e3 q3.2
  · exact q3.elim
/-! ### text * number -/
def strMul (x : Str) (n : Int) : Str := ⟨((List.replicate n.toNat x.cps.toList).flatten).toArray⟩
theorem fold_app : ∀ (n : Nat) (x acc : Array Nat), ((List.replicate n x).foldl (· ++ ·) acc).toList = acc.toList ++ (List.replicate n x.toList).flatten
  | 0, x, acc => by simp
  | n + 1, x, acc => by rw [List.replicate_succ, List.foldl_cons, fold_app n x, List.replicate_succ, List.flatten_cons, Array.toList_append, List.append_assoc]
theorem strMul_fold (x : Str) (n : Int) : (⟨(List.replicate n.toNat x.cps).foldl (· ++ ·) #[]⟩ : Str) = strMul x n := by
  unfold strMul
  congr 1
  apply Array.toList_inj.mp
  rw [fold_app, List.toList_toArray]
  rfl
theorem op_mul_text : OpR X (binaryOp .Mult) (fun x y H Q => ∃ z n, x = .str z ∧ y = .int n ∧ (-1000000 < n ∧ n < 1000000 ∧ z.length * n.toNat ≤ sizeLine) ∧ Q (.str (strMul z n)) H) := by
  intro pins s σ H x y v u Q I rx ry h
  obtain ⟨z, n, rfl, rfl, ⟨h1, h2, h3⟩, q⟩ := h
  obtain ⟨t, rfl⟩ := rx
  obtain ⟨t', rfl⟩ := ry
  have hz : z.length * n.toNat ≤ 16777216 := by rw [← PySem.sizeLine_eq]; exact h3
  refine P.mul_str (by rw [decide_eq_false (by omega), decide_eq_false (by omega)]; rfl) (fun a b => ?_) (fun a b => decide_eq_false (by rw [PySem.sizeLine_eq]; omega)) ?_
  · have hn : (0 : Int) < n := by omega
    refine Int.not_lt.mpr ?_
    rw [Int.le_ediv_iff_mul_le hn]
    have : ((z.length * n.toNat : Nat) : Int) = (z.length : Int) * n := by rw [Int.natCast_mul, Int.toNat_of_nonneg (by omega)]
    omega
  · by_cases c1 : n < 1
    · rw [if_pos c1]
      have e : strMul z n = Str.empty := by unfold strMul; rw [Int.toNat_of_nonpos (by omega)]; rfl
      rw [e] at q
      exact ⟨by decide, ⟨.str _, H, I.tok _, ⟨_, rfl⟩, q⟩⟩
    · rw [if_neg c1]
      by_cases c2 : (n == 1 || z.length == 0) = true
      · rw [if_pos c2]
        have e : strMul z n = z := by
          unfold strMul
          rcases Bool.or_eq_true_iff.mp c2 with c | c
          · have : n = 1 := by simpa using c
            subst this
            show (⟨((List.replicate 1 z.cps.toList).flatten).toArray⟩ : Str) = z
            simp
          · have c : z.length = 0 := by simpa using c
            have c' : z.cps.toList = [] := List.eq_nil_of_length_eq_zero (by rw [Array.length_toList]; exact c)
            rw [c']
            have : z = ⟨#[]⟩ := by cases z with | mk cs => congr; exact Array.toList_inj.mp c'
            rw [this]; simp
        rw [e] at q
        exact ⟨.str _, H, I, ⟨t, rfl⟩, q⟩
      · rw [if_neg c2]
        rw [strMul_fold]
        refine ⟨?_, ⟨.str _, H, I.tok _, ⟨_, rfl⟩, q⟩⟩
        show (strMul z n).cps.size ≤ sizeLine
        unfold strMul
        rw [List.size_toArray]
        simp [List.length_flatten, List.map_replicate, List.sum_replicate_nat]
        have : z.cps.size = z.length := rfl
        rw [this, Nat.mul_comm]; exact h3
/-! ### sorted, by trees -/
def sortD (ds : List PyData) : List PyData := ds.mergeSort (PySem.W.dataLe false id)
def rSortedD (K : PySem.W.Frag) : List V → Hp → VK → Prop := fun xs H Q => ∃ S l us ds, Ext S H ∧ xs = [.ref l] ∧ SqL K H l us ∧ DpAll K S us ds ∧ PySem.W.AllAlike ds ∧ PySem.W.Sortable ds ∧ PyData.depthAll ds ≤ 50 ∧
  ∀ vs p, DpAll K S vs (sortD ds) → H p = none → Q (.ref p) (upd H p (.lst vs))
theorem each_pair {K : PySem.W.Frag} {H : Hp} : ∀ {us : List V} {its : List Value} {ds : List PyData}, Vals us its → DpAll K H us ds → PySem.W.EachIs (fun v d => ∃ u, RelV u v ∧ Dp K H u d) its ds
  | _, _, _, .nil, .nil => .nil
  | _, _, _, .cons r rs, .cons d ds => .cons ⟨_, r, d⟩ (each_pair rs ds)
theorem pair_each {K : PySem.W.Frag} {H : Hp} : ∀ {its : List Value} {ds : List PyData}, PySem.W.EachIs (fun v d => ∃ u, RelV u v ∧ Dp K H u d) its ds → ∃ us, Vals us its ∧ DpAll K H us ds
  | _, _, .nil => ⟨[], .nil, .nil⟩
  | _, _, .cons ⟨u, r, d⟩ t => by
    obtain ⟨us, rs, ds⟩ := pair_each t
    exact ⟨u :: us, .cons r rs, .cons d ds⟩
theorem depth_le : ∀ {ds : List PyData} {d : PyData}, d ∈ ds → d.depth ≤ PyData.depthAll ds
  | e :: ds, d, h => by
    unfold PyData.depthAll
    rcases List.mem_cons.mp h with q | q
    · subst q; omega
    · have := depth_le q; omega
theorem cr_sortedD {k : Nat} (hr : RoomG k X.A) : CallR X (.builtin "sorted") (rSortedD X.K) := by
  intro pins s σ H vs us Q I r h
  obtain ⟨S, l, ws, ds, up, rfl, hS, hD, al, so, dp, q⟩ := h
  obtain ⟨u, rfl, ru⟩ := r.one
  cases ru
  obtain ⟨its, rv, pl, hz⟩ := I.list hS
  have e := each_pair rv hD
  have er : PySem.W.EachIs (fun v d => ∃ as, Reads s.heap v (id d) as) its ds := e.mono fun v d ⟨u, r, hd⟩ => Dp.reads I d u v (dp_ext up hd) r
  have len : its.length = ds.length := e.length
  have hun := hr.r.units
  refine PySem.W.sorted_data (enc := id) pl.isList e er (by rw [List.map_id]; exact al) (by rw [List.map_id]; exact so) (by rw [← len, ← rv.length]; exact hz) (fun d hd => ?_) fun out ho eo => ?_
  · have := depth_le hd
    show X.A.units + 2 + d.depth < cLine
    omega
  · obtain ⟨vs, ov, od⟩ := pair_each eo
    obtain ⟨ep, he'⟩ := PyProof.Rows.sortedAll_at s.heap its out.toArray
    have hlen : vs.length ≤ sizeLine := by rw [ov.length, ho, ← len, ← rv.length]; exact hz
    exact ⟨.ref _, upd H (s.heap.objs.size + 1) (.lst vs), I.laid (t' := s.toks) (fun _ _ => PyProof.Rows.sortedAll_old) (Nat.le_succ _) ⟨hlen, out, ep, ov, he'⟩, rfl, q _ _ od (I.hok.fresh (Nat.le_succ _))⟩
/-- sorted(x), x a list of trees -/
def gSorted : List DV → Store → DQ → Prop := fun xs m Q => match xs with
  | [x] => ∃ ds : List PyData, seqL m x = some (ds.map .sh) ∧ PySem.W.AllAlike ds ∧ PySem.W.Sortable ds ∧ PyData.depthAll ds ≤ 50 ∧ Q (.own m.length) (m ++ [.lst ((sortD ds).map .sh)])
  | _ => False
theorem ll_sorted {K : PySem.W.Frag} : LkA K (rSortedD K) gSorted := by
  intro H F S ad m vs xs Qd Q C r h kq
  unfold gSorted at h
  split at h
  · rename_i x
    obtain ⟨ds, e, al, so, dp, q⟩ := h
    obtain ⟨v, rfl, rv⟩ := vrs1 r
    obtain ⟨p, us, rfl, hs, rs⟩ := seqL_at C rv e
    have up := C.sF.trans C.FH
    have dd := sh_vrs rs
    refine ⟨S, p, us, ds, up, rfl, hs, dd, al, so, dp, fun ws l hw hl => ?_⟩
    obtain ⟨C2, s2, e2⟩ := new_lst C hl (vrs_sh hw)
    exact kq _ _ _ _ _ _ _ s2 C2 e2 q
  · exact h.elim
/-! ### sep.join(texts) -/
def allS : List DV → Option (List Str)
  | [] => some []
  | .sh (.str x) :: r => (match allS r with
    | some xs => some (x :: xs)
    | none => none)
  | _ => none
theorem allS_map : ∀ xs : List Str, allS (xs.map fun x => .sh (.str x)) = some xs
  | [] => rfl
  | x :: xs => by
    show (match allS (xs.map fun x => .sh (.str x)) with
    | some ys => some (x :: ys)
    | none => none) = some (x :: xs)
    rw [allS_map xs]
theorem allS_at {K : PySem.W.Frag} {S : Hp} {ad : List Addr} : ∀ {xs : List DV} {zs : List Str} {vs : List V}, allS xs = some zs → VRs K S ad vs xs → vs = zs.map V.str
  | [], zs, vs, h, r => by cases h; cases r; rfl
  | x :: xs, zs, vs, h, r => by
    cases r with
    | cons r rr =>
      unfold allS at h
      split at h
      · rename_i e; cases e
      · rename_i y ys e
        cases e
        split at h
        · rename_i ws e2
          cases h
          rw [allS_at e2 rr]
          cases r with
          | sh r => cases r; rfl
        · cases h
      · cases h
abbrev dJoin (ta tb : DT) : DT := fun δ m Q E => ta δ m (fun x m1 => match x with
  | .sh (.str a) => tb δ m1 (fun y m2 => match seqA m2 y with
    | some ys => (match allS ys with
      | some zs => (zs.map (·.length)).sum + zs.length * a.length ≤ 16777216 ∧ Q (.sh (.str (Txt.join a zs))) m2
      | none => False)
    | none => False) E
  | _ => False) E
theorem de_join {apos : Pos} (ha : DE X W o to) (hb : DE X W e te) (hs : starEach [e] X.env = [(false, eval e X.env)] := by rfl) (hbase : attributeBase o "join" X.env (eval o X.env) = eval o X.env := by rfl) (hline : (apos.endLine == pos.line) = true := by rfl) :
    DE X W (.Call (.Attribute o "join" apos) [e] [] pos) (dJoin to te) := by
  obtain ⟨t1, p1, h1⟩ := ha
  obtain ⟨t2, p2, h2⟩ := hb
  refine ⟨_, pe_join p1 p2 hs hbase hline, fun σ H F S ad m δ Qd Ed Q C R h kq kx => ?_⟩
  refine h1 σ H F S ad m δ _ Ed _ C R h (fun v H1 F1 S1 ad1 m1 x s1 C1 rv q1 => ?_) kx
  split at q1
  · rename_i a
    cases rv with
    | sh rv =>
      cases rv
      refine ⟨⟨_, rfl⟩, ?_⟩
      refine h2 σ H1 F1 S1 ad1 m1 δ _ Ed _ C1 (R.stp s1) q1 (fun u H2 F2 S2 ad2 m2 y s2 C2 ru q2 => ?_) (kx.stp s1)
      split at q2
      · rename_i ys e1
        split at q2
        · rename_i zs e2
          obtain ⟨p, us, rfl, hs, rs⟩ := seqA_at C2 ru e1
          have := allS_at e2 rs
          subst this
          exact ⟨a, p, zs, rfl, rfl, hs, q2.1, kq _ _ _ _ _ _ _ (s1.trans s2) C2 (.sh (.str _)) q2.2⟩
        · exact q2.elim
      · exact q2.elim
  · exact q1.elim
def gMulS : DV → DV → Store → DQ → Prop := fun x y m Q => match x, y with
  | .sh (.str z), .sh (.int n) => (-1000000 < n ∧ n < 1000000 ∧ z.length * n.toNat ≤ sizeLine) ∧ Q (.sh (.str (strMul z n))) m
  | _, _ => False
theorem ll_mulS {K : PySem.W.Frag} : Lk2 K (fun x y H Q => ∃ z n, x = .str z ∧ y = .int n ∧ (-1000000 < n ∧ n < 1000000 ∧ z.length * n.toNat ≤ sizeLine) ∧ Q (.str (strMul z n)) H) gMulS := by
  intro H F S ad m v u x y Qd Q C rx ry h kq
  unfold gMulS at h
  split at h
  · cases rx with
    | sh rx =>
      cases rx
      cases ry with
      | sh ry =>
        cases ry
        exact ⟨_, _, rfl, rfl, h.1, kq _ _ _ _ _ _ _ (Stp.refl _ _ _) C (.sh (.str _)) h.2⟩
  · exact h.elim
theorem de_mulS (ha : DE X W a ta) (hb : DE X W b tb) : DE X W (.BinOp a .Mult b pos) (dBin gMulS ta tb) := de_op op_mul_text ll_mulS ha hb
end
end DL
/-! new lists that are trees from their beginning -/
namespace DL
open PySem PySem.Spec PyProof.Rows L2
theorem frz_new {K : PySem.W.Frag} {H F S : Hp} {ad : List Addr} {m : Store} {p : Addr} {vs : List V} {ds : List PyData} {Qd : DQ} {Q : VK} (C : Core K H F S ad m) (hp : H p = none) (r : VRs K S ad vs (ds.map .sh)) (kq : KQ K F S ad Qd Q) (q : Qd (.sh (.list ds)) m) : Q (.ref p) (upd H p (.lst vs)) := by
  obtain ⟨C2, s2⟩ := C.shared (o := .lst vs) hp
  exact kq _ _ _ _ _ _ _ s2 C2 (.sh (.lst (SqL.of upd_same) (dpa_ext s2.s (sh_vrs r)))) q
/-- a list of trees -/
abbrev lstF (xs : List DV) (m : Store) (Q : DQ) : Prop := match allSh xs with
  | some ds => Q (.sh (.list ds)) m
  | none => False
theorem lstF_new {K : PySem.W.Frag} {H F S : Hp} {ad : List Addr} {m : Store} {p : Addr} {vs : List V} {xs : List DV} {Qd : DQ} {Q : VK} (C : Core K H F S ad m) (hp : H p = none) (r : VRs K S ad vs xs) (kq : KQ K F S ad Qd Q) (q : lstF xs m Qd) : Q (.ref p) (upd H p (.lst vs)) := by
  unfold lstF at q
  split at q
  · rename_i ds e
    have e := allSh_eq e
    subst e
    exact frz_new C hp r kq q
  · exact q.elim
theorem lstF_map {ds : List PyData} {m : Store} {Q : DQ} (q : Q (.sh (.list ds)) m) : lstF (ds.map .sh) m Q := by
  unfold lstF; rw [allSh_map]; exact q
section
variable {X : Cx} {W : WX} {a b c e o : Expr} {ta tb tc te to : DT} {tr : DTA} {pos : Pos} {es : List Expr}
abbrev dLstF (tr : DTA) : DT := fun δ m Q E => tr δ m (fun xs m1 => Nat.ble xs.length sizeLine = true ∧ lstF xs m1 Q) E
theorem de_lstF (h : DA X W es tr) : DE X W (.List es pos) (dLstF tr) := by
  obtain ⟨t1, p1, h1⟩ := h
  refine ⟨_, pe_lst p1, fun σ H F S ad m δ Qd Ed Q C R hh kq kx => ?_⟩
  refine h1 σ H F S ad m δ _ Ed _ C R hh (fun vs H1 F1 S1 ad1 m1 xs s1 C1 rs q1 => ?_) kx
  exact ⟨by rw [rs.length]; exact Nat.le_of_ble_eq_true q1.1, fun p hp => lstF_new C1 hp rs (kq.stp s1) q1.2⟩
/-! ### + -/
def rCatL (K : PySem.W.Frag) : R2 := fun x y H Q => ∃ l b xs zs, x = .ref l ∧ y = .ref b ∧ SqL K H l xs ∧ SqL K H b zs ∧ xs.length + zs.length ≤ sizeLine ∧ ∀ p, H p = none → Q (.ref p) (upd H p (.lst (xs ++ zs)))
theorem op_catL : OpR X (binaryOp .Add) (rCatL X.K) := by
  intro pins t ρ H x y v u Q I rx ry h
  obtain ⟨l, b, xs, zs, rfl, rfl, h1, h2, hz, q⟩ := h
  cases rx
  cases ry
  obtain ⟨is, r1, p1, _⟩ := I.list h1
  obtain ⟨js, r2, p2, _⟩ := I.list h2
  obtain ⟨⟨c1, d1, dt1, sl1⟩, g1, hc1, n1, hd1⟩ := id p1.isList
  obtain ⟨⟨c2, d2, dt2, sl2⟩, g2, hc2, n2, hd2⟩ := id p2.isList
  simp only at hc1 hd1 hc2 hd2
  subst hc1 hd1 hc2 hd2
  have hs : is.toArray.size + js.toArray.size ≤ sizeLine := by rw [List.size_toArray, List.size_toArray, ← r1.length, ← r2.length]; exact hz
  have both : is.toArray ++ js.toArray = (is ++ js).toArray := by simp
  refine concat_meets ⟨_, g1, rfl⟩ ⟨_, g2, rfl⟩ noFill_list_add seq_list_add PySem.F.slot_list_add PySem.F.entry_list_add (PySem.F.args_list_add_2 _ _)
    (PyProof.Rows.list_addW l b is.toArray js.toArray n1 n2 d1 d2 sl1 sl2 hs) ⟨g1, g2, ?_⟩
  rw [both]
  exact ⟨V.ref t.heap.objs.size, upd H t.heap.objs.size (.lst (xs ++ zs)), I.lnew (t' := t.toks) (r1.append r2) (by rw [List.length_append]; exact hz), rfl, q _ I.fresh⟩
def gAddF : DV → DV → Store → DQ → Prop := fun x y m Q => match x, y with
  | .sh (.int i), .sh (.int j) => Q (.sh (.int (i + j))) m
  | .sh (.str s), .sh (.str t) => Nat.ble (s.length + t.length) sizeLine = true ∧ Q (.sh (.str (s ++ t))) m
  | .sh (.tuple s), .sh (.tuple t) => Nat.ble (s.length + t.length) sizeLine = true ∧ Q (.sh (.tuple (s ++ t))) m
  | .sh (.list s), .sh (.list t) => Nat.ble (s.length + t.length) sizeLine = true ∧ Q (.sh (.list (s ++ t))) m
  | x, y => (match seqT x, seqT y with
    | some xs, some ys => Nat.ble (xs.length + ys.length) sizeLine = true ∧ Q (mkTup (xs ++ ys)) m
    | _, _ => (match seqL m x, seqL m y with
      | some xs, some ys => Nat.ble (xs.length + ys.length) sizeLine = true ∧ lstF (xs ++ ys) m Q
      | _, _ => False))
def rAddF (K : PySem.W.Frag) : R2 := fun x y H Q => rAddA K x y H Q ∨ rCatL K x y H Q
theorem ll_addF {K : PySem.W.Frag} : Lk2 K (rAddF K) gAddF := by
  intro H F S ad m v u x y Qd Q C rv ru q kq
  have lists : ∀ {xs ys : List DV}, seqL m x = some xs → seqL m y = some ys → Nat.ble (xs.length + ys.length) sizeLine = true → lstF (xs ++ ys) m Qd → rCatL K v u H Q := fun {xs ys} ex ey hz hq => by
    obtain ⟨l, vs, rfl, hs, rs⟩ := seqL_at C rv ex
    obtain ⟨b, us, rfl, hs', rs'⟩ := seqL_at C ru ey
    exact ⟨l, b, vs, us, rfl, rfl, hs, hs', by rw [rs.length, rs'.length]; exact Nat.le_of_ble_eq_true hz, fun p hp => lstF_new C hp (rs.append rs') kq hq⟩
  unfold gAddF at q
  split at q
  · exact .inl (ll_add H F S ad m v u _ _ Qd Q C rv ru q kq)
  · exact .inl (ll_add H F S ad m v u _ _ Qd Q C rv ru q kq)
  · exact .inl (ll_add H F S ad m v u _ _ Qd Q C rv ru q kq)
  · rename_i s t
    exact .inr (lists (xs := s.map .sh) (ys := t.map .sh) rfl rfl (by rw [List.length_map, List.length_map]; exact q.1) (by rw [← List.map_append]; exact lstF_map q.2))
  · split at q
    · rename_i xs ys ex ey
      obtain ⟨l, vs, e1, h1, d1⟩ := seqT_at rv ex
      obtain ⟨b, us, e2, h2, d2⟩ := seqT_at ru ey
      subst e1; subst e2
      refine .inl (.inr (.inr (.inl (cat_tup C h1 h2 (by rw [d1.length, d2.length]; exact Nat.le_of_ble_eq_true q.1) (fun e => ?_) (fun e => ?_) (fun a S' h s => vr_mkTup h ((d1.mono s (Pfx.refl _)).append (d2.mono s (Pfx.refl _)))) q.2 kq))))
      · subst e; cases d1; exact vr_mkTup h2 (by simpa using d2)
      · subst e; cases d2; exact vr_mkTup h1 (by simpa using d1)
    · split at q
      · rename_i xs ys ex ey
        exact .inr (lists ex ey q.1 q.2)
      · exact q.elim
theorem de_addF (ha : DE X W a ta) (hb : DE X W b tb) : DE X W (.BinOp a .Add b pos) (dBin gAddF ta tb) := de_op (OpR.or lo_add op_catL) ll_addF ha hb
/-! ### [x] * n -/
abbrev dRepF (tr : DTA) (tb : DT) : DT := fun δ m Q E => tr δ m (fun xs m1 => Nat.ble xs.length sizeLine = true ∧ tb δ m1 (fun y m2 => match allSh xs, y with
  | some ds, .sh (.int n) => (-(2 ^ 63) ≤ n ∧ n < 2 ^ 63) ∧ Nat.ble (ds.length * n.toNat) sizeLine = true ∧ Q (.sh (.list (List.replicate n.toNat ds).flatten)) m2
  | _, _ => False) E) E
theorem rep_map (f : PyData → DV) (ds : List PyData) : ∀ n, (List.replicate n (ds.map f)).flatten = (List.replicate n ds).flatten.map f
  | 0 => by simp
  | n + 1 => by rw [List.replicate_succ, List.replicate_succ, List.flatten_cons, List.flatten_cons, List.map_append, rep_map f ds n]
theorem de_repF {pos2 : Pos} (ha : DA X W es tr) (hb : DE X W b tb) : DE X W (.BinOp (.List es pos2) .Mult b pos) (dRepF tr tb) := by
  obtain ⟨t1, p1, h1⟩ := ha
  obtain ⟨t2, p2, h2⟩ := hb
  refine ⟨_, pe_op op_rep (pe_lst p1) p2, fun σ H F S ad m δ Qd Ed Q C R hh kq kx => ?_⟩
  refine h1 σ H F S ad m δ _ Ed _ C R hh (fun vs H1 F1 S1 ad1 m1 xs s1 C1 rs q1 => ?_) kx
  refine ⟨by rw [rs.length]; exact Nat.le_of_ble_eq_true q1.1, fun p hp => ?_⟩
  obtain ⟨C2, s2⟩ := C1.keepNew (o := .lst vs) hp
  refine h2 σ _ _ S1 ad1 m1 δ _ Ed _ C2 (R.stp (s1.trans s2)) q1.2 (fun v H3 F3 S3 ad3 m3 y s3 C3 rv q3 => ?_) (kx.stp (s1.trans s2))
  split at q3
  · rename_i ds n e
    have e := allSh_eq e
    subst e
    have hp3 := C3.FH p _ (s3.f p _ upd_same)
    refine ⟨p, n, vs, rfl, vr_int rv, hp3, q3.1.1, q3.1.2, by rw [rs.length, List.length_map]; exact Nat.le_of_ble_eq_true q3.2.1, fun p2 hp2 => ?_⟩
    refine frz_new C3 hp2 ?_ (kq.stp ((s1.trans s2).trans s3)) q3.2.2
    have r := vrs_rep ((rs.stp s2).stp s3) n.toNat
    rw [rep_map] at r
    exact r
  · exact q3.elim
/-! ### list(..), sorted(..), slices -/
def gListF : List DV → Store → DQ → Prop := fun xs m Q => match xs with
  | [.sh (.str z)] => z.length ≤ sizeLine ∧ Q (.sh (.list (signD z))) m
  | [x] => (match seqA m x with
    | some ys => lstF ys m Q
    | none => False)
  | _ => False
theorem ll_listF {K : PySem.W.Frag} : LkA K (fun xs H Q => (∃ p ys, xs = [.ref p] ∧ (SqL K H p ys ∨ SqT K H p ys) ∧ ∀ l, H l = none → Q (.ref l) (upd H l (.lst ys))) ∨ (∃ z, xs = [.str z] ∧ z.length ≤ sizeLine ∧ ∀ l, H l = none → Q (.ref l) (upd H l (.lst (signV z))))) gListF := by
  intro H F S ad m vs xs Qd Q C r h kq
  unfold gListF at h
  split at h
  · rename_i z
    obtain ⟨v, rfl, rv⟩ := vrs1 r
    cases rv with
    | sh rv =>
      cases rv
      exact .inr ⟨_, rfl, h.1, fun l hl => frz_new C hl (vrs_sh (ds := signD z) (dpa_signs z)) kq h.2⟩
  · split at h
    · rename_i x hx ys e
      obtain ⟨v, rfl, rv⟩ := vrs1 r
      obtain ⟨p, us, rfl, hs, rs⟩ := seqA_at C rv e
      exact .inl ⟨p, us, rfl, hs, fun l hl => lstF_new C hl rs kq h⟩
    · exact h.elim
  · exact h.elim
def gSortedF : List DV → Store → DQ → Prop := fun xs m Q => match xs with
  | [.sh (.list ds)] => PySem.W.AllAlike ds ∧ PySem.W.Sortable ds ∧ PyData.depthAll ds ≤ 50 ∧ Q (.sh (.list (sortD ds))) m
  | [x] => (match seqL m x with
    | some ys => (match allSh ys with
      | some ds => PySem.W.AllAlike ds ∧ PySem.W.Sortable ds ∧ PyData.depthAll ds ≤ 50 ∧ Q (.sh (.list (sortD ds))) m
      | none => False)
    | none => False)
  | _ => False
theorem ll_sortedF {K : PySem.W.Frag} : LkA K (rSortedD K) gSortedF := by
  intro H F S ad m vs xs Qd Q C r h kq
  have go : ∀ {x : DV} {ds : List PyData}, xs = [x] → seqL m x = some (ds.map .sh) → PySem.W.AllAlike ds ∧ PySem.W.Sortable ds ∧ PyData.depthAll ds ≤ 50 ∧ Qd (.sh (.list (sortD ds))) m → rSortedD K vs H Q := fun {x ds} ex e hq => by
    subst ex
    obtain ⟨v, rfl, rv⟩ := vrs1 r
    obtain ⟨p, us, rfl, hs, rs⟩ := seqL_at C rv e
    exact ⟨S, p, us, ds, C.sF.trans C.FH, rfl, hs, sh_vrs rs, hq.1, hq.2.1, hq.2.2.1, fun ws l hw hl => frz_new C hl (vrs_sh hw) kq hq.2.2.2⟩
  unfold gSortedF at h
  split at h
  · exact go rfl rfl h
  · split at h
    · rename_i ys e
      split at h
      · rename_i ds e2
        have e2 := allSh_eq e2
        subst e2
        exact go rfl e h
      · exact h.elim
    · exact h.elim
  · exact h.elim
def gCutF (x : DV) (lo hi : Option Int) (m : Store) (Q : DQ) : Prop := match x with
  | .sh (.str s) => Nat.ble s.length sizeLine = true ∧ Q (.sh (.str (cutS s lo hi))) m
  | .sh (.tuple ds) => Q (.sh (.tuple (cut ds lo hi))) m
  | .sh (.list ds) => Q (.sh (.list (cut ds lo hi))) m
  | .tup xs => Q (mkTup (cut xs lo hi)) m ∧ (HT.sIx xs.length 0 lo = 0 → HT.sIx xs.length xs.length hi = xs.length → mkTup (cut xs lo hi) = mkTup xs)
  | x => (match seqL m x with
    | some xs => lstF (cut xs lo hi) m Q
    | none => False)
theorem ll_cutF {K : PySem.W.Frag} {H F S : Hp} {ad : List Addr} {m : Store} {v : V} {x : DV} {lo hi : Option Int} {Qd : DQ} {Q : VK} (C : Core K H F S ad m) (rv : VR K S ad v x) (q : gCutF x lo hi m Qd) (kq : KQ K F S ad Qd Q) : rCutA K v lo hi H Q := by
  have lists : ∀ {xs : List DV}, seqL m x = some xs → lstF (cut xs lo hi) m Qd → rCutA K v lo hi H Q := fun {xs} ex hq => by
    obtain ⟨p, vs, rfl, hs, hr⟩ := seqL_at C rv ex
    exact .inl ⟨p, vs, rfl, hs, fun l hl => lstF_new C hl (vrs_cut hr lo hi) kq hq⟩
  unfold gCutF at q
  split at q
  · exact ll_cut C rv q kq
  · exact ll_cut C rv q kq
  · rename_i ds
    exact lists (xs := ds.map .sh) rfl (by rw [cut_map]; exact lstF_map q)
  · exact ll_cut C rv q kq
  · split at q
    · rename_i xs ex
      exact lists ex q
    · exact q.elim
abbrev dCutF (ta : DT) (tl th : DTO) : DT := fun δ m Q E => ta δ m (fun x m1 => tl δ m1 (fun lo m2 => th δ m2 (fun hi m3 => gCutF x lo hi m3 Q) E) E) E
theorem de_cutF {lo hi : Option Expr} {tl th : DTO} {p2 : Pos} (ha : DE X W a ta) (hl : DO X W lo tl) (hh : DO X W hi th) : DE X W (.Subscript a (.Slice lo hi none p2) pos) (dCutF ta tl th) := by
  obtain ⟨t0, p0, h0⟩ := ha
  obtain ⟨t1, p1, h1⟩ := hl
  obtain ⟨t2, q2, h2⟩ := hh
  refine ⟨_, pe_slice (r := rCutA X.K) (sl_list.or (sl_tupA.or sl_str)) p0 p1 q2, fun σ H F S ad m δ Qd Ed Q C R h kq kx => ?_⟩
  refine h0 σ H F S ad m δ _ Ed _ C R h (fun v H1 F1 S1 ad1 m1 x s1 C1 rv k1 => ?_) kx
  refine h1 σ H1 F1 S1 ad1 m1 δ _ Ed _ C1 (R.stp s1) k1 (fun i H2 F2 S2 ad2 m2 s2 C2 k2 => ?_) (kx.stp s1)
  refine h2 σ H2 F2 S2 ad2 m2 δ _ Ed _ C2 (R.stp (s1.trans s2)) k2 (fun j H3 F3 S3 ad3 m3 s3 C3 k3 => ?_) (kx.stp (s1.trans s2))
  exact ll_cutF C3 (rv.stp (s2.trans s3)) k3 (kq.stp ((s1.trans s2).trans s3))
def rgI (lo : Int) (n : Nat) : List PyData := (List.range n).map fun (i : Nat) => .int (lo + (i : Int))
theorem rgD_rgI (lo : Int) (n : Nat) : rgD lo n = (rgI lo n).map .sh := by unfold rgD rgI; rw [List.map_map]; rfl
theorem rgI_len (lo : Int) (n : Nat) : (rgI lo n).length = n := by unfold rgI; rw [List.length_map, List.length_range]
abbrev dListRg2F (tr : DTA) : DT := fun δ m Q E => tr δ m (fun xs m1 => match xs with
  | [.sh (.int i), .sh (.int j)] => RgOk i j ∧ Q (.sh (.list (rgI i (j - i).toNat))) m1
  | _ => False) E
abbrev dListRg1F (tr : DTA) : DT := fun δ m Q E => tr δ m (fun xs m1 => match xs with
  | [.sh (.int j)] => RgOk 0 j ∧ Q (.sh (.list (rgI 0 j.toNat))) m1
  | _ => False) E
theorem de_listRg2F {p p2 pos2 : Pos} (hcm : X.calm = true) (hgl : Gl X "list") (hml : X.mg "list" = none) (hgr : Gl X "range") (hmr : X.mg "range" = none) (ha : DE X W a ta) (hb : DE X W b tb)
    (na : starEach [.Call (.Name "range" p2) [a, b] [] pos2] X.env = (false, eval (.Call (.Name "range" p2) [a, b] [] pos2) X.env) :: starEach [] X.env := by rfl) (na2 : starEach [a, b] X.env = (false, eval a X.env) :: starEach [b] X.env := by rfl) (na3 : starEach [b] X.env = (false, eval b X.env) :: starEach [] X.env := by rfl) (na4 : (backTo pos2 (starEach [b] X.env)).any (·.1) = false := by rfl) :
    DE X W (.Call (.Name "list" p) [.Call (.Name "range" p2) [a, b] [] pos2] [] pos) (dListRg2F (dCons ta (dCons tb dNil))) := by
  obtain ⟨t1, p1, h1⟩ := ha
  obtain ⟨t2, q2, h2⟩ := hb
  refine ⟨_, pe_listRg hcm hgl hml (prg_2 hgr hmr p1 q2 na2 na3 (hp := na4)) na, fun σ H F S ad m δ Qd Ed Q C R h kq kx => ?_⟩
  refine h1 σ H F S ad m δ _ Ed _ C R h (fun v H1 F1 S1 ad1 m1 x s1 C1 rv q1 => ?_) kx
  refine h2 σ H1 F1 S1 ad1 m1 δ _ Ed _ C1 (R.stp s1) q1 (fun u H2 F2 S2 ad2 m2 y s2 C2 ru q3 => ?_) (kx.stp s1)
  dsimp only [dNil] at q3
  split at q3
  · rename_i i j e
    cases e
    refine ⟨i, j, vr_int (rv.stp s2), vr_int ru, q3.1, fun q hq => ?_⟩
    have r := vrs_rg (K := X.K) (S := S2) (ad := ad2) i j
    rw [rgD_rgI] at r
    exact frz_new C2 hq r (kq.stp (s1.trans s2)) q3.2
  · exact q3.elim
theorem de_listRg1F {p p2 pos2 : Pos} (hcm : X.calm = true) (hgl : Gl X "list") (hml : X.mg "list" = none) (hgr : Gl X "range") (hmr : X.mg "range" = none) (ha : DE X W a ta)
    (na : starEach [.Call (.Name "range" p2) [a] [] pos2] X.env = (false, eval (.Call (.Name "range" p2) [a] [] pos2) X.env) :: starEach [] X.env := by rfl) (na2 : starEach [a] X.env = (false, eval a X.env) :: starEach [] X.env := by rfl) (na4 : (backTo pos2 (starEach [] X.env)).any (·.1) = false := by rfl) :
    DE X W (.Call (.Name "list" p) [.Call (.Name "range" p2) [a] [] pos2] [] pos) (dListRg1F (dCons ta dNil)) := by
  obtain ⟨t1, p1, h1⟩ := ha
  refine ⟨_, pe_listRg hcm hgl hml (prg_1 hgr hmr p1 na2) na, fun σ H F S ad m δ Qd Ed Q C R h kq kx => ?_⟩
  refine h1 σ H F S ad m δ _ Ed _ C R h (fun v H1 F1 S1 ad1 m1 x s1 C1 rv q3 => ?_) kx
  dsimp only [dNil] at q3
  split at q3
  · rename_i j e
    cases e
    refine ⟨j, vr_int rv, q3.1, fun q hq => ?_⟩
    have r := vrs_rg (K := X.K) (S := S1) (ad := ad1) 0 j
    rw [Int.sub_zero, rgD_rgI] at r
    exact frz_new C1 hq r (kq.stp s1) q3.2
  · exact q3.elim
end
end DL
/-! ways through readings -/
namespace DL
open PySem PySem.Spec PyProof.Rows L2
/-! ### calls of defs with a small store -/
theorem locS_pure {f : LSpec} {ys : List DV} {m : Store} {Q : DQ} {E : DXK} (hy : ∀ y ∈ ys, ∃ d, y = .sh d) (h : f ys [] (lrQ m Q) (fun x => E x m)) : locS f ys m Q E := by
  refine ⟨[], [], ys, List.nodup_nil, rfl, fun i k e => by simp at e, fun i e h => by simp at h, ?_, fun y m => ?_, h⟩
  · conv => lhs; rw [← List.map_id ys]
    refine List.map_congr_left fun y m => ?_
    obtain ⟨d, rfl⟩ := hy y m; rfl
  · obtain ⟨d, rfl⟩ := hy y m; trivial
theorem locS_p1 {f : LSpec} {a : PyData} {m : Store} {Q : DQ} {E : DXK} (h : f [.sh a] [] (lrQ m Q) (fun x => E x m)) : locS f [.sh a] m Q E := locS_pure (by simp) h
theorem locS_p2 {f : LSpec} {a b : PyData} {m : Store} {Q : DQ} {E : DXK} (h : f [.sh a, .sh b] [] (lrQ m Q) (fun x => E x m)) : locS f [.sh a, .sh b] m Q E := locS_pure (by simp) h
theorem locS_p3 {f : LSpec} {a b c : PyData} {m : Store} {Q : DQ} {E : DXK} (h : f [.sh a, .sh b, .sh c] [] (lrQ m Q) (fun x => E x m)) : locS f [.sh a, .sh b, .sh c] m Q E := locS_pure (by simp) h
theorem locS_p4 {f : LSpec} {a b c d : PyData} {m : Store} {Q : DQ} {E : DXK} (h : f [.sh a, .sh b, .sh c, .sh d] [] (lrQ m Q) (fun x => E x m)) : locS f [.sh a, .sh b, .sh c, .sh d] m Q E := locS_pure (by simp) h
theorem locS_ent {f : LSpec} {k : Nat} {e : Ent} {ys : List DV} {m : Store} {Q : DQ} {E : DXK} (hk : m[k]? = some e) (fl : e.flat) (hy : ∀ y ∈ ys, ∃ d, y = .sh d) (h : f (.own 0 :: ys) [e] (lrQ m Q) (fun x => E x m)) : locS f (.own k :: ys) m Q E := by
  refine ⟨[k], [e], .own 0 :: ys, by simp, rfl, fun i j q => ?_, fun i u q => ?_, ?_, fun y hm => ?_, h⟩
  · cases i with
    | zero => cases q; exact ⟨hk, (List.getElem?_eq_some_iff.mp hk).1⟩
    | succ i => simp at q
  · cases i with
    | zero => cases q; exact fl
    | succ i => simp at q
  · rw [List.map_cons]
    congr 1
    conv => lhs; rw [← List.map_id ys]
    refine List.map_congr_left fun y m => ?_
    obtain ⟨d, rfl⟩ := hy y m; rfl
  · rcases List.mem_cons.mp hm with rfl | hm
    · exact Nat.zero_lt_one
    · obtain ⟨d, rfl⟩ := hy y hm; trivial
theorem locS_e1 {f : LSpec} {k : Nat} {e : Ent} {m : Store} {Q : DQ} {E : DXK} (hk : m[k]? = some e) (fl : e.flat) (h : f [.own 0] [e] (lrQ m Q) (fun x => E x m)) : locS f [.own k] m Q E := locS_ent hk fl (by simp) h
theorem locS_e2 {f : LSpec} {k : Nat} {e : Ent} {a : PyData} {m : Store} {Q : DQ} {E : DXK} (hk : m[k]? = some e) (fl : e.flat) (h : f [.own 0, .sh a] [e] (lrQ m Q) (fun x => E x m)) : locS f [.own k, .sh a] m Q E := locS_ent hk fl (by simp) h
theorem locS_e3 {f : LSpec} {k : Nat} {e : Ent} {a b : PyData} {m : Store} {Q : DQ} {E : DXK} (hk : m[k]? = some e) (fl : e.flat) (h : f [.own 0, .sh a, .sh b] [e] (lrQ m Q) (fun x => E x m)) : locS f [.own k, .sh a, .sh b] m Q E := locS_ent hk fl (by simp) h
theorem locS_e4 {f : LSpec} {k : Nat} {e : Ent} {a b c : PyData} {m : Store} {Q : DQ} {E : DXK} (hk : m[k]? = some e) (fl : e.flat) (h : f [.own 0, .sh a, .sh b, .sh c] [e] (lrQ m Q) (fun x => E x m)) : locS f [.own k, .sh a, .sh b, .sh c] m Q E := locS_ent hk fl (by simp) h
/-! ### stores without inner names -/
theorem Ent.flat.sc {e : Ent} (h : e.flat) (n : Nat) : e.sc n := by
  have kv : ∀ {κ : Type} {l : List (κ × DV)}, shs l → kvsc n l := fun {κ l} h p hp => by obtain ⟨d, e⟩ := h p hp; rw [e]; trivial
  cases e with
  | lst xs => obtain ⟨ds, rfl⟩ := h; exact scs_sh n ds
  | dK l => exact kv h
  | dT l => exact kv h
  | fK l => exact kv h
  | fT l => exact kv h
  | ins C l => exact kv h
  | exc C l => exact kv h
  | drw q => trivial
  | frz d => trivial
  | gone => trivial
theorem scp_flat {m : Store} (h : ∀ e ∈ m, e.flat) : Scp m := fun k e hk => (h e (List.mem_of_getElem? hk)).sc _
theorem scp_nil : Scp [] := scp_flat (by simp)
theorem scp_one {e : Ent} (h : e.flat) : Scp [e] := scp_flat (by simpa using h)
theorem scp_two {e u : Ent} (h : e.flat) (g : u.flat) : Scp [e, u] := scp_flat (by simp [h, g])
/-! ### for -/
theorem wk0 {n : Nat} {I : DEnv → Store → Prop} {δ : DEnv} {m : Store} (h : I δ m) (hn : n ≤ m.length) : WkI n I δ m := ⟨δ, m, .same (fun _ _ z => z) rfl rfl, hn, h⟩
theorem r_for {ti : DTI} {g : DTG} {tb : DTS} {D : DEnds} {δ : DEnv} {m : Store} {items : List DV} {kp : Store → Prop} (I : List DV → DEnv → Store → Prop)
    (hi : ∀ Q' : List DV → (Store → Prop) → Store → Prop, Q' items kp m → ti δ m Q' (fun x m1 => D.ex x δ m1)) (hk : ∀ rest δ' m', I rest δ' m' → kp m' ∧ m.length ≤ m'.length) (h0 : I items δ m)
    (turn : ∀ x rest δ' m', I (x :: rest) δ' m' → ∀ K : DEnv → Store → Prop, (∀ δ2 m2, WkI m.length (I rest) δ2 m2 → K δ2 m2) → g x δ' m' (fun δ2 m2 => tb { D with nx := K, ct := K, bk := D.nx } δ2 m2))
    (done : ∀ δ' m', I [] δ' m' → D.nx δ' m') : dFor ti g tb D δ m :=
  hi _ ⟨I, wk0 h0 (Nat.le_refl _), hk, fun x rest δ' m' h => turn x rest δ' m' h _ fun _ _ z => z, done⟩
/-- .. the store stands -/
theorem r_forC {ti : DTI} {g : DTG} {tb : DTS} {D : DEnds} {δ : DEnv} {m : Store} {items : List DV} (I : List DV → DEnv → Prop)
    (hi : ∀ Q' : List DV → (Store → Prop) → Store → Prop, (∀ kp : Store → Prop, kp m → Q' items kp m) → ti δ m Q' (fun x m1 => D.ex x δ m1)) (h0 : I items δ)
    (turn : ∀ x rest δ', I (x :: rest) δ' → ∀ K : DEnv → Store → Prop, (∀ δ2, I rest δ2 → K δ2 m) → g x δ' m (fun δ2 m2 => tb { D with nx := K, ct := K, bk := D.nx } δ2 m2))
    (done : ∀ δ', I [] δ' → D.nx δ' m) : dFor ti g tb D δ m := by
  refine hi _ fun kp hk => ⟨fun rest δ' m' => m' = m ∧ I rest δ', wk0 ⟨rfl, h0⟩ (Nat.le_refl _), ?_, ?_, ?_⟩
  · rintro rest δ' m' ⟨rfl, _⟩; exact ⟨hk, Nat.le_refl _⟩
  · rintro x rest δ' m' ⟨rfl, h⟩
    exact turn x rest δ' h _ fun δ2 h2 => wk0 ⟨rfl, h2⟩ (Nat.le_refl _)
  · rintro δ' m' ⟨rfl, h⟩
    exact done δ' h
/-- .. a fold: the state s in the environment, what else is there j -/
theorem r_fold {α S J : Type} (enc : α → DV) (env : S → J → DEnv) (step : S → α → S) (Inv : List α → S → Prop) {as : List α} {s0 : S} {j0 : J} {ti : DTI} {g : DTG} {tb : DTS} {D : DEnds} {m : Store}
    (hi : ∀ Q' : List DV → (Store → Prop) → Store → Prop, (∀ kp : Store → Prop, kp m → Q' (as.map enc) kp m) → ti (env s0 j0) m Q' (fun x m1 => D.ex x (env s0 j0) m1)) (h0 : Inv as s0)
    (turn : ∀ a rest s j, Inv (a :: rest) s → ∀ K : DEnv → Store → Prop, (∀ j', Inv rest (step s a) → K (env (step s a) j') m) → g (enc a) (env s j) m (fun δ2 m2 => tb { D with nx := K, ct := K, bk := D.nx } δ2 m2))
    (done : ∀ j, Inv [] (as.foldl step s0) → D.nx (env (as.foldl step s0) j) m) : dFor ti g tb D (env s0 j0) m := by
  refine r_forC (items := as.map enc) (fun rest δ' => ∃ bs s j, rest = bs.map enc ∧ δ' = env s j ∧ Inv bs s ∧ bs.foldl step s = as.foldl step s0) hi ⟨as, s0, j0, rfl, rfl, h0, rfl⟩ ?_ ?_
  · rintro x rest δ' ⟨bs, s, j, e, rfl, hI, hf⟩ K hK
    cases bs with
    | nil => cases e
    | cons b bs =>
      cases e
      exact turn b bs s j hI K fun j' h' => hK _ ⟨bs, step s b, j', rfl, rfl, h', hf⟩
  · rintro δ' ⟨bs, s, j, e, rfl, hI, hf⟩
    cases bs with
    | cons b bs => cases e
    | nil =>
      have hf : s = as.foldl step s0 := hf
      subst hf
      exact done j hI
/-! ### comprehensions -/
theorem paired_app {α β : Type} {R : α → β → Prop} : ∀ {as bs : List α} {xs ys : List β}, Paired R as xs → Paired R bs ys → Paired R (as ++ bs) (xs ++ ys)
  | _, _, _, _, .nil, h => h
  | _, _, _, _, .cons r t, h => .cons r (paired_app t h)
theorem r_lc0 {α : Type} (enc : α → DV) (R : α → Option PyData → Prop) {as : List α} {ti : DTI} {g : DTG} {tt : DTB} {te : DT} {vs : List Nat} {δ : DEnv} {m : Store} {Q : DQ} {E : DXK}
    (hi : ∀ Q' : List DV → (Store → Prop) → Store → Prop, (∀ kp : Store → Prop, kp m → Q' (as.map enc) kp m) → ti δ m Q' E) (hn : as.length ≤ 16777216)
    (turn : ∀ a ∈ as, ∀ (Y : DQ) (N : Store → Prop), (∀ d, R a (some d) → Y (.sh d) m) → (R a none → N m) → g (enc a) (dwipe δ vs) m fun δ2 m2 => tt δ2 m2 (fun b m3 => if b = true then te δ2 m3 Y noE else N m3) noE)
    (q : ∀ os, Paired R as os → Q (.own m.length) (m ++ [.lst ((os.filterMap id).map .sh)])) : dLc ti g tt te vs δ m Q E := by
  refine hi _ fun kp hk => ⟨fun rest acc m' => m' = m ∧ ∃ pre bs os, as = pre ++ bs ∧ rest = bs.map enc ∧ acc = (os.filterMap id).map .sh ∧ Paired R pre os, ⟨rfl, [], as, [], rfl, rfl, rfl, .nil⟩, ?_, ?_, ?_⟩
  · rintro rest acc m' ⟨rfl, _⟩; exact hk
  · rintro x rest acc m' ⟨rfl, pre, bs, os, ea, er, rfl, hp⟩
    cases bs with
    | nil => cases er
    | cons b bs =>
      cases er
      have hl : ((os.filterMap id).map DV.sh).length < sizeLine := by
        have h1 : (os.filterMap id).length ≤ os.length := List.length_filterMap_le _ _
        have h2 : pre.length = os.length := by
          clear ea
          induction hp with
          | nil => rfl
          | cons _ _ ih => simp only [List.length_cons]; rw [ih (Nat.le_trans (List.length_filterMap_le _ _) (Nat.le_refl _))]
        rw [List.length_map, PySem.sizeLine_eq]
        rw [ea, List.length_append, List.length_cons] at hn
        omega
      refine turn b (by rw [ea]; simp) _ _ (fun d hd => ⟨hl, .inl ⟨Nat.le_refl _, rfl, pre ++ [b], bs, os ++ [some d], by rw [ea]; simp, rfl, by simp, paired_app hp (.cons hd .nil)⟩⟩) fun h => .inl ⟨Nat.le_refl _, rfl, pre ++ [b], bs, os ++ [none], by rw [ea]; simp, rfl, by simp, paired_app hp (.cons h .nil)⟩
  · rintro acc m' ⟨rfl, pre, bs, os, ea, er, rfl, hp⟩
    cases bs with
    | cons b bs => cases er
    | nil =>
      rw [List.append_nil] at ea
      subst ea
      exact q os hp
theorem r_lcG {α : Type} (enc : α → DV) (R : α → Option PyData → Prop) {as : List α} {ti : DTI} {g : DTG} {tt : DTB} {te : DT} {vs : List Nat} {δ : DEnv} {m : Store} {Q : DQ} {E : DXK}
    (hi : ∀ Q' : List DV → (Store → Prop) → Store → Prop, (∀ kp : Store → Prop, kp m → Q' (as.map enc) kp m) → ti δ m Q' E) (hn : as.length ≤ 16777216)
    (turn : ∀ a ∈ as, ∀ (Y : DQ) (N : Store → Prop), (∀ d, R a (some d) → Y (.sh d) m) → (R a none → N m) → g (enc a) (dwipe δ vs) m fun δ2 m2 => tt δ2 m2 (fun b m3 => if b = true then te δ2 m3 Y noE else N m3) noE)
    (q : ∀ os, Paired R as os → Q (.sh (.list (os.filterMap id))) m) : dFrz (dLc ti g tt te vs) δ m Q E :=
  r_lc0 enc R hi hn turn fun os h => ⟨m, _, rfl, rfl, .inl rfl, q os h⟩
theorem paired_fun {α : Type} (p : α → Bool) (f : α → PyData) : ∀ {as : List α} {os : List (Option PyData)}, Paired (fun a o => (p a = true ∧ o = some (f a)) ∨ (p a = false ∧ o = none)) as os → os.filterMap id = (as.filter p).map f
  | [], _, .nil => rfl
  | a :: as, _, .cons r t => by
    rcases r with ⟨h, rfl⟩ | ⟨h, rfl⟩
    · rw [List.filter_cons, if_pos h, List.map_cons, ← paired_fun p f t]; rfl
    · rw [List.filter_cons, if_neg (by rw [h]; exact Bool.false_ne_true), ← paired_fun p f t]; rfl
/-- what the turns give is known -/
theorem r_lcM {α : Type} (enc : α → DV) (p : α → Bool) (f : α → PyData) {as : List α} {ti : DTI} {g : DTG} {tt : DTB} {te : DT} {vs : List Nat} {δ : DEnv} {m : Store} {Q : DQ} {E : DXK}
    (hi : ∀ Q' : List DV → (Store → Prop) → Store → Prop, (∀ kp : Store → Prop, kp m → Q' (as.map enc) kp m) → ti δ m Q' E) (hn : as.length ≤ 16777216)
    (turn : ∀ a ∈ as, ∀ (Y : DQ) (N : Store → Prop), (p a = true → Y (.sh (f a)) m) → (p a = false → N m) → g (enc a) (dwipe δ vs) m fun δ2 m2 => tt δ2 m2 (fun b m3 => if b = true then te δ2 m3 Y noE else N m3) noE)
    (q : Q (.sh (.list ((as.filter p).map f))) m) : dFrz (dLc ti g tt te vs) δ m Q E := by
  refine r_lcG enc (fun a o => (p a = true ∧ o = some (f a)) ∨ (p a = false ∧ o = none)) hi hn (fun a ha Y N hY hN => turn a ha Y N (fun h => hY _ (.inl ⟨h, rfl⟩)) fun h => hN (.inr ⟨h, rfl⟩)) fun os h => ?_
  rw [paired_fun p f h]; exact q
theorem r_lcM1 {α : Type} (enc : α → DV) (f : α → PyData) {as : List α} {ti : DTI} {g : DTG} {te : DT} {vs : List Nat} {δ : DEnv} {m : Store} {Q : DQ} {E : DXK}
    (hi : ∀ Q' : List DV → (Store → Prop) → Store → Prop, (∀ kp : Store → Prop, kp m → Q' (as.map enc) kp m) → ti δ m Q' E) (hn : as.length ≤ 16777216)
    (turn : ∀ a ∈ as, ∀ Y : DQ, Y (.sh (f a)) m → g (enc a) (dwipe δ vs) m fun δ2 m2 => te δ2 m2 Y noE) (q : Q (.sh (.list (as.map f))) m) : dFrz (dLc ti g dYes te vs) δ m Q E := by
  refine r_lcM enc (fun _ => true) f hi hn (fun a ha Y N hY hN => ?_) ?_
  · show g (enc a) (dwipe δ vs) m fun δ2 m2 => te δ2 m2 Y noE
    exact turn a ha Y (hY rfl)
  · have e : as.filter (fun _ => true) = as := List.filter_eq_self.mpr fun _ _ => rfl
    rw [e]; exact q
theorem paired_some {α : Type} {R : α → PyData → Prop} : ∀ {as : List α} {os : List (Option PyData)}, Paired (fun a o => ∃ d, o = some d ∧ R a d) as os → Paired R as (os.filterMap id)
  | _, _, .nil => .nil
  | _, _, .cons ⟨d, e, r⟩ t => by subst e; exact .cons r (paired_some t)
/-- .. is any of some -/
theorem r_lcR {α : Type} (enc : α → DV) (R : α → PyData → Prop) {as : List α} {ti : DTI} {g : DTG} {te : DT} {vs : List Nat} {δ : DEnv} {m : Store} {Q : DQ} {E : DXK}
    (hi : ∀ Q' : List DV → (Store → Prop) → Store → Prop, (∀ kp : Store → Prop, kp m → Q' (as.map enc) kp m) → ti δ m Q' E) (hn : as.length ≤ 16777216)
    (turn : ∀ a ∈ as, ∀ Y : DQ, (∀ d, R a d → Y (.sh d) m) → g (enc a) (dwipe δ vs) m fun δ2 m2 => te δ2 m2 Y noE) (q : ∀ ds, Paired R as ds → Q (.sh (.list ds)) m) : dFrz (dLc ti g dYes te vs) δ m Q E := by
  refine r_lcG enc (fun a o => ∃ d, o = some d ∧ R a d) hi hn (fun a ha Y N hY hN => ?_) fun os h => q _ (paired_some h)
  show g (enc a) (dwipe δ vs) m fun δ2 m2 => te δ2 m2 Y noE
  exact turn a ha Y fun d hd => hY d ⟨d, rfl, hd⟩
/-- two clauses, no tests -/
theorem r_lc2 {α β : Type} (enc : α → DV) (enc1 : α → β → DV) (inner : α → List β) (f : α → β → PyData) (env : α → DEnv) {as : List α} {ti ti1 : DTI} {g g1 : DTG} {te : DT} {vs vs1 : List Nat} {δ : DEnv} {m : Store} {Q : DQ} {E : DXK}
    (hi : ∀ Q' : List DV → (Store → Prop) → Store → Prop, (∀ kp : Store → Prop, kp m → Q' (as.map enc) kp m) → ti δ m Q' E) (hn : (as.flatMap inner).length ≤ 16777216)
    (hg : ∀ a ∈ as, ∀ T : DEnv → Store → Prop, T (env a) m → g (enc a) (dwipe δ vs) m T)
    (hi1 : ∀ a ∈ as, ∀ Q' : List DV → (Store → Prop) → Store → Prop, (∀ kp : Store → Prop, kp m → Q' ((inner a).map (enc1 a)) kp m) → ti1 (env a) m Q' noE)
    (turn : ∀ a ∈ as, ∀ b ∈ inner a, ∀ Y : DQ, Y (.sh (f a b)) m → g1 (enc1 a b) (dwipe (env a) vs1) m fun δ3 m3 => te δ3 m3 Y noE)
    (q : Q (.own m.length) (m ++ [.lst ((as.flatMap fun a => (inner a).map (f a)).map .sh)])) : dLc2 ti g dYes ti1 g1 dYes te vs vs1 δ m Q E := by
  have lenF : ∀ bs : List α, (bs.flatMap fun a => (inner a).map (f a)).length = (bs.flatMap inner).length := fun bs => by
    induction bs with
    | nil => rfl
    | cons b bs ih => rw [List.flatMap_cons, List.flatMap_cons, List.length_append, List.length_append, ih, List.length_map]
  refine hi _ fun kp hk => ⟨fun rest acc m' => m' = m ∧ ∃ pre bs, as = pre ++ bs ∧ rest = bs.map enc ∧ acc = (pre.flatMap fun a => (inner a).map (f a)).map .sh, ⟨rfl, [], as, rfl, rfl, rfl⟩, ?_, ?_, ?_⟩
  · rintro rest acc m' ⟨rfl, _⟩; exact hk
  · rintro x rest acc m' ⟨rfl, pre, bs, ea, er, rfl⟩
    cases bs with
    | nil => cases er
    | cons b bs =>
      cases er
      have hb : b ∈ as := by rw [ea]; simp
      refine hg b hb _ ?_
      show ti1 (env b) m' _ noE
      refine hi1 b hb _ fun kp1 hk1 => ⟨fun rest1 acc1 m2 => m2 = m' ∧ ∃ pre1 cs, inner b = pre1 ++ cs ∧ rest1 = cs.map (enc1 b) ∧ acc1 = ((pre.flatMap fun a => (inner a).map (f a)) ++ pre1.map (f b)).map .sh, ⟨rfl, [], inner b, rfl, rfl, by simp⟩, ?_, ?_, ?_⟩
      · rintro rest1 acc1 m2 ⟨rfl, _⟩; exact hk1
      · rintro y rest1 acc1 m2 ⟨rfl, pre1, cs, ei, er1, rfl⟩
        cases cs with
        | nil => cases er1
        | cons c cs =>
          cases er1
          show g1 (enc1 b c) (dwipe (env b) vs1) m2 fun δ3 m3 => te δ3 m3 _ noE
          refine turn b hb c (by rw [ei]; simp) _ ⟨?_, .inl ⟨Nat.le_refl _, rfl, pre1 ++ [c], cs, by rw [ei]; simp, rfl, by simp⟩⟩
          rw [List.length_map, List.length_append, List.length_map, lenF, PySem.sizeLine_eq]
          rw [ea, List.flatMap_append, List.flatMap_cons, List.length_append, List.length_append, ei, List.length_append, List.length_cons] at hn
          omega
      · rintro acc1 m2 ⟨rfl, pre1, cs, ei, er1, rfl⟩
        cases cs with
        | cons c cs => cases er1
        | nil =>
          rw [List.append_nil] at ei
          subst ei
          exact .inl ⟨Nat.le_refl _, rfl, pre ++ [b], bs, by rw [ea]; simp, rfl, by simp⟩
  · rintro acc m' ⟨rfl, pre, bs, ea, er, rfl⟩
    cases bs with
    | cons b bs => cases er
    | nil =>
      rw [List.append_nil] at ea
      subst ea
      exact q
/-! ### tests -/
theorem r_ite {A B : Prop} {c : Bool} (h1 : c = true → A) (h2 : c = false → B) : if c = true then A else B := ifT h1 h2
theorem r_ift {A B : Prop} {c : Bool} (h : c = true) (a : A) : if c = true then A else B := by rw [if_pos h]; exact a
theorem r_iff {A B : Prop} {c : Bool} (h : c = false) (b : B) : if c = true then A else B := by rw [if_neg (by rw [h]; exact Bool.false_ne_true)]; exact b
/-! ### what is walked -/
section
variable {δ : DEnv} {m : Store} {te : DT} {tr : DTA} {E : DXK} {Q : List DV → (Store → Prop) → Store → Prop}
theorem it_list {ds : List PyData} (ht : ∀ Q' : DQ, Q' (.sh (.list ds)) m → te δ m Q' E) (q : ∀ kp : Store → Prop, kp m → Q (ds.map .sh) kp m) : dISeq te δ m Q E := dISeq_A ht rfl q
theorem it_tuple {ds : List PyData} (ht : ∀ Q' : DQ, Q' (.sh (.tuple ds)) m → te δ m Q' E) (q : ∀ kp : Store → Prop, kp m → Q (ds.map .sh) kp m) : dISeq te δ m Q E := dISeq_A ht rfl q
theorem it_own {k : Nat} {xs : List DV} (ht : ∀ Q' : DQ, Q' (.own k) m → te δ m Q' E) (h : m[k]? = some (.lst xs)) (q : ∀ kp : Store → Prop, kp m → Q xs kp m) : dISeq te δ m Q E := dISeq_A (x := .own k) ht (by unfold seqA seqT; exact seqL_own h) q
theorem it_rng1 {n : Int} (ht : ∀ Q' : List DV → Store → Prop, Q' [.sh (.int n)] m → tr δ m Q' E) (h : -(2 ^ 62) ≤ n ∧ n < 2 ^ 62) (q : ∀ kp : Store → Prop, kp m → Q (((List.range n.toNat).map fun (i : Nat) => (i : Int)).map fun i => .sh (.int i)) kp m) : dIRng1 tr δ m Q E := by
  refine ht _ ⟨h, ?_⟩
  have := q (fun _ => True) trivial
  unfold rgD
  rw [List.map_map] at this
  have e : (fun (i : Nat) => DV.sh (.int ((0 : Int) + (i : Int)))) = (fun (i : Int) => DV.sh (.int i)) ∘ fun (i : Nat) => (i : Int) := by funext i; simp
  rw [e]; exact this
theorem it_rng2 {i j : Int} (ht : ∀ Q' : List DV → Store → Prop, Q' [.sh (.int i), .sh (.int j)] m → tr δ m Q' E) (h : -(2 ^ 62) ≤ i ∧ i < 2 ^ 62 ∧ -(2 ^ 62) ≤ j ∧ j < 2 ^ 62) (q : ∀ kp : Store → Prop, kp m → Q (((List.range (j - i).toNat).map fun (k : Nat) => i + (k : Int)).map fun i => .sh (.int i)) kp m) : dIRng2 tr δ m Q E := by
  refine ht _ ⟨h, ?_⟩
  have := q (fun _ => True) trivial
  unfold rgD
  rwa [List.map_map] at this
end
theorem rtl_b {b : Store} {Q : LQ} {d : PyData} {n : Nat} (q : Q (.v d)) : RtQ n (RtL b Q) (.sh d) b := by
  have := rtl_v (b := b) (t := []) (n := n) q
  rwa [List.append_nil] at this
/-! ### == of ground trees -/
mutual
/-- no bools, no dicts -/
def gnd : PyData → Bool
  | .none => true
  | .int _ => true
  | .str x => PyData.strOk x
  | .list xs => gndL xs
  | .tuple xs => gndL xs
  | _ => false
def gndL : List PyData → Bool
  | [] => true
  | x :: xs => gnd x && gndL xs
end
mutual
theorem eqv_gnd : ∀ {d e : PyData}, gnd d = true → gnd e = true → (PyData.eqv d e = true ↔ d = e)
  | .none, e, _, h => by cases e <;> simp_all [PyData.eqv, gnd]
  | .int i, e, _, h => by cases e <;> simp_all [PyData.eqv, gnd]
  | .str x, e, _, h => by cases e <;> simp_all [PyData.eqv, gnd]
  | .list xs, e, g, h => by
    cases e with
    | list ys => simp only [PyData.eqv, PyData.list.injEq]; exact eqvAll_gnd (by simpa [gnd] using g) (by simpa [gnd] using h)
    | _ => simp_all [PyData.eqv, gnd]
  | .tuple xs, e, g, h => by
    cases e with
    | tuple ys => simp only [PyData.eqv, PyData.tuple.injEq]; exact eqvAll_gnd (by simpa [gnd] using g) (by simpa [gnd] using h)
    | _ => simp_all [PyData.eqv, gnd]
  | .bool b, _, g, _ => by simp [gnd] at g
  | .dict _, _, g, _ => by simp [gnd] at g
theorem eqvAll_gnd : ∀ {ds es : List PyData}, gndL ds = true → gndL es = true → (PyData.eqvAll ds es = true ↔ ds = es)
  | [], [], _, _ => by simp [PyData.eqvAll]
  | [], _ :: _, _, _ => by simp [PyData.eqvAll]
  | _ :: _, [], _, _ => by simp [PyData.eqvAll]
  | d :: ds, e :: es, g, h => by
    simp only [gndL, Bool.and_eq_true] at g h
    simp only [PyData.eqvAll, Bool.and_eq_true, List.cons.injEq]
    rw [eqv_gnd g.1 h.1, eqvAll_gnd g.2 h.2]
end
mutual
theorem canLay_gnd : ∀ {d : PyData}, gnd d = true → PyData.canLay0 d = true
  | .none, _ => rfl
  | .int _, _ => rfl
  | .str x, g => by unfold PyData.canLay0; simpa [gnd] using g
  | .list xs, g => by unfold PyData.canLay0; exact canLayAll_gnd (by simpa [gnd] using g)
  | .tuple xs, g => by unfold PyData.canLay0; exact canLayAll_gnd (by simpa [gnd] using g)
  | .bool _, g => by simp [gnd] at g
  | .dict _, g => by simp [gnd] at g
theorem canLayAll_gnd : ∀ {ds : List PyData}, gndL ds = true → PyData.canLayAll0 ds = true
  | [], _ => by simp [PyData.canLayAll0]
  | d :: ds, g => by
    simp only [gndL, Bool.and_eq_true] at g
    simp only [PyData.canLayAll0, Bool.and_eq_true]
    exact ⟨canLay_gnd g.1, canLayAll_gnd g.2⟩
end
theorem gEq_gnd {d e : PyData} {m : Store} {neg : Bool} {Q : DQ} (hd : gnd d = true) (he : gnd e = true) (dd : d.depth ≤ 64) (de : e.depth ≤ 64) (q : ∀ b : Bool, (b = true ↔ d = e) → Q (.sh (.bool (if neg then !b else b))) m) : gEq neg (.sh d) (.sh e) m Q := by
  have gen : (SeqAt.shaped d = true ∧ SeqAt.shaped e = true) ∧ Q (.sh (.bool (if neg then !PyData.eqv d e else PyData.eqv d e))) m := by
    refine ⟨⟨?_, ?_⟩, q _ (eqv_gnd hd he)⟩
    · unfold SeqAt.shaped; rw [canLay_gnd hd, decide_eq_true dd]; rfl
    · unfold SeqAt.shaped; rw [canLay_gnd he, decide_eq_true de]; rfl
  unfold gEq
  split
  · rename_i i j e1 e2
    cases e1; cases e2
    exact q (decide (i = j)) (by simp)
  · rename_i i j e1 e2
    cases e1; cases e2
    exact q (decide (i = j)) (by simp)
  · rename_i i j e1 e2
    cases e1; cases e2
    simp [gnd] at hd
  · have h1 : dat m deep (.sh d) = some d := dat_sh _ _ _
    have h2 : dat m deep (.sh e) = some e := dat_sh _ _ _
    split
    · rename_i d' e' e1 e2
      rw [h1] at e1; rw [h2] at e2
      cases e1; cases e2
      exact gen
    · rename_i no
      exact (no d e h1 h2).elim
theorem gnd_ints : ∀ ns : List Int, gndL (ns.map PyData.int) = true
  | [] => rfl
  | n :: ns => by show (true && gndL (ns.map PyData.int)) = true; rw [gnd_ints ns]; rfl
theorem gRepr_sh {d : PyData} {m : Store} {B D : Nat} {Q : DQ} (s : SB B D d) (hB : B ≤ 16777216) (hD : D ≤ 50) (q : Q (.sh (.str d.shown)) m) : gRepr [.sh d] m Q := gRepr_ok (dat_sh _ _ _) s hB hD q
end DL
/-! iterators over iterators, by the library's walks -/
namespace DL
open PySem PySem.Spec PyProof.Rows L2
/-- what a walk that gives tuples is for a for: c tells what is walked -/
def ItW {C : Type} (G : C → Hp → Prop) (N : C → Nat) (Y : C → Nat → List V → Prop) : It :=
  ⟨fun i H => ∃ c, G c H ∧ i < N c, fun i H v H' => ∃ T vs, v = .ref T ∧ H T = none ∧ H' = upd H T (.tup vs) ∧ ∀ c, G c H → Y c i vs, fun i H => ∃ c, G c H ∧ N c = i⟩
theorem turn_walk {P : Program} {w : World} {K : PySem.W.Frag} {elts : List Expr} {kk : Nat} {tpos : Pos} {C : Type} {it : Addr} {fp wr : List Addr} {tn : Nat → Heap → Prop} (G : C → Hp → Prop) (N : C → Nat) (Y : C → Nat → List V → Prop)
    (mem : it ∈ fp) (wrf : ∀ b ∈ wr, b ∈ fp) (live : ∀ i h, tn i h → ∀ b ∈ fp, ∃ o, h.get? b = some o ∧ ∀ v, o.data ≠ .cell v)
    (keep : ∀ i h h', tn i h → (∀ b ∈ fp, ∀ o, h.get? b = some o → h'.get? b = some o) → tn i h')
    (self : ∀ (A : Around) (i : Nat) (s : Shared) (Q : Value → Shared → Prop) (E : Value → Shared → Prop), tn i s.heap → Q (.ref it) s → wpAny (model P w) A (pyIter (.ref it)) Q E s)
    (walk : ∀ (X : Cx), X.prog = P → X.w = w → X.K = K → X.calm = true → ∀ (i : Nat) (pins : List (Addr × Obj)) (s : Shared) (σ : L2.St) (H : Hp), Inv X pins σ H s → tn i s.heap → ∀ c, G c H →
      ∃ (fpA : List Addr) (n : Nat) (Pt : Nat → Array Value → Prop) (St : Nat → Heap → Prop) (Mid : Nat → Addr → Heap → Prop), WalksT P w X.A it fpA wr n Pt St Mid ∧ n = N c ∧ St i s.heap ∧ (∀ h, St (i + 1) h → tn (i + 1) h) ∧
        ∀ vals, Pt i vals → ∃ vs, Vals vs vals.toList ∧ vs.length ≤ sizeLine ∧ ∀ c', G c' H → Y c' i vs) : Turn P w K (.Tuple elts kk tpos) (ItW G N Y) fp it tn where
  mem := mem
  obj := live
  keep := keep
  self := self
  item := by
    intro X hP hw hK hc i pins s σ H E I hf st ⟨c, hG, hlt⟩
    obtain ⟨fpA, n, Pt, St, Mid, W, hn, hS, hback, hval⟩ := walk X hP hw hK hc i pins s σ H I st c hG
    subst hP hw hK
    refine W.item i s _ _ (by rw [hn]; exact hlt) hS fun T vals h' tk hPt hT hIs hM hk => ?_
    refine ⟨_, rfl, W.go elts kk tpos i T { s with heap := h', toks := tk } _ _ hM fun h'' hS2 hk2 => ?_⟩
    obtain ⟨vs, hv, hz, hY⟩ := hval vals hPt
    have both : ∀ b o, b ∉ wr → s.heap.get? b = some o → h''.get? b = some o := fun b o hb e => hk2 b o hb (hk b o hb e)
    obtain ⟨o, ho, hcl, nn, hd⟩ := hIs
    have hT2 : h''.get? T = some o := hk2 T o (W.apart i T _ hM) ho
    have new : ObjOk X.prog X.w (upd H T (.tup vs)) h'' T (.tup vs) := ⟨hz, vals.toList, hv, ⟨o, hT2, hcl, nn, by rw [hd]⟩⟩
    have I1 : Inv X pins σ (upd H T (.tup vs)) { s with heap := h'', toks := tk } := I.turnedNew (ch := wr) both (fun b hb => hf b (wrf b hb)) hT new
    refine ⟨.ref T, _, I1, rfl, ⟨T, vs, rfl, I.hok.fresh hT, rfl, hY⟩, hback _ hS2, fun b hb => ?_⟩
    obtain ⟨o2, ho2, _⟩ := live i s.heap st b hb
    rw [upd_ne (Nat.ne_of_lt (Nat.lt_of_lt_of_le (Heap.lt_size ho2) hT))]
    exact (hf b hb).1
  done := by
    intro X hP hw hK hc i pins s σ H E I hf st ⟨c, hG, hlt⟩
    obtain ⟨fpA, n, Pt, St, Mid, W, hn, hS, hback, hval⟩ := walk X hP hw hK hc i pins s σ H I st c hG
    subst hP hw hK
    subst hlt
    rw [← hn] at hS
    refine W.done s _ _ hS fun h' tk hk => ⟨rfl, ?_⟩
    exact I.turnedL hk fun b hb => hf b (wrf b hb)
/-! ### what is walked first: a list or a tuple -/
abbrev SrcA := Bool × Addr
def SqS (K : PySem.W.Frag) (H : Hp) : SrcA → List V → Prop
  | (true, a), xs => SqT K H a xs
  | (false, a), xs => SqL K H a xs
def ItS (h : Heap) (it : Addr) : SrcA → Nat → Prop
  | (true, a), i => h.IsTupleIter it a i
  | (false, a), i => h.IsListIter it a i
def IsS (h : Heap) : SrcA → Array Value → Prop
  | (true, a), xs => h.IsTuple a xs
  | (false, a), xs => h.IsList a xs
def itO : SrcA → Obj
  | (true, a) => { cls := .type "tuple_iterator", data := .fields #[.ref a, .int 0 0] }
  | (false, a) => { cls := .type "list_iterator", data := .fields #[.ref a, .int 0 0] }
theorem begins_src : ∀ (sr : SrcA) (items : Array Value), PySem.Begins (.ref sr.2) (itO sr) fun h => IsS h sr items
  | (true, a), items => begins_tuple a items
  | (false, a), items => begins_list a items
theorem draws_src {prog : Program} {w : World} {A : Around} (hh : A.handled = none) (it : Addr) : ∀ (sr : SrcA) (_ : sr.2 ≠ it) (items : Array Value), Draws prog w A it [it, sr.2] items.size (fun i v => items[i]? = some v) (fun i h => ItS h it sr i ∧ IsS h sr items)
  | (true, a), hne, items => Draws.tuple hh it a hne items
  | (false, a), hne, items => Draws.list hh it a hne items
theorem itS_live {h : Heap} {it : Addr} {i : Nat} : ∀ {sr : SrcA}, ItS h it sr i → ∃ o, h.get? it = some o ∧ ∀ v, o.data ≠ .cell v
  | (true, a), ⟨o, ho, _, hd⟩ => ⟨o, ho, fun v q => by rw [hd] at q; cases q⟩
  | (false, a), ⟨o, ho, _, hd⟩ => ⟨o, ho, fun v q => by rw [hd] at q; cases q⟩
theorem itS_keep {h h' : Heap} {it : Addr} {i : Nat} : ∀ {sr : SrcA}, ItS h it sr i → (∀ o, h.get? it = some o → h'.get? it = some o) → ItS h' it sr i
  | (true, a), st, k => Heap.IsTupleIter.at st k
  | (false, a), st, k => Heap.IsListIter.at st k
theorem itS_new {h : Heap} {it : Addr} : ∀ {sr : SrcA}, h.get? it = some (itO sr) → ItS h it sr 0
  | (true, a), e => ⟨_, e, rfl, rfl⟩
  | (false, a), e => ⟨_, e, rfl, rfl⟩
section
variable {X : Cx} {pins : List (Addr × Obj)} {σ : L2.St} {H : Hp} {s : Shared}
theorem src_at (I : Inv X pins σ H s) : ∀ {sr : SrcA} {xs : List V}, SqS X.K H sr xs → ∃ its : List Value, Vals xs its ∧ IsS s.heap sr its.toArray ∧ xs.length ≤ sizeLine
  | (true, a), xs, h => by obtain ⟨its, r, p, z⟩ := I.tuple h; exact ⟨its, r, p, z⟩
  | (false, a), xs, h => by obtain ⟨its, r, p, z⟩ := I.list h; exact ⟨its, r, p.isList, z⟩
theorem src_inj (I : Inv X pins σ H s) : ∀ {sr : SrcA} {xs ys : List V}, SqS X.K H sr xs → SqS X.K H sr ys → xs = ys
  | (true, a), xs, ys, h, g => I.tuple_inj h g
  | (false, a), xs, ys, h, g => I.list_inj h g
theorem src_old (I : Inv X pins σ H s) : ∀ {sr : SrcA} {xs : List V}, SqS X.K H sr xs → sr.2 < s.heap.objs.size
  | (true, a), xs, h => by obtain ⟨its, r, ⟨o, e, _⟩, z⟩ := I.tuple h; exact Heap.lt_size e
  | (false, a), xs, h => by obtain ⟨its, r, p, z⟩ := I.list h; obtain ⟨o, e, _⟩ := p.isList; exact Heap.lt_size e
end
/-! ### enumerate(v) -/
set_option maxHeartbeats 1000000 in
theorem meets_enum1 {v : Value} {o : Obj} {B : Heap → Prop} (b : PySem.Begins v o B) :
    Meets (Builtin.«enumerate.__new__» ⟨[.type "enumerate", v], []⟩) (fun _ R s => B s.heap ∧
      R (.ok (.ret (.ref (s.heap.push o).objs.size))) { s with heap := (s.heap.push o).push { cls := .type "enumerate", data := .fields #[.none, .bool false, .ref s.heap.objs.size, rawInt 0, .none, .none] } }) :=
  .of_wp fun P W A R s z => by
    obtain ⟨h0, gs, dr, tk, os⟩ := s
    obtain ⟨z1, z2⟩ := z
    have subE := sub_enumerate
    have start : ∀ {A' : Around} {E Q : Value → Shared → Prop}, Q (.ref h0.objs.size) ⟨h0.push o, gs, dr, tk, os⟩ → wpAny (model P W) A' (pyIter v) Q E ⟨h0, gs, dr, tk, os⟩ := fun q => b.iter P W _ _ ⟨h0, gs, dr, tk, os⟩ _ z1 q
    wp_walk using start
    refine wpAny_stack_any fun st => wpAny_pure ?_
    split
    · rename_i c _ _ _ _ _
      cases (c == Value.type "enumerate")
      · wp_walk using start
        exact ⟨_, rfl, z2⟩
      · wp_walk using start
        exact ⟨_, rfl, z2⟩
    · wp_walk using start
      exact ⟨_, rfl, z2⟩
theorem enum1_begins {prog : Program} {w : World} {A : Around} {E : Value → Shared → Prop} {s : Shared} {v : Value} {o : Obj} {B : Heap → Prop} {Q : Value → Shared → Prop} (b : PySem.Begins v o B) (h1 : B s.heap)
    (q : ∀ g, IsEnum g (s.heap.objs.size + 1) s.heap.objs.size 0 .none → g.get? s.heap.objs.size = some o → (∀ c u, s.heap.get? c = some u → g.get? c = some u) → Q (.ref (s.heap.objs.size + 1)) { s with heap := g }) :
    wpAny (model prog w) A (call (.type "enumerate") [v]) Q E s := by
  refine callType_new F.called_enumerate (by decide) (F.typeCall_enumerate_1 _) (F.newCall_enumerate_1 _) (fun obj => F.args_object_init_2 obj _) F.entry_enumerate_new (meets_enum1 b) ⟨h1, ?_⟩
  have two : (s.heap.push o).objs.size = s.heap.objs.size + 1 := Heap.size_push ..
  have en : IsEnum ((s.heap.push o).push { cls := .type "enumerate", data := .fields #[.none, .bool false, .ref s.heap.objs.size, rawInt 0, .none, .none] }) (s.heap.objs.size + 1) s.heap.objs.size 0 .none := by
    rw [← two]
    exact Heap.get?_push_size _ rfl
  show _ ∧ _
  rw [two]
  exact ⟨⟨_, en, rfl⟩, q _ en (Heap.get?_push_of_some _ (Heap.get?_push_size _ b.free)) fun c u x => Heap.get?_push_of_some _ (Heap.get?_push_of_some _ x)⟩
theorem vals_getV : ∀ {xs : List V} {us : List Value} {i : Nat} {u : Value}, Vals xs us → us[i]? = some u → ∃ x, xs[i]? = some x ∧ RelV x u
  | _, _, _, _, .nil, e => by simp at e
  | x :: _, _, 0, _, .cons r _, e => by cases e; exact ⟨x, rfl, r⟩
  | _ :: _, _, i + 1, u, .cons _ t, e => vals_getV (i := i) (u := u) t e
def GSr (K : PySem.W.Frag) (sr : SrcA) : List V → Hp → Prop := fun xs H => SqS K H sr xs
def YEn : List V → Nat → List V → Prop := fun xs i vs => ∃ x, xs[i]? = some x ∧ vs = [.int (i : Int), x]
def ItEn (K : PySem.W.Frag) (sr : SrcA) : It := ItW (GSr K sr) List.length YEn
theorem turn_en {P : Program} {w : World} {K : PySem.W.Frag} {elts : List Expr} {kk : Nat} {tpos : Pos} (sr : SrcA) (e it : Addr) (hei : e ≠ it) (hse : sr.2 ≠ e) (hsi : sr.2 ≠ it) :
    Turn P w K (.Tuple elts kk tpos) (ItEn K sr) [e, it] e (fun i h => (∃ old, IsEnum h e it ((0 : Int) + (i : Int)) old) ∧ ItS h it sr i) := by
  refine turn_walk (wr := [e, it]) (GSr K sr) List.length YEn (by simp) (fun _ h => h) (fun i h st b hb => ?_) (fun i h h' st k => ?_) (fun A i s Q E st q => ?_) fun X hP hw hK hc i pins s σ H I st xs hG => ?_
  · obtain ⟨⟨old, he⟩, hi⟩ := st
    have hb' : b = e ∨ b = it := by simpa using hb
    rcases hb' with rfl | rfl
    · exact ⟨_, he, fun v q => nomatch q⟩
    · exact itS_live hi
  · obtain ⟨⟨old, he⟩, hi⟩ := st
    exact ⟨⟨old, k e (by simp) _ he⟩, itS_keep hi fun o q => k it (by simp) o q⟩
  · obtain ⟨⟨old, he⟩, _⟩ := st
    exact wpAny_pyIter_enum he q
  · subst hP hw hK
    obtain ⟨its, rv, isS, hz⟩ := src_at I hG
    obtain ⟨⟨old, he⟩, hi⟩ := st
    refine ⟨_, _, _, _, _, WalksT.enumFrom (A := X.A) 0 (draws_src (A := X.A.in1) (I.ok.hd hc) it sr hsi its.toArray) e hei (by simp [hei, Ne.symm hse]) (by simp), ?_, ⟨⟨old, he⟩, hi, isS⟩, fun h z => ⟨z.1, z.2.1⟩, fun vals hv => ?_⟩
    · rw [List.size_toArray]; exact rv.length.symm
    · obtain ⟨t, x, hx, rfl⟩ := hv
      obtain ⟨v, hv1, hv2⟩ := vals_getV (i := i) (u := x) rv (by simpa using hx)
      refine ⟨[.int (i : Int), v], .cons ⟨t, by rw [Int.zero_add]⟩ (.cons hv2 .nil), (by show 2 ≤ sizeLine; decide), fun ys hy => ⟨v, ?_, rfl⟩⟩
      rw [src_inj I hy hG]; exact hv1
theorem pi_en {X : Cx} {e : Expr} {ta : TA} {p pos tpos : Pos} {elts : List Expr} {kk : Nat} (hg : Gl X "enumerate") (hm : X.mg "enumerate" = none) (ha : PA X [e] ta) (hs : starEach [e] X.env = [(false, eval e X.env)] := by rfl) :
    PI X (.Tuple elts kk tpos) (.Call (.Name "enumerate" p) [e] [] pos) (fun σ H R => ta σ H fun vs H1 => ∃ (sr : SrcA) (xs : List V), vs = [.ref sr.2] ∧ SqS X.K H1 sr xs ∧ R (ItEn X.K sr) H1) := by
  constructor
  intro pins s σ H R I h
  apply Call_ (ld_blt I hg hm boot_enumerate (PyProof.Rows.callWith_type1 (thn (ha.run pos pins s σ H _ I h) fun us s1 ⟨vs, H1, I1, r1, q1⟩ => ?_) hs rfl))
  obtain ⟨sr, xs, rfl, hq, q⟩ := q1
  obtain ⟨u, rfl, ru⟩ := r1.one
  cases ru
  obtain ⟨its, rv, isS, hz⟩ := src_at I1 hq
  have old := src_old I1 hq
  refine enum1_begins (begins_src sr its.toArray) isS fun g he hi hk => wpAny_pyIter_enum he ?_
  have I2 : Inv X pins σ H1 { s1 with heap := g } := I1.kept (t' := s1.toks) hk
  refine ⟨s1.heap.objs.size + 1, [s1.heap.objs.size + 1, s1.heap.objs.size], _, _, H1, rfl, I2, turn_en sr _ s1.heap.objs.size (Nat.succ_ne_self _) (Nat.ne_of_lt (Nat.lt_succ_of_lt old)) (Nat.ne_of_lt old), ⟨⟨.none, he⟩, itS_new hi⟩, fun b hb => ?_, q⟩
  have hle : s1.heap.objs.size ≤ b := by
    have hb' : b = s1.heap.objs.size + 1 ∨ b = s1.heap.objs.size := by simpa using hb
    rcases hb' with rfl | rfl
    · exact Nat.le_succ _
    · exact Nat.le_refl _
  exact I1.fpOk hle (I1.hok.fresh hle)
/-- the data side of a source -/
def srcB (x : DV) : Bool := (seqT x).isSome
theorem src_of {K : PySem.W.Frag} {H F S : Hp} {ad : List Addr} {m : Store} {v : V} {x : DV} {xs : List DV} (C : Core K H F S ad m) (r : VR K S ad v x) (h : seqA m x = some xs) : ∃ a vs, v = .ref a ∧ SqS K H (srcB x, a) vs ∧ VRs K S ad vs xs := by
  unfold seqA at h
  unfold srcB
  split at h
  · rename_i ys e
    cases h
    obtain ⟨a, vs, rfl, hs, rs⟩ := seqT_at r e
    rw [e]
    exact ⟨a, vs, rfl, sqt_ext (C.sF.trans C.FH) hs, rs⟩
  · rename_i e
    obtain ⟨a, vs, rfl, hs, rs⟩ := seqL_at C r h
    rw [e]
    exact ⟨a, vs, rfl, hs, rs⟩
theorem enD_at {xs : List DV} {i : Nat} {y : DV} (h : (enD xs)[i]? = some y) : ∃ z, xs[i]? = some z ∧ y = mkTup [.sh (.int (i : Int)), z] := by
  unfold enD at h
  rw [List.getElem?_map, List.getElem?_zipIdx] at h
  cases hz : xs[i]? with
  | none => rw [hz] at h; cases h
  | some z => rw [hz] at h; simp at h; exact ⟨z, rfl, h.symm⟩
theorem itr_en {K : PySem.W.Frag} {F S : Hp} {ad : List Addr} {x : DV} {xs : List DV} {a : Addr} (r : VR K S ad (.ref a) x) : ItR K (ItEn K (srcB x, a)) (enD xs) F S ad (fun m' => seqA m' x = some xs) := by
  intro i H' F' S' ad' m' s C k
  obtain ⟨b, vs, e, hs, rs⟩ := src_of C (r.mono s.s s.p) k
  cases e
  refine ⟨fun y hy => ?_, fun hl => ⟨vs, hs, by rw [rs.length, ← hl]; unfold enD; rw [List.length_map, List.length_zipIdx]⟩⟩
  obtain ⟨z, hz, rfl⟩ := enD_at hy
  obtain ⟨u, hu, ru⟩ := rs.get hz
  refine ⟨⟨vs, hs, (List.getElem?_eq_some_iff.mp hu).1⟩, fun w H'' q => ?_⟩
  obtain ⟨T, us, rfl, nT, rfl, q⟩ := q
  obtain ⟨u2, hu2, rfl⟩ := q vs hs
  obtain rfl : u = u2 := Option.some.inj (hu.symm.trans hu2)
  obtain ⟨C2, s2⟩ := C.shared (o := .tup [.int (i : Int), u]) nT
  exact ⟨_, _, s2, C2, vr_mkTup (SqT.of upd_same) (.cons (.sh (.int _)) (.cons (ru.stp s2) .nil))⟩
section
variable {X : Cx} {W : WX} {e e2 e3 : Expr} {tr : DTA} {pos : Pos}
abbrev dIEn (tr : DTA) : DTI := fun δ m Q E => tr δ m (fun xs m1 => match xs with
  | [x] => (match seqA m1 x with
    | some ys => Q (enD ys) (fun m' => seqA m' x = some ys) m1
    | none => False)
  | _ => False) E
theorem di_en {p tpos : Pos} {elts : List Expr} {kk : Nat} (hg : Gl X "enumerate") (hm : X.mg "enumerate" = none) (ha : DA X W [e] tr) (hs : starEach [e] X.env = [(false, eval e X.env)] := by rfl) : DI X W (.Tuple elts kk tpos) (.Call (.Name "enumerate" p) [e] [] pos) (dIEn tr) := by
  obtain ⟨t1, p1, h1⟩ := ha
  refine ⟨_, pi_en hg hm p1 hs, fun σ H F S ad m δ Qd Ed R C SRR h k kx => ?_⟩
  refine h1 σ H F S ad m δ _ Ed _ C SRR h (fun vs H1 F1 S1 ad1 m1 xs s1 C1 rs q1 => ?_) kx
  split at q1
  · rename_i x
    split at q1
    · rename_i ys e
      obtain ⟨v, rfl, r⟩ := vrs1 rs
      obtain ⟨a, us, rfl, hs, rs⟩ := src_of C1 r e
      exact ⟨(srcB x, a), us, rfl, hs, k _ _ _ _ _ _ _ _ s1 C1 e (itr_en r) q1⟩
    · exact q1.elim
  · exact q1.elim
end
/-! ### zip of two, of three -/
def G2 (K : PySem.W.Frag) (s1 s2 : SrcA) : List V × List V → Hp → Prop := fun c H => SqS K H s1 c.1 ∧ SqS K H s2 c.2
def N2 : List V × List V → Nat := fun c => min c.1.length c.2.length
def Y2 : List V × List V → Nat → List V → Prop := fun c i vs => ∃ x y, c.1[i]? = some x ∧ c.2[i]? = some y ∧ vs = [x, y]
def ItZ2 (K : PySem.W.Frag) (s1 s2 : SrcA) : It := ItW (G2 K s1 s2) N2 Y2
theorem notin2 {N a i : Nat} (ha : a < N) (j : Nat) (hj : j ≠ i) : (N + j : Nat) ∉ [(N + i : Nat), a] := fun h => by
  rcases List.mem_cons.mp h with z | z
  · omega
  · have := List.mem_singleton.mp z; omega
theorem turn_z2 {P : Program} {w : World} {K : PySem.W.Frag} {elts : List Expr} {kk : Nat} {tpos : Pos} (s1 s2 : SrcA) (N : Nat) (h1 : s1.2 < N) (h2 : s2.2 < N) :
    Turn P w K (.Tuple elts kk tpos) (ItZ2 K s1 s2) [N + 4, N + 2, N + 3, N, N + 1] (N + 4) (fun i h => IsZip h (N + 4) (N + 2) (N + 3) .none ∧ IsTupOf2 h (N + 2) (.ref N) (.ref (N + 1)) ∧ (∃ a b, IsTupOf2 h (N + 3) a b) ∧ ItS h N s1 i ∧ ItS h (N + 1) s2 i) := by
  refine turn_walk (wr := [N + 4, N + 3, N, N + 1]) (G2 K s1 s2) N2 Y2 (by simp) (fun b hb => ?_) (fun i h st b hb => ?_) (fun i h h' st k => ?_) (fun A i s Q E st q => wpAny_pyIter_zip st.1 q) fun X hP hw hK hc i pins s σ H I st c hG => ?_
  · simp at hb ⊢; rcases hb with h | h | h | h <;> simp [h]
  · obtain ⟨z1, z2, ⟨a, b', z3⟩, z4, z5⟩ := st
    simp at hb
    rcases hb with rfl | rfl | rfl | rfl | rfl
    · exact ⟨_, z1, fun v q => nomatch q⟩
    · exact ⟨_, z2, fun v q => nomatch q⟩
    · exact ⟨_, z3, fun v q => nomatch q⟩
    · exact itS_live z4
    · exact itS_live z5
  · obtain ⟨z1, z2, ⟨a, b', z3⟩, z4, z5⟩ := st
    exact ⟨k _ (by simp) _ z1, k _ (by simp) _ z2, ⟨a, b', k _ (by simp) _ z3⟩, itS_keep z4 fun o q => k _ (by simp) o q, itS_keep z5 fun o q => k _ (by simp) o q⟩
  · subst hP hw hK
    obtain ⟨is, rv, isS, hz⟩ := src_at I hG.1
    obtain ⟨js, rv2, isS2, hz2⟩ := src_at I hG.2
    obtain ⟨z1, z2, ⟨a, b', z3⟩, z4, z5⟩ := st
    have hh : X.A.in1.handled = none := I.ok.hd hc
    refine ⟨_, _, _, _, _, WalksT.zipD2 (A := X.A) (zip_sep2 (N := N) (fp1 := [s1.2]) (fp2 := [s2.2]) (by simpa using h1) (by simpa using h2)) (draws_src hh N s1 (Nat.ne_of_lt h1) is.toArray) (draws_src hh (N + 1) s2 (Nat.ne_of_lt (Nat.lt_succ_of_lt h2)) js.toArray), ?_,
      ⟨z1, z2, ⟨a, b', z3⟩, ⟨z4, isS⟩, z5, isS2⟩, fun h z => ⟨z.1, z.2.1, z.2.2.1, z.2.2.2.1.1, z.2.2.2.2.1⟩, fun vals hv => ?_⟩
    · rw [List.size_toArray, List.size_toArray, ← rv.length, ← rv2.length]; rfl
    · obtain ⟨x, y, hx, hy, rfl⟩ := hv
      obtain ⟨u, hu1, hu2⟩ := vals_getV (i := i) (u := x) rv (by simpa using hx)
      obtain ⟨v, hv1, hv2⟩ := vals_getV (i := i) (u := y) rv2 (by simpa using hy)
      refine ⟨[u, v], .cons hu2 (.cons hv2 .nil), (by show 2 ≤ sizeLine; decide), fun c' hG' => ⟨u, v, ?_, ?_, rfl⟩⟩
      · rw [src_inj I hG'.1 hG.1]; exact hu1
      · rw [src_inj I hG'.2 hG.2]; exact hv1
theorem pi_z2 {X : Cx} {e e2 : Expr} {ta : TA} {p pos tpos : Pos} {elts : List Expr} {kk : Nat} (hg : Gl X "zip") (hm : X.mg "zip" = none) (ha : PA X [e, e2] ta)
    (hs : starEach [e, e2] X.env = (false, eval e X.env) :: starEach [e2] X.env := by rfl) (hpl : (backTo pos (starEach [e2] X.env)).any (·.1) = false := by rfl) :
    PI X (.Tuple elts kk tpos) (.Call (.Name "zip" p) [e, e2] [] pos) (fun σ H R => ta σ H fun vs H1 => ∃ (s1 s2 : SrcA) (c : List V × List V), vs = [.ref s1.2, .ref s2.2] ∧ G2 X.K s1 s2 c H1 ∧ R (ItZ2 X.K s1 s2) H1) := by
  constructor
  intro pins s σ H R I h
  apply Call_ (ld_blt I hg hm PyProof.Rows.boot_zip (PyProof.Rows.callWith_type1 (thn (ha.run pos pins s σ H _ I h) fun us t ⟨vs, H1, I1, r1, q1⟩ => ?_) hs hpl))
  obtain ⟨s1, s2, c, rfl, hG, q⟩ := q1
  cases r1 with
  | cons r r1 =>
    obtain ⟨u, rfl, ru⟩ := Vals.one r1
    cases r; cases ru
    obtain ⟨is, rv, isS, hz⟩ := src_at I1 hG.1
    obtain ⟨js, rv2, isS2, hz2⟩ := src_at I1 hG.2
    refine zip_begins2 (begins_src s1 is.toArray) (begins_src s2 js.toArray) isS isS2 fun g z1 z2 z3 i1 i2 hsz hk => wpAny_pyIter_zip z1 ?_
    have I2 : Inv X pins σ H1 { t with heap := g } := I1.kept (t' := t.toks) hk
    refine ⟨_, _, _, _, H1, rfl, I2, turn_z2 s1 s2 t.heap.objs.size (src_old I1 hG.1) (src_old I1 hG.2), ⟨z1, z2, ⟨_, _, z3⟩, itS_new i1, itS_new i2⟩, fun b hb => ?_, q⟩
    have hle : t.heap.objs.size ≤ b := by
      simp at hb
      rcases hb with rfl | rfl | rfl | rfl | rfl
      · exact Nat.le_add_right _ _
      · exact Nat.le_add_right _ _
      · exact Nat.le_add_right _ _
      · exact Nat.le_refl _
      · exact Nat.le_add_right _ _
    exact I1.fpOk hle (I1.hok.fresh hle)
theorem itr_z2 {K : PySem.W.Frag} {F S : Hp} {ad : List Addr} {x y : DV} {xs ys : List DV} {a b : Addr} (r : VR K S ad (.ref a) x) (r' : VR K S ad (.ref b) y) : ItR K (ItZ2 K (srcB x, a) (srcB y, b)) (zpD xs ys) F S ad (fun m' => seqA m' x = some xs ∧ seqA m' y = some ys) := by
  intro i H' F' S' ad' m' s C k
  obtain ⟨_, vs, e, hs, rs⟩ := src_of C (r.mono s.s s.p) k.1
  cases e
  obtain ⟨_, us, e, hs', rs'⟩ := src_of C (r'.mono s.s s.p) k.2
  cases e
  have len : N2 (vs, us) = (zpD xs ys).length := by
    unfold N2 zpD
    rw [List.length_map, List.length_zip, rs.length, rs'.length]
  refine ⟨fun z hz => ?_, fun hl => ⟨(vs, us), ⟨hs, hs'⟩, len.trans hl⟩⟩
  have hlt := (List.getElem?_eq_some_iff.mp hz).1
  obtain ⟨p, q, hp, hq, rfl⟩ := zpD_at hz
  obtain ⟨u, hu, ru⟩ := rs.get hp
  obtain ⟨w, hw, rw'⟩ := rs'.get hq
  refine ⟨⟨(vs, us), ⟨hs, hs'⟩, by rw [len]; exact hlt⟩, fun w2 H'' q2 => ?_⟩
  obtain ⟨T, us2, rfl, nT, rfl, q2⟩ := q2
  obtain ⟨y1, y2, g1, g2, rfl⟩ := q2 (vs, us) ⟨hs, hs'⟩
  obtain rfl : u = y1 := Option.some.inj (hu.symm.trans g1)
  obtain rfl : w = y2 := Option.some.inj (hw.symm.trans g2)
  obtain ⟨C2, s2⟩ := C.shared (o := .tup [u, w]) nT
  exact ⟨_, _, s2, C2, vr_mkTup (SqT.of upd_same) (.cons (ru.stp s2) (.cons (rw'.stp s2) .nil))⟩
section
variable {X : Cx} {W : WX} {e e2 e3 : Expr} {tr : DTA} {pos : Pos}
abbrev dIZ2 (tr : DTA) : DTI := fun δ m Q E => tr δ m (fun xs m1 => match xs with
  | [x, y] => (match seqA m1 x, seqA m1 y with
    | some xs, some ys => Q (zpD xs ys) (fun m' => seqA m' x = some xs ∧ seqA m' y = some ys) m1
    | _, _ => False)
  | _ => False) E
theorem di_z2 {p tpos : Pos} {elts : List Expr} {kk : Nat} (hg : Gl X "zip") (hm : X.mg "zip" = none) (ha : DA X W [e, e2] tr)
    (hs : starEach [e, e2] X.env = (false, eval e X.env) :: starEach [e2] X.env := by rfl) (hpl : (backTo pos (starEach [e2] X.env)).any (·.1) = false := by rfl) : DI X W (.Tuple elts kk tpos) (.Call (.Name "zip" p) [e, e2] [] pos) (dIZ2 tr) := by
  obtain ⟨t1, p1, h1⟩ := ha
  refine ⟨_, pi_z2 hg hm p1 hs hpl, fun σ H F S ad m δ Qd Ed R C SRR h k kx => ?_⟩
  refine h1 σ H F S ad m δ _ Ed _ C SRR h (fun vs H1 F1 S1 ad1 m1 xs s1 C1 rs q1 => ?_) kx
  split at q1
  · rename_i x y
    split at q1
    · rename_i xs ys e e'
      obtain ⟨v, u, rfl, r, r'⟩ := vrs2 rs
      obtain ⟨a, us, rfl, hs, rs⟩ := src_of C1 r e
      obtain ⟨b, ws, rfl, hs', rs'⟩ := src_of C1 r' e'
      exact ⟨(srcB x, a), (srcB y, b), (us, ws), rfl, ⟨hs, hs'⟩, k _ _ _ _ _ _ _ _ s1 C1 ⟨e, e'⟩ (itr_z2 r r') q1⟩
    · exact q1.elim
  · exact q1.elim
end
/-! ### ways -/
section
variable {δ : DEnv} {m : Store} {tr : DTA} {E : DXK} {Q : List DV → (Store → Prop) → Store → Prop}
theorem enD_sh (ds : List PyData) : enD (ds.map .sh) = ds.zipIdx.map fun p => .sh (.tuple [.int (p.2 : Int), p.1]) := by
  unfold enD
  rw [List.zipIdx_map, List.map_map]; rfl
theorem zpD_sh : ∀ ds es : List PyData, zpD (ds.map .sh) (es.map .sh) = (ds.zip es).map fun p => .sh (.tuple [p.1, p.2])
  | [], _ => rfl
  | _ :: _, [] => rfl
  | d :: ds, e :: es => by
    have := zpD_sh ds es
    unfold zpD at this ⊢
    simp only [List.map_cons, List.zip_cons_cons]
    rw [this]; rfl
theorem it_enL {ds : List PyData} (ht : ∀ Q' : List DV → Store → Prop, Q' [.sh (.list ds)] m → tr δ m Q' E) (q : ∀ kp : Store → Prop, kp m → Q (ds.zipIdx.map fun p => .sh (.tuple [.int (p.2 : Int), p.1])) kp m) : dIEn tr δ m Q E := by
  refine ht _ ?_
  have := q (fun m' => seqA m' (.sh (.list ds)) = some (ds.map .sh)) rfl
  rw [← enD_sh] at this
  exact this
theorem it_enT {ds : List PyData} (ht : ∀ Q' : List DV → Store → Prop, Q' [.sh (.tuple ds)] m → tr δ m Q' E) (q : ∀ kp : Store → Prop, kp m → Q (ds.zipIdx.map fun p => .sh (.tuple [.int (p.2 : Int), p.1])) kp m) : dIEn tr δ m Q E := by
  refine ht _ ?_
  have := q (fun m' => seqA m' (.sh (.tuple ds)) = some (ds.map .sh)) rfl
  rw [← enD_sh] at this
  exact this
theorem it_enLA {ds : List PyData} (ht : ∀ Q' : List DV → Store → Prop, Q' [.sh (.list ds)] m → tr δ m Q' E) (q : ∀ kp : Store → Prop, (∀ m', kp m') → Q (ds.zipIdx.map fun p => .sh (.tuple [.int (p.2 : Int), p.1])) kp m) : dIEn tr δ m Q E := by
  refine ht _ ?_
  have := q (fun m' => seqA m' (.sh (.list ds)) = some (ds.map .sh)) fun _ => rfl
  rw [← enD_sh] at this
  exact this
theorem it_enTA {ds : List PyData} (ht : ∀ Q' : List DV → Store → Prop, Q' [.sh (.tuple ds)] m → tr δ m Q' E) (q : ∀ kp : Store → Prop, (∀ m', kp m') → Q (ds.zipIdx.map fun p => .sh (.tuple [.int (p.2 : Int), p.1])) kp m) : dIEn tr δ m Q E := by
  refine ht _ ?_
  have := q (fun m' => seqA m' (.sh (.tuple ds)) = some (ds.map .sh)) fun _ => rfl
  rw [← enD_sh] at this
  exact this
theorem it_listA {te : DT} {ds : List PyData} (ht : ∀ Q' : DQ, Q' (.sh (.list ds)) m → te δ m Q' E) (q : ∀ kp : Store → Prop, (∀ m', kp m') → Q (ds.map .sh) kp m) : dISeq te δ m Q E := ht _ (q (fun m' => seqL m' (.sh (.list ds)) = some (ds.map .sh)) fun _ => rfl)
theorem it_tupleA {te : DT} {ds : List PyData} (ht : ∀ Q' : DQ, Q' (.sh (.tuple ds)) m → te δ m Q' E) (q : ∀ kp : Store → Prop, (∀ m', kp m') → Q (ds.map .sh) kp m) : dISeq te δ m Q E := ht _ (q (fun _ => True) fun _ => trivial)
theorem it_rng1A {n : Int} (ht : ∀ Q' : List DV → Store → Prop, Q' [.sh (.int n)] m → tr δ m Q' E) (h : -(2 ^ 62) ≤ n ∧ n < 2 ^ 62) (q : ∀ kp : Store → Prop, (∀ m', kp m') → Q (((List.range n.toNat).map fun (i : Nat) => (i : Int)).map fun i => .sh (.int i)) kp m) : dIRng1 tr δ m Q E := by
  refine ht _ ⟨h, ?_⟩
  have := q (fun _ => True) fun _ => trivial
  unfold rgD
  rw [List.map_map] at this
  have e : (fun (i : Nat) => DV.sh (.int ((0 : Int) + (i : Int)))) = (fun (i : Int) => DV.sh (.int i)) ∘ fun (i : Nat) => (i : Int) := by funext i; simp
  rw [e]; exact this
/-- zip of two trees -/
theorem it_z2 {x y : PyData} {ds es : List PyData} (hx : seqA m (.sh x) = some (ds.map .sh)) (hy : seqA m (.sh y) = some (es.map .sh)) (ht : ∀ Q' : List DV → Store → Prop, Q' [.sh x, .sh y] m → tr δ m Q' E) (q : ∀ kp : Store → Prop, kp m → Q ((ds.zip es).map fun p => .sh (.tuple [p.1, p.2])) kp m) : dIZ2 tr δ m Q E := by
  refine ht _ ?_
  have := q (fun m' => seqA m' (.sh x) = some (ds.map .sh) ∧ seqA m' (.sh y) = some (es.map .sh)) ⟨hx, hy⟩
  rw [← zpD_sh] at this
  show (match seqA m (.sh x), seqA m (.sh y) with
    | some xs, some ys => _
    | _, _ => False)
  rw [hx, hy]
  exact this
end
/-- slots given up -/
inductive Fgt (n : Nat) : DEnv → DEnv → Prop
  | nil : Fgt n [] []
  | keep {x : DV} {δ δ0 : DEnv} : x.sc n → Fgt n δ δ0 → Fgt n (some x :: δ) (some x :: δ0)
  | drop {o : Option DV} {δ δ0 : DEnv} : Fgt n δ δ0 → Fgt n (o :: δ) (none :: δ0)
theorem Fgt.at {n : Nat} {δ δ0 : DEnv} (h : Fgt n δ δ0) : δ0.length = δ.length ∧ ∀ (i : Nat) (x : DV), δ0[i]? = some (some x) → δ[i]? = some (some x) ∧ x.sc n := by
  induction h with
  | nil => exact ⟨rfl, fun i x e => by simp at e⟩
  | keep hx _ ih =>
    refine ⟨by simp [ih.1], fun i x e => ?_⟩
    cases i with
    | zero => cases e; exact ⟨rfl, hx⟩
    | succ i => exact ih.2 i x e
  | drop _ ih =>
    refine ⟨by simp [ih.1], fun i x e => ?_⟩
    cases i with
    | zero => cases e
    | succ i => exact ih.2 i x e
theorem wk_cut {n : Nat} {I : DEnv → Store → Prop} {δ δ0 : DEnv} {m0 t : Store} (f : Fgt m0.length δ δ0) (sc : Scp m0) (hn : n ≤ m0.length) (h : I δ0 m0) : WkI n I δ (m0 ++ t) :=
  ⟨δ0, m0, .cut t (fun i x e => f.at.2 i x e) f.at.1 rfl sc, hn, h⟩
/-- .. what each turn does to the slots is not kept -/
theorem r_each {α J : Type} (enc : α → DV) (env : J → DEnv) {as : List α} {j0 : J} {ti : DTI} {g : DTG} {tb : DTS} {D : DEnds} {m : Store}
    (hi : ∀ Q' : List DV → (Store → Prop) → Store → Prop, (∀ kp : Store → Prop, kp m → Q' (as.map enc) kp m) → ti (env j0) m Q' (fun x m1 => D.ex x (env j0) m1))
    (turn : ∀ a ∈ as, ∀ j, ∀ K : DEnv → Store → Prop, (∀ δ2 m2, WkI m.length (fun δ m' => m' = m ∧ ∃ j', δ = env j') δ2 m2 → K δ2 m2) → g (enc a) (env j) m (fun δ2 m2 => tb { D with nx := K, ct := K, bk := D.nx } δ2 m2))
    (done : ∀ j, D.nx (env j) m) : dFor ti g tb D (env j0) m := by
  refine hi _ fun kp hk => ⟨fun rest δ m' => m' = m ∧ (∃ j, δ = env j) ∧ ∃ bs : List α, rest = bs.map enc ∧ ∀ b ∈ bs, b ∈ as, wk0 ⟨rfl, ⟨j0, rfl⟩, as, rfl, fun _ h => h⟩ (Nat.le_refl _), ?_, ?_, ?_⟩
  · rintro rest δ' m' ⟨rfl, _⟩; exact ⟨hk, Nat.le_refl _⟩
  · rintro x rest δ' m' ⟨rfl, ⟨j, rfl⟩, bs, e, hb⟩
    cases bs with
    | nil => cases e
    | cons b bs =>
      cases e
      refine turn b (hb b List.mem_cons_self) j _ fun δ2 m2 ⟨δ0, m0, h1, h2, h3, h4⟩ => ?_
      exact ⟨δ0, m0, h1, h2, h3, h4, bs, rfl, fun c hc => hb c (List.mem_cons_of_mem _ hc)⟩
  · rintro δ' m' ⟨rfl, ⟨j, rfl⟩, _⟩
    exact done j
theorem wk_here {J : Type} {env : J → DEnv} {m : Store} (j : J) : WkI m.length (fun δ m' => m' = m ∧ ∃ j', δ = env j') (env j) m := wk0 ⟨rfl, j, rfl⟩ (Nat.le_refl _)
theorem foldl_flat {α β : Type} (f : α → List β) : ∀ (as : List α) (acc : List β), as.foldl (fun l a => l ++ f a) acc = acc ++ as.flatMap f
  | [], acc => by simp
  | a :: as, acc => by rw [List.foldl_cons, foldl_flat f as, List.flatMap_cons, List.append_assoc]
end DL
/-! dicts: keys ints and texts, or tuples -/
namespace DL
open PySem PySem.Spec PyProof.Rows L2
/-! ### keys -/
def keyK : PyData → Option Key
  | .int i => some (.inl i)
  | .str x => some (.inr x)
  | _ => none
theorem keyK_at {K : PySem.W.Frag} {S : Hp} {v : V} {d : PyData} {k : Key} (h : Dp K S v d) (e : keyK d = some k) : v = kV k := by
  cases h <;> cases e <;> rfl
mutual
theorem nk_hash (w w' : World) : ∀ (d : PyData) (k : NestedKey), nk d = some k → k.hash w = k.hash w'
  | .none, k, h => by cases h; rfl
  | .int i, k, h => by cases h; rfl
  | .tuple ds, k, h => by
    obtain ⟨ks, e, rfl⟩ := Option.map_eq_some_iff.mp (show (nkAll ds).map NestedKey.tup = some k from h)
    show reduceHash (Builtin.Tuple.tupleHashOf (NestedKey.hashes w ks)) = reduceHash (Builtin.Tuple.tupleHashOf (NestedKey.hashes w' ks))
    rw [nk_hashes w w' ds ks e]
  | .bool _, _, h => by cases h
  | .str _, _, h => by cases h
  | .list _, _, h => by cases h
  | .dict _, _, h => by cases h
theorem nk_hashes (w w' : World) : ∀ (ds : List PyData) (ks : List NestedKey), nkAll ds = some ks → NestedKey.hashes w ks = NestedKey.hashes w' ks
  | [], ks, h => by cases h; rfl
  | d :: ds, ks, h => by
    unfold nkAll at h
    split at h
    · rename_i k ks' e1 e2
      cases h
      show k.hash w :: NestedKey.hashes w ks' = k.hash w' :: NestedKey.hashes w' ks'
      rw [nk_hash w w' d k e1, nk_hashes w w' ds ks' e2]
    · cases h
end
mutual
theorem nk_data : ∀ (d : PyData) (k : NestedKey), nk d = some k → k.data = d
  | .none, k, h => by cases h; rfl
  | .int i, k, h => by cases h; rfl
  | .tuple ds, k, h => by
    obtain ⟨ks, e, rfl⟩ := Option.map_eq_some_iff.mp (show (nkAll ds).map NestedKey.tup = some k from h)
    show PyData.tuple (NestedKey.datas ks) = .tuple ds
    rw [nk_datas ds ks e]
  | .bool _, _, h => by cases h
  | .str _, _, h => by cases h
  | .list _, _, h => by cases h
  | .dict _, _, h => by cases h
theorem nk_datas : ∀ (ds : List PyData) (ks : List NestedKey), nkAll ds = some ks → NestedKey.datas ks = ds
  | [], ks, h => by cases h; rfl
  | d :: ds, ks, h => by
    unfold nkAll at h
    split at h
    · rename_i k ks' e1 e2
      cases h
      show k.data :: NestedKey.datas ks' = d :: ds
      rw [nk_data d k e1, nk_datas ds ks' e2]
    · cases h
end
mutual
theorem nk_is {h : Heap} : ∀ (d : PyData) (k : NestedKey) (u : Value) (as : List Addr), nk d = some k → Reads h u d as → NestedIs h k u
  | .none, k, u, as, e, r => by cases e; cases r; exact .none
  | .int i, k, u, as, e, r => by cases e; cases r; exact .int _ _
  | .tuple ds, k, u, as, e, r => by
    obtain ⟨ks, e', rfl⟩ := Option.map_eq_some_iff.mp (show (nkAll ds).map NestedKey.tup = some k from e)
    cases r with
    | tuple h1 h2 h3 h4 => exact .tup h1 h2 h3 (nk_iss ds ks _ _ e' h4)
  | .bool _, _, _, _, e, _ => by cases e
  | .str _, _, _, _, e, _ => by cases e
  | .list _, _, _, _, e, _ => by cases e
  | .dict _, _, _, _, e, _ => by cases e
theorem nk_iss {h : Heap} : ∀ (ds : List PyData) (ks : List NestedKey) (us : List Value) (as : List Addr), nkAll ds = some ks → ReadsAll h us ds as → NestedAll h ks us
  | [], ks, us, as, e, r => by cases e; cases r; exact .nil
  | d :: ds, ks, us, as, e, r => by
    unfold nkAll at e
    split at e
    · rename_i k ks' e1 e2
      cases e
      cases r with
      | cons a b => exact .cons (nk_is d k _ _ e1 a) (nk_iss ds ks' _ _ e2 b)
    · cases e
end
theorem keyT_nk {d : PyData} {k : NestedKey} (h : keyT d = some k) : nk d = some k ∧ k.depth ≤ 8 := by
  unfold keyT at h
  split at h
  · rename_i ks e
    split at h
    · rename_i hd; cases h; exact ⟨e, hd⟩
    · cases h
  · cases h
theorem NkAt.mono {K : PySem.W.Frag} {S S' : Hp} {b : Addr} {k : NestedKey} (e : Ext S S') (h : NkAt K S b k) : NkAt K S' b k := let ⟨ds, d, q⟩ := h; ⟨ds, dp_ext e d, q⟩
theorem NkAt.is {X : Cx} {pins : List (Addr × Obj)} {σ : St} {H : Hp} {s : Shared} {b : Addr} {k : NestedKey} (I : Inv X pins σ H s) (h : NkAt X.K H b k) : (nestedKind X.prog X.w).is s.heap k b := by
  obtain ⟨ds, d, q⟩ := h
  obtain ⟨q1, q2⟩ := keyT_nk q
  obtain ⟨as, r⟩ := Dp.reads I _ _ (.ref b) d rfl
  exact ⟨nk_is _ _ _ _ q1 r, q2⟩
theorem NkAt.hash {K : PySem.W.Frag} {S : Hp} {b : Addr} {k : NestedKey} (h : NkAt K S b k) (w w' : World) : k.hash w = k.hash w' := let ⟨_, _, q⟩ := h; nk_hash w w' _ _ (keyT_nk q).1
theorem NkAt.data {K : PySem.W.Frag} {S : Hp} {b : Addr} {k : NestedKey} (h : NkAt K S b k) : Dp K S (.ref b) k.data := by
  obtain ⟨ds, d, q⟩ := h
  rw [nk_data _ _ (keyT_nk q).1]; exact d
/-! ### a dict with tuple keys in the heap -/
abbrev TRel : List (NestedKey × Addr × V) → List (NestedKey × Addr × Value) → Prop := Paired fun p q => p.1 = q.1 ∧ p.2.1 = q.2.1 ∧ RelV p.2.2 q.2.2
theorem dicT_of {X : Cx} {pins : List (Addr × Obj)} {σ : St} {H : Hp} {s : Shared} {a : Addr} {es : List (NestedKey × Addr × V)} (I : Inv X pins σ H s) (e : Rd H a (dicT es a)) (ks : ∀ p ∈ es, NkAt X.K H p.2.1 p.1) :
    es.length ≤ sizeLine ∧ (a == sysModules) = false ∧ ∃ xs, TRel es xs ∧ s.heap.DictOfH (nestedKind X.prog X.w) a xs := by
  obtain ⟨⟨w', o, arr, ep, xs, h1, h2, h3, h4, h5, h6, h7, h8⟩, _, _⟩ := (show ObjOk X.prog X.w H s.heap a (dicT es a) from rd_of I.hok e)
  have all : ∀ x ∈ xs, NkAt X.K H x.2.1 x.1 := by
    have go : ∀ {l : List (NestedKey × Addr × V)} {m : List (NestedKey × Addr × Value)}, TRel l m → (∀ p ∈ l, NkAt X.K H p.2.1 p.1) → ∀ x ∈ m, NkAt X.K H x.2.1 x.1 := by
      intro l m q
      induction q with
      | nil => intro _ x hx; cases hx
      | @cons p q ps qs hq t ih =>
        intro hp x hx
        rcases List.mem_cons.mp hx with rfl | hx
        · have := hp p List.mem_cons_self
          rw [hq.1, hq.2.1] at this; exact this
        · exact ih (fun z hz => hp z (List.mem_cons_of_mem _ hz)) x hx
    exact go h6 ks
  refine ⟨h8, h7, xs, h6, o, arr, ep, h1, h2, h3, ?_, fun x hx => (all x hx).is I, h5⟩
  rw [h4]
  refine List.map_congr_left fun x hx => ?_
  show DictEntry.mk (x.1.hash w') _ _ = DictEntry.mk (x.1.hash X.w) _ _
  rw [(all x hx).hash w' X.w]
theorem dicT_ok {P : Program} {w : World} {H : Hp} {h : Heap} {a : Addr} {es : List (NestedKey × Addr × V)} {xs : List (NestedKey × Addr × Value)} (d : h.DictOfH (nestedKind P w) a xs) (r : TRel es xs) (hd : (a == sysModules) = false) (hz : es.length ≤ sizeLine) :
    ObjOk P w H h a (dicT es a) := by
  obtain ⟨o, arr, ep, h1, h2, h3, h4, _, h5⟩ := d
  refine ⟨⟨w, o, arr, ep, xs, h1, h2, h3, h4, h5, r, hd, hz⟩, ⟨o, h1⟩, fun g1 g2 ⟨w', o, arr, ep, xs, k1, k⟩ hk => ⟨w', o, arr, ep, xs, hk _ k1, k⟩⟩
def valE {α β : Type} [DecidableEq α] (es : List (α × Addr × β)) (k : α) : Option β := (es.find? fun p => decide (p.1 = k)).map (·.2.2)
theorem trel_val {es : List (NestedKey × Addr × V)} {xs : List (NestedKey × Addr × Value)} (r : TRel es xs) (k : NestedKey) : RelO (valE es k) ((atKey xs k).map (·.2)) := by
  induction r with
  | nil => exact True.intro
  | @cons p q ps qs h t ih =>
    obtain ⟨hk, _, hv⟩ := h
    by_cases hit : p.1 = k
    · have hit2 : q.1 = k := by rw [← hk]; exact hit
      rw [show valE (p :: ps) k = some p.2.2 by simp [valE, hit], show atKey (q :: qs) k = some q.2 by simp [atKey, hit2]]
      exact hv
    · have miss : ¬ q.1 = k := by rw [← hk]; exact hit
      rw [show valE (p :: ps) k = valE ps k by simp [valE, hit], show atKey (q :: qs) k = atKey qs k by simp [atKey, miss]]
      exact ih
/-! ### what a dict holds -/
def DctG (K : PySem.W.Frag) (H : Hp) (a : Addr) (y : V) (r : Option V) : Prop :=
  (∃ kvs k, Rd H a (.dK kvs) ∧ y = kV k ∧ r = valV kvs k) ∨ ∃ es k b, Rd H a (dicT es a) ∧ (∀ p ∈ es, NkAt K H p.2.1 p.1) ∧ y = .ref b ∧ NkAt K H b k ∧ r = valE es k
def IsDm (H : Hp) (a : Addr) : Prop := (∃ kvs, Rd H a (.dK kvs)) ∨ ∃ es, Rd H a (dicT es a)
theorem DctG.isD {K : PySem.W.Frag} {H : Hp} {a : Addr} {y : V} {r : Option V} (g : DctG K H a y r) : IsDm H a := by
  rcases g with ⟨kvs, k, e, _⟩ | ⟨es, k, b, e, _⟩
  · exact .inl ⟨_, e⟩
  · exact .inr ⟨_, e⟩
section
variable {X : Cx} {pins : List (Addr × Obj)} {σ : St} {H : Hp} {s : Shared} {a : Addr} {y v d : V} {u r : Value} {o : Option V} {A : Around} {E : Value → Shared → Prop}
theorem isDm_at (I : Inv X pins σ H s) (x : IsDm H a) : s.TypeIs (.ref a) "dict" ∧ (∀ b, Value.ref a = .ref b → ∃ ob, s.heap.get? b = some ob ∧ ob.dict = none) ∧ (a == sysModules) = false := by
  rcases x with ⟨kvs, e⟩ | ⟨es, e⟩
  · exact isD_at I (.inl ⟨kvs, e⟩)
  · obtain ⟨⟨w', o, arr, ep, xs, h1, h2, h3, h4, h5, h6, h7, h8⟩, _, _⟩ := (show ObjOk X.prog X.w H s.heap a (dicT es a) from rd_of I.hok e)
    exact ⟨⟨o, h1, h2.1⟩, fun b q => by cases q; exact ⟨o, h1, h2.2.1⟩, h7⟩
theorem room9 (hu : A.units + 65 < cLine) : (nestedKind X.prog X.w).room A.in1 := by
  show A.units + 1 + 8 < cLine
  omega
theorem g_item (hu : A.units + 65 < cLine) (I : Inv X pins σ H s) (g : DctG X.K H a y (some v)) (ry : RelV y u) :
    ∃ z, RelV v z ∧ ∀ Q : Value → Shared → Prop, (∀ s', Inv X pins σ H s' → Q z s') → wpAny (model X.prog X.w) A (getItem (.ref a) u) Q E s := by
  rcases g with ⟨kvs, k, e, rfl, l⟩ | ⟨es, k, b, e, ks, rfl, eb, l⟩
  · obtain ⟨_, _, us, rel, dd⟩ := dk_rd I.hok e
    obtain ⟨z, hz, rz⟩ := RelO.some_of (v := v) (show RelO (some v) (valueAt us k) by rw [l]; exact rel.val k)
    exact ⟨z, rz, fun Q h => wpAny_getItem_of (kV_is ry) dd.mapOf hz (h _ (I.tok _))⟩
  · obtain rfl : u = .ref b := ry
    obtain ⟨_, _, xs, rel, dd⟩ := dicT_of I e ks
    obtain ⟨z, hz, rz⟩ := RelO.some_of (v := v) (show RelO (some v) ((atKey xs k).map (·.2)) by rw [l]; exact trel_val rel k)
    obtain ⟨p, hp, rfl⟩ := Option.map_eq_some_iff.mp hz
    exact ⟨p.2, rz, fun Q h => wpAny_getItem_heap (room9 hu) (eb.is I) dd hp (h _ (I.tok _))⟩
theorem isSome_of {es : List (NestedKey × Addr × V)} {xs : List (NestedKey × Addr × Value)} (rel : TRel es xs) (k : NestedKey) : (valE es k).isSome = (atKey xs k).isSome := by
  have q := (trel_val rel k).isSome_eq
  rwa [Option.isSome_map] at q
theorem g_in {Q : Value → Shared → Prop} (hu : A.units + 65 < cLine) (I : Inv X pins σ H s) (g : DctG X.K H a y o) (ry : RelV y u) (h : ∀ s', Inv X pins σ H s' → Q (.bool o.isSome) s') :
    wpAny (model X.prog X.w) A (compareOp .In u (.ref a)) Q E s := by
  rcases g with ⟨kvs, k, e, ey, l⟩ | ⟨es, k, b, e, ks, ey, eb, l⟩
  · exact d_in (by omega) I (.inl ⟨kvs, k, e, ey, l⟩) ry h
  · subst ey
    obtain rfl : u = .ref b := ry
    obtain ⟨z, hd, xs, rel, dd⟩ := dicT_of I e ks
    refine wpAny_in_heap (room9 hu) (eb.is I) hd dd ?_
    rw [← isSome_of rel k, ← l]
    exact h _ (I.tok _)
theorem g_notIn {Q : Value → Shared → Prop} (hu : A.units + 65 < cLine) (I : Inv X pins σ H s) (g : DctG X.K H a y o) (ry : RelV y u) (h : ∀ s', Inv X pins σ H s' → Q (.bool (!o.isSome)) s') :
    wpAny (model X.prog X.w) A (compareOp .NotIn u (.ref a)) Q E s := by
  rcases g with ⟨kvs, k, e, ey, l⟩ | ⟨es, k, b, e, ks, ey, eb, l⟩
  · exact d_notIn (by omega) I (.inl ⟨kvs, k, e, ey, l⟩) ry h
  · subst ey
    obtain rfl : u = .ref b := ry
    obtain ⟨z, hd, xs, rel, dd⟩ := dicT_of I e ks
    refine wpAny_notIn_heap (room9 hu) (eb.is I) hd dd ?_
    rw [← isSome_of rel k, ← l]
    exact h _ (I.tok _)
theorem g_get2 {Q : Value → Shared → Prop} (hu : A.units + 65 < cLine) (I : Inv X pins σ H s) (g : DctG X.K H a y o) (ry : RelV y u) (rd : RelV d r) (h : ∀ w' s', Inv X pins σ H s' → RelV (o.getD d) w' → Q w' s') :
    wpAny (model X.prog X.w) A (call (.builtin "dict.get") [.ref a, u, r]) Q E s := by
  rcases g with ⟨kvs, k, e, ey, l⟩ | ⟨es, k, b, e, ks, ey, eb, l⟩
  · exact d_get2 (by omega) I (.inl ⟨kvs, k, e, ey, l⟩) ry rd h
  · subst ey
    obtain rfl : u = .ref b := ry
    obtain ⟨z, hd, xs, rel, dd⟩ := dicT_of I e ks
    refine call_meetsIn PySem.F.slot_dict_get dd.typeIs PySem.F.entry_dict_get (PySem.F.args_dict_get_3 _ _ _) (meetsH_dict_get_default (nestedKind X.prog X.w) a b hd r) ⟨room9 hu, k, xs, eb.is I, dd, h _ _ (I.tok _) ?_⟩
    rw [l]
    exact (trel_val rel k).getD rd
/-! ### d[y] = v -/
def putE (es : List (NestedKey × Addr × V)) (k : NestedKey) (b : Addr) (v : V) : List (NestedKey × Addr × V) :=
  if (valE es k).isSome = true then es.map (fun p => if p.1 = k then (p.1, p.2.1, v) else p) else es ++ [(k, b, v)]
theorem trel_put {es : List (NestedKey × Addr × V)} {xs : List (NestedKey × Addr × Value)} (rel : TRel es xs) {k : NestedKey} {b : Addr} (rv : RelV v r) : TRel (putE es k b v) (storedH xs k b r) := by
  unfold putE storedH
  rw [isSome_of rel k]
  split
  · rename_i hs
    clear hs
    induction rel with
    | nil => exact .nil
    | @cons p q ps qs h t ih =>
      refine .cons ?_ ih
      obtain ⟨h1, h2, h3⟩ := h
      unfold putAt
      dsimp only
      by_cases e : p.1 = k
      · rw [if_pos e, if_pos (h1.symm.trans e)]; exact ⟨h1, h2, rv⟩
      · rw [if_neg e, if_neg fun z => e (h1.trans z)]; exact ⟨h1, h2, h3⟩
  · exact Paired.snoc rel ⟨rfl, rfl, rv⟩
theorem putE_len (es : List (NestedKey × Addr × V)) (k : NestedKey) (b : Addr) (v : V) : (putE es k b v).length ≤ es.length + 1 := by
  unfold putE; split <;> simp
def DctP (K : PySem.W.Frag) (H : Hp) (a : Addr) (y v : V) (H' : Hp) : Prop :=
  (∃ us key, H a = some (.dK us) ∧ y = kV key ∧ us.length < sizeLine ∧ H' = upd H a (.dK (putK us key v))) ∨
  ∃ es k b, H a = some (dicT es a) ∧ (∀ p ∈ es, NkAt K H p.2.1 p.1) ∧ y = .ref b ∧ NkAt K H b k ∧ es.length < sizeLine ∧ H' = upd H a (dicT (putE es k b v) a)
theorem g_setItem {H' : Hp} {Q : Unit → Shared → Prop} (hu : A.units + 65 < cLine) (I : Inv X pins σ H s) (g : DctP X.K H a y v H') (ry : RelV y u) (rv : RelV v r) (h : ∀ s', Inv X pins σ H' s' → Q () s') :
    wpAny (model X.prog X.w) A (setItem (.ref a) u r) Q E s := by
  rcases g with ⟨kvs, k, e, ey, l, eH⟩ | ⟨es, k, b, e, ks, ey, eb, l, eH⟩
  · exact d_setItem (by omega) I (.inl ⟨kvs, k, e, ey, l, eH⟩) ry rv h
  · subst ey eH
    obtain rfl : u = .ref b := ry
    obtain ⟨z, hd, xs, rel, dd⟩ := dicT_of I (.inl e) ks
    have hz : xs.length ≤ sizeLine := Nat.le_trans (Nat.le_of_eq (Paired.length rel).symm) z
    have hl := putE_len es k b v
    refine wpAny_setItem_heap (hsz := hz) (room9 hu) (eb.is I) dd fun h' dd' hs => h _ ?_
    have he : ∃ q, h'.get? a = some q := let ⟨q, _, _, hq, _⟩ := dd'; ⟨q, hq⟩
    exact d_write I (by rw [e]; exact True.intro) hs he (dicT_ok dd' (trel_put rel rv) hd (by omega))
end
/-! ### rules -/
def rDG (K : PySem.W.Frag) : R2 := fun x y H Q => ∃ a v, x = .ref a ∧ DctG K H a y (some v) ∧ Q v H
def rDIn (K : PySem.W.Frag) (neg : Bool) : R2 := fun y x H Q => ∃ a o, x = .ref a ∧ DctG K H a y o ∧ Q (.bl (if neg then !o.isSome else o.isSome)) H
def rDPt (K : PySem.W.Frag) : V → V → V → Hp → (Hp → Prop) → Prop := fun o i v H Q => ∃ a H', o = .ref a ∧ DctP K H a i v H' ∧ Q H'
section
variable {X : Cx}
theorem ix_dict (hu : X.A.units + 65 < cLine) : IxR X (rDG X.K) := by
  intro value slice pins s σ H x y v u Q I rx ry h hs
  obtain ⟨a, z, rfl, g, q⟩ := h
  cases rx
  obtain ⟨c, rc, run⟩ := g_item hu I g ry
  exact subscriptTail_builtinR (x := c) (isDm_at I g.isD).1 PySem.F.slot_dict_getitem.lookup (run _ fun s' I' => ⟨rfl, z, H, I', rc, q⟩) hs
theorem op_din (hu : X.A.units + 65 < cLine) : OpR X (compareOp .In) (rDIn X.K false) := by
  intro pins s σ H x y v u Q I rx ry h
  obtain ⟨a, o, rfl, g, q⟩ := h
  cases ry
  exact g_in hu I g rx fun s' I' => ⟨.bl o.isSome, H, I', rfl, q⟩
theorem op_dnotin (hu : X.A.units + 65 < cLine) : OpR X (compareOp .NotIn) (rDIn X.K true) := by
  intro pins s σ H x y v u Q I rx ry h
  obtain ⟨a, o, rfl, g, q⟩ := h
  cases ry
  exact g_notIn hu I g rx fun s' I' => ⟨.bl (!o.isSome), H, I', rfl, q⟩
theorem set_dict (hu : X.A.units + 65 < cLine) : PSet X (rDPt X.K) := by
  intro pins s σ H o i v ov iv u Q I ro ri rv h
  obtain ⟨a, H', rfl, g, q⟩ := h
  cases ro
  exact g_setItem hu I g ri rv fun s' I' => ⟨H', I', q⟩
end
/-! ### the same on the layer -/
def valD {κ : Type} [DecidableEq κ] (kvs : List (κ × DV)) (k : κ) : Option DV := (kvs.find? fun p => decide (p.1 = k)).map (·.2)
def putD {κ : Type} [DecidableEq κ] (kvs : List (κ × DV)) (k : κ) (z : DV) : List (κ × DV) := if (valD kvs k).isSome = true then kvs.map (fun p => if p.1 = k then (p.1, z) else p) else kvs ++ [(k, z)]
/-- what is at a key: of a dict, of a key that is known -/
def lookD (m : Store) : DV → DV → Option (Option DV)
  | .own k, .sh d => (match m[k]? with
    | some (.dK kvs) => (keyK d).map (valD kvs)
    | some (.dT kvs) => (keyT d).map (valD kvs)
    | some (.fK kvs) => (keyK d).map (valD kvs)
    | some (.fT kvs) => (keyT d).map (valD kvs)
    | _ => none)
  | _, _ => none
section
variable {K : PySem.W.Frag} {S F H : Hp} {ad : List Addr} {m : Store}
theorem kvr_val {κ : Type} [DecidableEq κ] {vs : List (κ × V)} {kvs : List (κ × DV)} (r : KVR K S ad vs kvs) (k : κ) : (valD kvs k = none → valV vs k = none) ∧ ∀ z, valD kvs k = some z → ∃ v, valV vs k = some v ∧ VR K S ad v z := by
  unfold KVR at r
  induction r with
  | nil => exact ⟨fun _ => rfl, fun z h => by cases h⟩
  | @cons p q ps qs h t ih =>
    by_cases e : q.1 = k
    · have d : valD (q :: qs) k = some q.2 := by simp [valD, List.find?_cons, e]
      rw [valV_pos (h.1.trans e), d]
      exact ⟨fun z => (by cases z), fun z hz => by cases hz; exact ⟨_, rfl, h.2⟩⟩
    · have d : valD (q :: qs) k = valD qs k := by simp [valD, List.find?_cons, e]
      rw [valV_neg (fun z => e (h.1.symm.trans z)), d]
      exact ih
theorem ktr_val {es : List (NestedKey × Addr × V)} {kvs : List (NestedKey × DV)} (r : KTR K S ad es kvs) (k : NestedKey) : (valD kvs k = none → valE es k = none) ∧ ∀ z, valD kvs k = some z → ∃ v, valE es k = some v ∧ VR K S ad v z := by
  unfold KTR at r
  induction r with
  | nil => exact ⟨fun _ => rfl, fun z h => by cases h⟩
  | @cons p q ps qs h t ih =>
    by_cases e : q.1 = k
    · have d : valD (q :: qs) k = some q.2 := by simp [valD, List.find?_cons, e]
      have c : valE (p :: ps) k = some p.2.2 := by simp [valE, List.find?_cons, h.1.trans e]
      rw [c, d]
      exact ⟨fun z => (by cases z), fun z hz => by cases hz; exact ⟨_, rfl, h.2.2⟩⟩
    · have d : valD (q :: qs) k = valD qs k := by simp [valD, List.find?_cons, e]
      have c : valE (p :: ps) k = valE ps k := by
        have : ¬ p.1 = k := fun z => e (h.1.symm.trans z)
        simp [valE, List.find?_cons, this]
      rw [c, d]
      exact ih
theorem ktr_keys {es : List (NestedKey × Addr × V)} {kvs : List (NestedKey × DV)} (r : KTR K S ad es kvs) : ∀ p ∈ es, NkAt K S p.2.1 p.1 := by
  unfold KTR at r
  induction r with
  | nil => intro p hp; cases hp
  | cons h t ih =>
    intro p hp
    rcases List.mem_cons.mp hp with rfl | hp
    · exact h.2.1
    · exact ih p hp
theorem Core.up (C : Core K H F S ad m) : Ext S H := C.sF.trans C.FH
theorem keyT_at {b : V} {d : PyData} {k : NestedKey} (h : Dp K S b d) (e : keyT d = some k) : ∃ a, b = .ref a ∧ NkAt K S a k := by
  cases h with
  | tup hs ha => exact ⟨_, rfl, _, .tup hs ha, e⟩
  | _ => cases e
theorem dctG_at (C : Core K H F S ad m) {v u : V} {x y : DV} {r : Option DV} (rv : VR K S ad v x) (ru : VR K S ad u y) (e : lookD m x y = some r) :
    ∃ a o, v = .ref a ∧ DctG K H a u o ∧ (r = none → o = none) ∧ ∀ z, r = some z → ∃ w, o = some w ∧ VR K S ad w z := by
  unfold lookD at e
  split at e
  · rename_i k d
    cases rv with
    | own ha =>
      rename_i a
      cases ru with
      | sh du =>
        have inK : ∀ {kvs : List (Key × DV)} {vs : List (Key × V)}, Rd H a (.dK vs) → KVR K S ad vs kvs → (keyK d).map (valD kvs) = some r → ∃ b o, V.ref a = .ref b ∧ DctG K H b u o ∧ (r = none → o = none) ∧ ∀ z, r = some z → ∃ w, o = some w ∧ VR K S ad w z := by
          intro kvs vs hh rr e
          obtain ⟨key, hk, rfl⟩ := Option.map_eq_some_iff.mp e
          obtain ⟨n1, n2⟩ := kvr_val rr key
          exact ⟨a, _, rfl, .inl ⟨vs, key, hh, keyK_at du hk, rfl⟩, n1, n2⟩
        have inT : ∀ {kvs : List (NestedKey × DV)} {es : List (NestedKey × Addr × V)}, Rd H a (dicT es a) → KTR K S ad es kvs → (keyT d).map (valD kvs) = some r → ∃ b o, V.ref a = .ref b ∧ DctG K H b u o ∧ (r = none → o = none) ∧ ∀ z, r = some z → ∃ w, o = some w ∧ VR K S ad w z := by
          intro kvs es hh rr e
          obtain ⟨key, hk, rfl⟩ := Option.map_eq_some_iff.mp e
          obtain ⟨n1, n2⟩ := ktr_val rr key
          obtain ⟨b, rfl, hb⟩ := keyT_at du hk
          exact ⟨a, _, rfl, .inr ⟨es, key, b, hh, fun p hp => (ktr_keys rr p hp).mono C.up, rfl, hb.mono C.up, rfl⟩, n1, n2⟩
        split at e
        · rename_i kvs hm
          obtain ⟨_, vs, hh, rr⟩ := C.ent _ _ _ hm ha
          exact inK (.inl hh) rr e
        · rename_i kvs hm
          obtain ⟨_, es, hh, rr⟩ := C.ent _ _ _ hm ha
          exact inT (.inl hh) rr e
        · rename_i kvs hm
          obtain ⟨od, vs, hh, rr⟩ := C.ent _ _ _ hm ha
          exact inK (.inr ⟨od, C.up _ _ hh⟩) rr e
        · rename_i kvs hm
          obtain ⟨od, es, hh, rr⟩ := C.ent _ _ _ hm ha
          exact inT (.inr ⟨od, C.up _ _ hh⟩) rr e
        · cases e
  · cases e
/-! ### d[k] -/
def gAt : DV → DV → Store → DQ → Prop := fun x y m Q => match lookD m x y with
  | some (some z) => Q z m
  | some none => False
  | none => gIx x y m Q
theorem ll_at : Lk2 K (fun x y H Q => rIx K x y H Q ∨ rDG K x y H Q) gAt := by
  intro H F S ad m v u x y Qd Q C rv ru q kq
  unfold gAt at q
  split at q
  · rename_i z e
    obtain ⟨a, o, rfl, g, _, n⟩ := dctG_at C rv ru e
    obtain ⟨w, rfl, rw'⟩ := n z rfl
    exact .inr ⟨a, w, rfl, g, kq _ _ _ _ _ _ _ (Stp.refl _ _ _) C rw' q⟩
  · exact q.elim
  · exact .inl (ll_ix _ _ _ _ _ _ _ _ _ _ _ C rv ru q kq)
/-! ### k in d, x in l -/
def gInD (neg : Bool) : DV → DV → Store → DQ → Prop := fun y x m Q => match lookD m x y with
  | some r => Q (.sh (.bool (if neg then !r.isSome else r.isSome))) m
  | none => (match dat m deep y, dat m deep x with
    | some d, some (.list ds) => (SeqAt.shaped d = true ∧ SeqAt.shaped (.list ds) = true) ∧ Q (.sh (.bool (if neg then !ds.any (fun z => PyData.eqv z d) else ds.any fun z => PyData.eqv z d))) m
    | _, _ => False)
theorem ll_dInG (neg : Bool) {r : R2} (hr : ∀ {x y : V} {H : Hp} {Q : VK} {d : PyData} {ds : List PyData}, Dp K H x d → Dp K H y (.list ds) → SeqAt.shaped d = true → SeqAt.shaped (.list ds) = true →
      Q (.bl (if neg then !ds.any (fun z => PyData.eqv z d) else ds.any fun z => PyData.eqv z d)) H → r x y H Q) : Lk2 K (fun x y H Q => r x y H Q ∨ rDIn K neg x y H Q) (gInD neg) := by
  intro H F S ad m v u x y Qd Q C rv ru q kq
  unfold gInD at q
  split at q
  · rename_i o e
    obtain ⟨a, oo, rfl, g, n1, n2⟩ := dctG_at C ru rv e
    have es : oo.isSome = o.isSome := by
      cases o with
      | none => rw [n1 rfl]; rfl
      | some z => obtain ⟨w, rfl, _⟩ := n2 z rfl; rfl
    refine .inr ⟨a, oo, rfl, g, ?_⟩
    rw [es]
    exact kq _ _ _ _ _ _ _ (Stp.refl _ _ _) C (.sh (.bl _)) q
  · split at q
    · rename_i d ds e1 e2
      exact .inl (hr (dat_at C _ _ _ _ rv e1) (dat_at C _ _ _ _ ru e2) q.1.1 q.1.2 (kq _ _ _ _ _ _ _ (Stp.refl _ _ _) C (.sh (.bl _)) q.2))
    · exact q.elim
theorem ll_dIn : Lk2 K (fun x y H Q => rInD K x y H Q ∨ rDIn K false x y H Q) (gInD false) := ll_dInG false fun h1 h2 h3 h4 q => ⟨_, _, h1, h2, h3, h4, q⟩
theorem ll_dNotIn : Lk2 K (fun x y H Q => rNotInD K x y H Q ∨ rDIn K true x y H Q) (gInD true) := ll_dInG true fun h1 h2 h3 h4 q => ⟨_, _, h1, h2, h3, h4, q⟩
end
theorem lo_dIn {X : Cx} {k : Nat} (hr : RoomG k X.A) : OpR X (compareOp .In) (fun x y H Q => rInD X.K x y H Q ∨ rDIn X.K false x y H Q) := OpR.or (op_inD (by have := hr.r.un; omega)) (op_din (by have := hr.r.un; omega))
theorem lo_dNotIn {X : Cx} {k : Nat} (hr : RoomG k X.A) : OpR X (compareOp .NotIn) (fun x y H Q => rNotInD X.K x y H Q ∨ rDIn X.K true x y H Q) := OpR.or (op_notInD (by have := hr.r.un; omega)) (op_dnotin (by have := hr.r.un; omega))
section
variable {X : Cx} {W : WX} {a b : Expr} {ta tb : DT} {pos : Pos}
theorem de_at {k : Nat} (hr : RoomG k X.A) (ha : DE X W a ta) (hb : DE X W b tb) (hs : PlainIx b := by exact fun _ _ => rfl) : DE X W (.Subscript a b pos) (dBin gAt ta tb) := by
  obtain ⟨te1, p1, h1⟩ := ha
  obtain ⟨te2, p2, h2⟩ := hb
  refine ⟨_, pe_ix (ix_seq.or (ix_dict (by have := hr.r.un; omega))) p1 p2 hs, fun σ H F S ad m δ Qd Ed Q C R h kq kx => ?_⟩
  exact run2 (Q := fun v u H' => rIx X.K v u H' Q ∨ rDG X.K v u H' Q) h1 h2 C R h kx fun v u H' F' S' ad' m' x y s C' rv ru q => ll_at _ _ _ _ _ _ _ _ _ _ _ C' rv ru q (kq.stp s)
end
/-! ### d[k] = v -/
theorem PSet.or {X : Cx} {t t' : TSet} (h : PSet X t) (h' : PSet X t') : PSet X (fun o i v H Q => t o i v H Q ∨ t' o i v H Q) := by
  intro pins s σ H o i v ov iv u Q I ro ri rv q
  rcases q with q | q
  · exact h pins s σ H o i v ov iv u Q I ro ri rv q
  · exact h' pins s σ H o i v ov iv u Q I ro ri rv q
def gPut : DV → DV → DV → Store → (Store → Prop) → Prop := fun x y z m Q => match x, y with
  | .own k, .sh d => (match m[k]? with
    | some (.dK kvs) => (match keyK d with
      | some key => kvs.length < sizeLine ∧ Q (m.set k (.dK (putD kvs key z)))
      | none => False)
    | some (.dT kvs) => (match keyT d with
      | some key => kvs.length < sizeLine ∧ Q (m.set k (.dT (putD kvs key z)))
      | none => False)
    | _ => gSetL x y z m Q)
  | _, _ => False
section
variable {K : PySem.W.Frag} {S F H : Hp} {ad : List Addr} {m : Store}
theorem kvr_put {κ : Type} [DecidableEq κ] {vs : List (κ × V)} {kvs : List (κ × DV)} (r : KVR K S ad vs kvs) {key : κ} {v : V} {z : DV} (rz : VR K S ad v z) : KVR K S ad (putK vs key v) (putD kvs key z) := by
  have he : (vs.any fun kv => decide (kv.1 = key)) = (valD kvs key).isSome := by
    rw [valV_any]
    obtain ⟨n1, n2⟩ := kvr_val r key
    cases h : valD kvs key with
    | none => rw [n1 h]; rfl
    | some w => obtain ⟨u, hu, _⟩ := n2 w h; rw [hu]; rfl
  unfold putK putD
  rw [he]
  split
  · rename_i hs
    clear hs he
    unfold KVR at r ⊢
    induction r with
    | nil => exact .nil
    | @cons p q ps qs h t ih =>
      refine .cons ?_ ih
      dsimp only
      by_cases e : p.1 = key
      · rw [if_pos e, if_pos (h.1.symm.trans e)]; exact ⟨h.1, rz⟩
      · rw [if_neg e, if_neg fun z => e (h.1.trans z)]; exact h
  · exact Paired.snoc r ⟨rfl, rz⟩
theorem ktr_put {es : List (NestedKey × Addr × V)} {kvs : List (NestedKey × DV)} (r : KTR K S ad es kvs) {key : NestedKey} {b : Addr} {v : V} {z : DV} (hb : NkAt K S b key) (rz : VR K S ad v z) : KTR K S ad (putE es key b v) (putD kvs key z) := by
  have he : (valE es key).isSome = (valD kvs key).isSome := by
    obtain ⟨n1, n2⟩ := ktr_val r key
    cases h : valD kvs key with
    | none => rw [n1 h]; rfl
    | some w => obtain ⟨u, hu, _⟩ := n2 w h; rw [hu]; rfl
  unfold putE putD
  rw [he]
  split
  · rename_i hs
    clear hs he
    unfold KTR at r ⊢
    induction r with
    | nil => exact .nil
    | @cons p q ps qs h t ih =>
      refine .cons ?_ ih
      dsimp only
      by_cases e : p.1 = key
      · rw [if_pos e, if_pos (h.1.symm.trans e)]; exact ⟨h.1, h.2.1, rz⟩
      · rw [if_neg e, if_neg fun z => e (h.1.trans z)]; exact h
  · exact Paired.snoc r ⟨rfl, hb, rz⟩
theorem ll_put : LkS K (fun o i v H Q => rSetL o i v H Q ∨ rDPt K o i v H Q) gPut := by
  intro H F S ad m o i v x y z Qd Q C ro ri rv q k
  unfold gPut at q
  split at q
  · rename_i kk d
    cases ro with
    | own ha =>
      rename_i a
      cases ri with
      | sh di =>
        split at q
        · rename_i kvs hm
          split at q
          · rename_i key hk
            obtain ⟨hF, vs, hh, rr⟩ := C.ent _ _ _ hm ha
            refine .inr ⟨a, _, rfl, .inl ⟨vs, key, hh, keyK_at di hk, by rw [Paired.length rr]; exact q.1, rfl⟩, ?_⟩
            exact k _ _ _ _ _ (Stp.refl _ _ _) (C.setE (e' := .dK (putD kvs key z)) hm ha rfl ⟨hF, _, upd_same, kvr_put rr rv⟩) q.2
          · exact q.elim
        · rename_i kvs hm
          split at q
          · rename_i key hk
            obtain ⟨hF, es, hh, rr⟩ := C.ent _ _ _ hm ha
            obtain ⟨b, rfl, hb⟩ := keyT_at di hk
            refine .inr ⟨a, _, rfl, .inr ⟨es, key, b, hh, fun p hp => (ktr_keys rr p hp).mono C.up, rfl, hb.mono C.up, by rw [Paired.length rr]; exact q.1, rfl⟩, ?_⟩
            exact k _ _ _ _ _ (Stp.refl _ _ _) (C.setE (e' := .dT (putD kvs key z)) hm ha rfl ⟨hF, _, upd_same, ktr_put rr hb rv⟩) q.2
          · exact q.elim
        · exact .inl (ll_setL _ _ _ _ _ _ _ _ _ _ _ _ _ C (.own ha) (.sh di) rv q k)
  · exact q.elim
end
theorem set_any {X : Cx} {k : Nat} (hr : RoomG k X.A) : PSet X (fun o i v H Q => rSetL o i v H Q ∨ rDPt X.K o i v H Q) := PSet.or set_list (set_dict (by have := hr.r.un; omega))
/-! ### {} -/
theorem dicT_new {P : Program} {w : World} {H : Hp} (h : Heap) (hb : sysModules < h.objs.size) : ObjOk P w H (h.push { cls := .type "dict", data := .dict #[] }) h.objs.size (dicT [] h.objs.size) :=
  dicT_ok (P := P) (w := w) (xs := []) (Heap.DictOfH.new h) .nil (beq_eq_false_iff_ne.mpr fun e => Nat.ne_of_lt hb e.symm) (Nat.zero_le _)
def tNewT : TE := fun _ H Q => ∀ p, H p = none → Q (.ref p) (upd H p (dicT [] p))
theorem pe_newT {X : Cx} {pos : Pos} : PE X (.Dict [] [] pos) tNewT := ⟨fun pins s σ H Q I h => by
  refine wpAny_Dict_empty ⟨.ref s.heap.objs.size, _, ?_, rfl, h _ (I.hok.fresh (Nat.le_refl _))⟩
  exact I.laid (t' := s.toks) (fun _ _ q => Heap.get?_push_of_some _ q) (Nat.le_refl _) (dicT_new s.heap I.big)⟩
abbrev dNewK : DT := fun δ m Q E => Q (.own m.length) (m ++ [.dK []])
abbrev dNewT : DT := fun δ m Q E => Q (.own m.length) (m ++ [.dT []])
section
variable {X : Cx} {W : WX} {pos : Pos}
theorem new_own {K : PySem.W.Frag} {S F H : Hp} {ad : List Addr} {m : Store} (C : Core K H F S ad m) (p : Addr) : (ad ++ [p])[m.length]? = some p := by
  rw [← C.len, List.getElem?_append_right (Nat.le_refl _), Nat.sub_self]; rfl
theorem de_newK : DE X W (.Dict [] [] pos) dNewK := by
  refine ⟨_, pe_dnewK, fun σ H F S ad m δ Qd Ed Q C R h kq kx => fun p hp => ?_⟩
  obtain ⟨C', st⟩ := C.newE (e := .dK []) hp ⟨C.noF hp, [], upd_same, .nil⟩
  exact kq _ _ _ _ _ _ _ st C' (.own (new_own C p)) h
theorem de_newT : DE X W (.Dict [] [] pos) dNewT := by
  refine ⟨_, pe_newT, fun σ H F S ad m δ Qd Ed Q C R h kq kx => fun p hp => ?_⟩
  obtain ⟨C', st⟩ := C.newE (e := .dT []) hp ⟨C.noF hp, [], upd_same, .nil⟩
  exact kq _ _ _ _ _ _ _ st C' (.own (new_own C p)) h
end
/-! ### d.get(k, x) -/
def tGetD (K : PySem.W.Frag) (td ty tx : TE) : TE := fun σ H Q => td σ H fun x H1 => ∃ a, x = .ref a ∧ IsDm H1 a ∧ ty σ H1 fun y H2 => tx σ H2 fun z H3 => ∃ o, DctG K H3 a y o ∧ Q (o.getD z) H3
theorem pe_getD {X : Cx} {k : Nat} {o e f : Expr} {apos cpos : Pos} {td ty tx : TE} (hr : RoomG k X.A) (ho : PE X o td) (he : PE X e ty) (hf : PE X f tx) (m : M2 X o "get" apos e f cpos) : PE X (.Call (.Attribute o "get" apos) [e, f] [] cpos) (tGetD X.K td ty tx) := by
  have hu : X.A.units + 65 < cLine := by have := hr.r.un; omega
  refine ⟨fun pins s σ H Q I h => wpAny_Call_method m.base m.few m.line PySem.F.plainAttrs_dict PySem.F.slot_dict_get PySem.F.type_dict_get (thn (ho.run pins s σ H _ I h) ?_)⟩
  rintro u s1 ⟨x, H1, I1, rx, a, rfl, d, q1⟩
  cases rx
  obtain ⟨t1, t2, _⟩ := isDm_at I1 d
  refine ⟨t1, t2, ?_⟩
  rw [m.trees]
  refine Calls.callWith_builtin rfl (Calls.evalArgs_plain (Calls.spliced_cons (thn (he.run pins s1 σ H1 _ I1 q1) ?_)))
  rintro iv s2 ⟨y, H2, I2, ry, q2⟩
  refine Calls.spliced_cons (thn (hf.run pins s2 σ H2 _ I2 q2) ?_)
  rintro fv s3 ⟨z, H3, I3, rz, ov, g, q3⟩
  exact Calls.spliced_nil (g_get2 hu I3 g ry rz fun c s4 I4 rc => ⟨_, H3, I4, rc, q3⟩)
def isDct (m : Store) : DV → Prop
  | .own k => (match m[k]? with
    | some (.dK _) => True
    | some (.dT _) => True
    | some (.fK _) => True
    | some (.fT _) => True
    | _ => False)
  | _ => False
theorem isDct_at {K : PySem.W.Frag} {S F H : Hp} {ad : List Addr} {m : Store} (C : Core K H F S ad m) {v : V} {x : DV} (r : VR K S ad v x) (h : isDct m x) : ∃ a, v = .ref a ∧ IsDm H a := by
  unfold isDct at h
  split at h
  · cases r with
    | own ha =>
      split at h
      · rename_i kvs hm
        obtain ⟨_, vs, hh, _⟩ := C.ent _ _ _ hm ha
        exact ⟨_, rfl, .inl ⟨_, .inl hh⟩⟩
      · rename_i kvs hm
        obtain ⟨_, vs, hh, _⟩ := C.ent _ _ _ hm ha
        exact ⟨_, rfl, .inr ⟨_, .inl hh⟩⟩
      · rename_i kvs hm
        obtain ⟨od, vs, hh, _⟩ := C.ent _ _ _ hm ha
        exact ⟨_, rfl, .inl ⟨_, .inr ⟨od, C.up _ _ hh⟩⟩⟩
      · rename_i kvs hm
        obtain ⟨od, vs, hh, _⟩ := C.ent _ _ _ hm ha
        exact ⟨_, rfl, .inr ⟨_, .inr ⟨od, C.up _ _ hh⟩⟩⟩
      · exact h.elim
  · exact h.elim
abbrev dGetD (td ty tx : DT) : DT := fun δ m Q E => td δ m (fun x m1 => isDct m1 x ∧ ty δ m1 (fun y m2 => tx δ m2 (fun z m3 => match lookD m3 x y with
  | some r => Q (r.getD z) m3
  | none => False) E) E) E
theorem de_getD {X : Cx} {W : WX} {k : Nat} {o e f : Expr} {apos cpos : Pos} {td ty tx : DT} (hr : RoomG k X.A) (ho : DE X W o td) (he : DE X W e ty) (hf : DE X W f tx) (m : M2 X o "get" apos e f cpos := by exact ⟨rfl, rfl, rfl, rfl⟩) :
    DE X W (.Call (.Attribute o "get" apos) [e, f] [] cpos) (dGetD td ty tx) := by
  obtain ⟨t1, p1, h1⟩ := ho
  obtain ⟨t2, p2, h2⟩ := he
  obtain ⟨t3, p3, h3⟩ := hf
  refine ⟨_, pe_getD hr p1 p2 p3 m, fun σ H F S ad m δ Qd Ed Q C R h kq kx => ?_⟩
  refine h1 σ H F S ad m δ _ Ed _ C R h (fun v H1 F1 S1 ad1 m1 x s1 C1 rv q1 => ?_) kx
  obtain ⟨a, rfl, d⟩ := isDct_at C1 rv q1.1
  refine ⟨a, rfl, d, h2 σ H1 F1 S1 ad1 m1 δ _ Ed _ C1 (R.stp s1) q1.2 (fun u H2 F2 S2 ad2 m2 y s2 C2 ru q2 => ?_) (kx.stp s1)⟩
  refine h3 σ H2 F2 S2 ad2 m2 δ _ Ed _ C2 (R.stp (s1.trans s2)) q2 (fun w H3 F3 S3 ad3 m3 z s3 C3 rw' q3 => ?_) (kx.stp (s1.trans s2))
  split at q3
  · rename_i r hr
    obtain ⟨b, oo, e, g, n1, n2⟩ := dctG_at C3 (rv.stp (s2.trans s3)) (ru.stp s3) hr
    cases e
    refine ⟨oo, g, kq _ _ _ _ _ _ _ ((s1.trans s2).trans s3) C3 ?_ q3⟩
    cases r with
    | none => rw [n1 rfl]; exact rw'
    | some z' => obtain ⟨w', rfl, rz⟩ := n2 z' rfl; exact rz
  · exact q3.elim
/-! ### a dict is locked for good: it is walked -/
theorem Core.lockE {K : PySem.W.Frag} {H F S : Hp} {ad : List Addr} {m : Store} (C : Core K H F S ad m) {k : Nat} {a : Addr} {o : HO} {e e' : Ent} (hm : m[k]? = some e) (ha : ad[k]? = some a) (l : e.live = true) (hd : e'.live = false)
    (r : EntR K (upd H a o) (upd F a o) (upd S a o) ad a e') : Core K (upd H a o) (upd F a o) (upd S a o) ad (m.set k e') ∧ Stp F S ad (upd F a o) (upd S a o) ad := by
  have hk : k < m.length := (List.getElem?_eq_some_iff.mp hm).1
  have nF := (C.ent k e a hm ha).notF l
  have nS := C.noS nF
  have off : ∀ {i : Nat} {u : Ent}, (m.set k e')[i]? = some u → u.live = true → i ≠ k := fun g l q => by
    subst q; rw [List.getElem?_set_self hk] at g; cases g; rw [hd] at l; cases l
  refine ⟨⟨ext_upd2 C.sF, ext_upd2 C.FH, by rw [List.length_set]; exact C.len, fun i j b e1 e2 h1 h2 g1 g2 l1 l2 => ?_, fun i u b h1 h2 => ?_⟩, ext_new nS, ext_new nF, Pfx.refl _, fun b u v hb hv => ?_⟩
  · rw [List.getElem?_set_ne (Ne.symm (off g1 l1))] at g1
    rw [List.getElem?_set_ne (Ne.symm (off g2 l2))] at g2
    exact C.nd i j b e1 e2 h1 h2 g1 g2 l1 l2
  · by_cases hi : i = k
    · subst hi
      rw [List.getElem?_set_self hk] at h1
      cases h1
      obtain rfl : b = a := Option.some.inj (h2.symm.trans ha)
      exact r
    · rw [List.getElem?_set_ne (Ne.symm hi)] at h1
      have far : u.live = true → b ≠ a := fun lu q => by
        subst q; exact hi (C.nd i k b u e h2 ha h1 hm lu l)
      exact (C.ent i u b h1 h2).mono (ext_new nS) (Pfx.refl _) (fun lu z => by rw [upd_ne (far lu)]; exact z) fun lu => upd_ne (far lu)
  · rw [upd_ne (ne_of_none hb nF)] at hv; exact hv
theorem upd_self {H : Hp} {b : Addr} {u : HO} (h : H b = some u) : upd H b u = H := by
  funext b
  unfold upd
  split
  · rename_i e; rw [e, h]
  · rfl
theorem lockR {X : Cx} {pins : List (Addr × Obj)} {σ : St} {H : Hp} {s : Shared} {d : Addr} {u : HO} (I : Inv X pins σ H s) (h : Rd H d u) (mu : Mut (some u)) : ∃ od, Inv X pins σ (upd H d (.frz od u)) s ∧ (H d = some (.frz od u) ∨ H d = some u) := by
  rcases h with h | ⟨od, h⟩
  · obtain ⟨od, I'⟩ := I.lock h mu
    exact ⟨od, I', .inr h⟩
  · exact ⟨od, by rw [upd_self h]; exact I, .inl h⟩
theorem frzD_at {X : Cx} {pins : List (Addr × Obj)} {σ : St} {H : Hp} {s : Shared} {d : Addr} {o : Obj} {es : List (NestedKey × Addr × V)} (I : Inv X pins σ H s) (h : H d = some (.frz o (dicT es d))) :
    (d == sysModules) = false ∧ s.heap.get? d = some o ∧ o.ExactDict ∧ ∃ (arr : Array DictEntry) (ep : Nat), o.data = .dict arr ep ∧ arr.size = es.length ∧ ∀ (i : Nat) (p : NestedKey × Addr × V), es[i]? = some p → ∃ en : DictEntry, arr[i]? = some en ∧ en.key = .ref p.2.1 := by
  obtain ⟨hd, ⟨w', ob, arr, ep, xs, h1, h2, h3, h4, h5, h6, h7, h8⟩, _, _⟩ := I.hok d _ h
  rw [hd] at h1
  cases h1
  have hl : es.length = xs.length := Paired.length h6
  refine ⟨h7, hd, h2, arr, ep, h3, by rw [← Array.length_toList, h4, List.length_map, hl], fun i p e => ?_⟩
  obtain ⟨q, hq, e1, e2, e3⟩ := paired_get h6 e
  refine ⟨⟨q.1.hash w', .ref q.2.1, q.2.2⟩, ?_, by rw [e2]⟩
  rw [← Array.getElem?_toList, h4, List.getElem?_map, hq]; rfl
def ItkT (d : Addr) (o : Obj) (es : List (NestedKey × Addr × V)) : It :=
  ⟨fun i H => H d = some (.frz o (dicT es d)) ∧ i < es.length, fun i H x H' => H' = H ∧ ∃ p, es[i]? = some p ∧ x = .ref p.2.1, fun i H => H d = some (.frz o (dicT es d)) ∧ es.length ≤ i⟩
theorem turn_keysD {P : Program} {w : World} {K : PySem.W.Frag} {tg : Expr} {d : Addr} {o : Obj} {arr : Array DictEntry} {ep : Nat} {es : List (NestedKey × Addr × V)} (it : Addr) (hod : o.data = .dict arr ep) : Turn P w K tg (ItkT d o es) [it] it (fun i h => h.IsKeyIter it d i es.length ep) where
  mem := List.mem_singleton_self _
  obj := fun i h ⟨oi, e, _, dd⟩ b hb => ⟨oi, (List.mem_singleton.mp hb).symm ▸ e, fun v z => by rw [dd] at z; cases z⟩
  keep := fun i h h' st k => st.at fun oi e => k it (List.mem_singleton_self _) oi e
  item := by
    rintro X rfl rfl rfl hc i pins s σ H E I hf st ⟨hd, hi⟩
    obtain ⟨f0, f1, _, f3, f4, f5⟩ := hf it (List.mem_singleton_self _)
    obtain ⟨_, at1, _, arr', ep', hdt, hsz, ent⟩ := frzD_at I hd
    obtain ⟨rfl, rfl⟩ := dict_ep hod hdt
    have hp : es[i]? = some es[i] := List.getElem?_eq_getElem hi
    obtain ⟨en, hen, hkey⟩ := ent i _ hp
    refine next_key_item st at1 hdt hsz hen fun h' st' sb => ?_
    have I1 : Inv X pins σ H { s with heap := h' } := I.turned (t' := s.toks) (fun b ob hb e => (sb.2 b hb).trans e) f0 f1 f3 f4 f5
    obtain ⟨ob2, g1, g2, g3⟩ := id st'
    exact ⟨en.key, rfl, go_of (s := { s with heap := h' }) g1 g2 g3 (by decide) ⟨.ref es[i].2.1, H, I1, by rw [hkey]; rfl, ⟨rfl, _, hp, rfl⟩, st', fun b hb => (hf b hb).1⟩⟩
  done := by
    rintro X rfl rfl rfl hc i pins s σ H E I hf st ⟨hd, hi⟩
    obtain ⟨f0, f1, _, f3, f4, f5⟩ := hf it (List.mem_singleton_self _)
    obtain ⟨_, at1, _, arr', ep', hdt, hsz, _⟩ := frzD_at I hd
    obtain ⟨rfl, rfl⟩ := dict_ep hod hdt
    exact next_key_end (I.ok.hd hc) st at1 hdt hsz hi fun h' eb => ⟨rfl, I.turned (t' := s.toks) (fun b ob hb e => eb b ob hb e) f0 f1 f3 f4 f5⟩
  self := fun A i s Q E st h => wpAny_pyIter_keyiter st h
/-- over a list, a tuple, the keys of a dict -/
def iAny (K : PySem.W.Frag) (tl : TE) : TI := fun σ H R => tl σ H fun x H1 => ∃ a, x = .ref a ∧ (((∃ xs, SqL K H1 a xs) ∧ R (Itl K a) H1) ∨ ((∃ xs, SqT K H1 a xs) ∧ R (Itt K a) H1) ∨
  (∃ kvs, Rd H1 a (.dK kvs) ∧ ∀ od, (H1 a = some (.frz od (.dK kvs)) ∨ H1 a = some (.dK kvs)) → R (Itk a od kvs) (upd H1 a (.frz od (.dK kvs)))) ∨
  ∃ es, Rd H1 a (dicT es a) ∧ ∀ od, (H1 a = some (.frz od (dicT es a)) ∨ H1 a = some (dicT es a)) → R (ItkT a od es) (upd H1 a (.frz od (dicT es a))))
theorem pi_any {X : Cx} {tg l : Expr} {tl : TE} (hl : PE X l tl) : PI X tg l (iAny X.K tl) := by
  constructor
  intro pins t0 ρ G R I h
  apply thn (hl.run pins t0 ρ G _ I h)
  rintro v t ⟨_, G1, J, rv, p, rfl, q⟩
  cases rv
  have fp : ∀ b : Addr, b ∈ [t.heap.objs.size] → _ := fun b hb => (List.mem_singleton.mp hb).symm ▸ J.fpOk (Nat.le_refl t.heap.objs.size) (J.hok.fresh (Nat.le_refl t.heap.objs.size))
  rcases q with ⟨⟨xs, hq⟩, q⟩ | ⟨⟨xs, hq⟩, q⟩ | ⟨kvs, hq, q⟩ | ⟨es, hq, q⟩
  · obtain ⟨its, _, at1, _⟩ := J.list hq
    exact wpAny_pyIter_list at1.isList ⟨_, [t.heap.objs.size], _, _, G1, rfl, J.kept (t' := t.toks) (fun _ _ e => Heap.get?_push_of_some _ e), turn_list p _, ⟨_, Heap.get?_push_size _ rfl, rfl, rfl⟩, fp, q⟩
  · obtain ⟨its, _, at1, _⟩ := J.tuple hq
    have at2 : t.heap.IsTuple p its.toArray := at1
    exact wpAny_pyIter_tuple at2 ⟨_, [t.heap.objs.size], _, _, G1, rfl, J.kept (t' := t.toks) (fun _ _ e => Heap.get?_push_of_some _ e), turn_tuple p _, ⟨_, Heap.get?_push_size _ rfl, rfl, rfl⟩, fp, q⟩
  · obtain ⟨od, J1, was⟩ := lockR J hq trivial
    obtain ⟨n1, at1, ex, arr, ep, vs, hdt, hsz, _⟩ := J1.frzK upd_same
    refine iter_keys n1 at1 ex hdt (pi_one (tk := t.toks) J1 _ (turn_keys _ hdt) ⟨_, Heap.get?_push_size _ rfl, rfl, ?_⟩ (q od was))
    rw [hsz] <;> rfl
  · obtain ⟨od, J1, was⟩ := lockR J hq trivial
    obtain ⟨n1, at1, ex, arr, ep, hdt, hsz, _⟩ := frzD_at J1 upd_same
    refine iter_keys n1 at1 ex hdt (pi_one (tk := t.toks) J1 _ (turn_keysD _ hdt) ⟨_, Heap.get?_push_size _ rfl, rfl, ?_⟩ (q od was))
    rw [hsz] <;> rfl
def keyD : Key → PyData
  | .inl i => .int i
  | .inr x => .str x
theorem keyD_dp {K : PySem.W.Frag} {S : Hp} (k : Key) : Dp K S (kV k) (keyD k) := by
  cases k with
  | inl i => exact .int i
  | inr x => exact .str x
theorem itr_keysK {K : PySem.W.Frag} {F S : Hp} {ad : List Addr} {a : Addr} {od : Obj} {vs : List (Key × V)} {kvs : List (Key × DV)} (hS : S a = some (.frz od (.dK vs))) (r : KVR K S ad vs kvs) :
    ItR K (Itk a od vs) (kvs.map fun p => .sh (keyD p.1)) F S ad (fun _ => True) := by
  intro i H' F' S' ad' m' s C _
  have hH : H' a = some (.frz od (.dK vs)) := C.up _ _ (s.s _ _ hS)
  have hl : vs.length = kvs.length := Paired.length r
  refine ⟨fun y hy => ?_, fun h => ⟨hH, by rw [List.length_map] at h; omega⟩⟩
  obtain ⟨q, hq, rfl⟩ := Option.map_eq_some_iff.mp (show (kvs[i]?).map (fun p => DV.sh (keyD p.1)) = some y by rw [← List.getElem?_map]; exact hy)
  have hi : i < vs.length := by rw [hl]; exact (List.getElem?_eq_some_iff.mp hq).1
  obtain ⟨q', hq', e, _⟩ := paired_get r (List.getElem?_eq_getElem hi)
  obtain rfl : q = q' := Option.some.inj (hq.symm.trans hq')
  refine ⟨⟨hH, hi⟩, fun w H'' z => ?_⟩
  obtain ⟨rfl, k, v, hk, rfl⟩ := z
  have : vs[i] = (k, v) := Option.some.inj ((List.getElem?_eq_getElem hi).symm.trans hk)
  rw [this] at e
  refine ⟨F', S', Stp.refl _ _ _, C, .sh ?_⟩
  rw [← e]
  exact keyD_dp k
theorem itr_keysT {K : PySem.W.Frag} {F S : Hp} {ad : List Addr} {a : Addr} {od : Obj} {es : List (NestedKey × Addr × V)} {kvs : List (NestedKey × DV)} (hS : S a = some (.frz od (dicT es a))) (r : KTR K S ad es kvs) :
    ItR K (ItkT a od es) (kvs.map fun p => .sh p.1.data) F S ad (fun _ => True) := by
  intro i H' F' S' ad' m' s C _
  have hH : H' a = some (.frz od (dicT es a)) := C.up _ _ (s.s _ _ hS)
  have hl : es.length = kvs.length := Paired.length r
  refine ⟨fun y hy => ?_, fun h => ⟨hH, by rw [List.length_map] at h; omega⟩⟩
  obtain ⟨q, hq, rfl⟩ := Option.map_eq_some_iff.mp (show (kvs[i]?).map (fun p => DV.sh p.1.data) = some y by rw [← List.getElem?_map]; exact hy)
  have hi : i < es.length := by rw [hl]; exact (List.getElem?_eq_some_iff.mp hq).1
  obtain ⟨q', hq', e, hn, _⟩ := paired_get r (List.getElem?_eq_getElem hi)
  obtain rfl : q = q' := Option.some.inj (hq.symm.trans hq')
  refine ⟨⟨hH, hi⟩, fun w H'' z => ?_⟩
  obtain ⟨rfl, p, hp, rfl⟩ := z
  obtain rfl : es[i] = p := Option.some.inj ((List.getElem?_eq_getElem hi).symm.trans hp)
  refine ⟨F', S', Stp.refl _ _ _, C, .sh ?_⟩
  rw [← e]
  exact (hn.mono s.s).data
abbrev dIAny (te : DT) : DTI := fun δ m Q E => te δ m (fun x m1 => match seqT x with
  | some xs => Q xs (fun _ => True) m1
  | none => (match seqL m1 x with
    | some xs => Q xs (fun m' => seqL m' x = some xs) m1
    | none => (match x with
      | .own k => (match m1[k]? with
        | some (.dK kvs) => Q (kvs.map fun p => .sh (keyD p.1)) (fun _ => True) (m1.set k (.fK kvs))
        | some (.fK kvs) => Q (kvs.map fun p => .sh (keyD p.1)) (fun _ => True) m1
        | some (.dT kvs) => Q (kvs.map fun p => .sh p.1.data) (fun _ => True) (m1.set k (.fT kvs))
        | some (.fT kvs) => Q (kvs.map fun p => .sh p.1.data) (fun _ => True) m1
        | _ => False)
      | _ => False))) E
theorem dicT_inj {a : Addr} {es : List (NestedKey × Addr × V)} {od : Obj} : dicT es a ≠ .frz od (dicT es a) := fun h => by unfold dicT at h; cases h
theorem di_any {X : Cx} {W : WX} {tg iter : Expr} {te : DT} (he : DE X W iter te) : DI X W tg iter (dIAny te) := by
  obtain ⟨t1, p1, h1⟩ := he
  refine ⟨_, pi_any p1, fun σ H F S ad m δ Qd Ed R C SRR h k kx => ?_⟩
  refine h1 σ H F S ad m δ _ Ed _ C SRR h (fun v H1 F1 S1 ad1 m1 x s1 C1 rv q1 => ?_) kx
  split at q1
  · rename_i xs e
    obtain ⟨a, vs, rfl, hs, rs⟩ := seqT_at rv e
    exact ⟨a, rfl, .inr (.inl ⟨⟨vs, sqt_ext C1.up hs⟩, k _ _ _ _ _ _ _ _ s1 C1 trivial (itr_tup rv e) q1⟩)⟩
  · split at q1
    · rename_i xs e
      obtain ⟨a, vs, rfl, hs, rs⟩ := seqL_at C1 rv e
      exact ⟨a, rfl, .inl ⟨⟨vs, hs⟩, k _ _ _ _ _ _ _ _ s1 C1 e (itr_list rv) q1⟩⟩
    · split at q1
      · rename_i i _ _
        cases rv with
        | own ha =>
          rename_i a
          refine ⟨a, rfl, .inr (.inr ?_)⟩
          split at q1
          · rename_i kvs hm
            obtain ⟨hF, vs, hh, rr⟩ := C1.ent _ _ _ hm ha
            refine .inl ⟨vs, .inl hh, fun od was => ?_⟩
            have ex : Ext S1 (upd S1 a (.frz od (.dK vs))) := ext_new (C1.noS hF)
            obtain ⟨C2, s2⟩ := C1.lockE (e' := .fK kvs) (o := .frz od (.dK vs)) hm ha rfl rfl ⟨od, vs, upd_same, kvr_mono ex (Pfx.refl _) rr⟩
            exact k _ _ _ _ _ _ _ _ (s1.trans s2) C2 trivial (itr_keysK upd_same (kvr_mono ex (Pfx.refl _) rr)) q1
          · rename_i kvs hm
            obtain ⟨o, vs, hh, rr⟩ := C1.ent _ _ _ hm ha
            have hH := C1.up _ _ hh
            refine .inl ⟨vs, .inr ⟨o, hH⟩, fun od was => ?_⟩
            have : od = o := by
              rcases was with w | w
              · rw [hH] at w; cases w; rfl
              · rw [hH] at w; cases w
            subst this
            rw [upd_self hH]
            exact k _ _ _ _ _ _ _ _ s1 C1 trivial (itr_keysK hh rr) q1
          · rename_i kvs hm
            obtain ⟨hF, es, hh, rr⟩ := C1.ent _ _ _ hm ha
            refine .inr ⟨es, .inl hh, fun od was => ?_⟩
            have ex : Ext S1 (upd S1 a (.frz od (dicT es a))) := ext_new (C1.noS hF)
            obtain ⟨C2, s2⟩ := C1.lockE (e' := .fT kvs) (o := .frz od (dicT es a)) hm ha rfl rfl ⟨od, es, upd_same, ktr_mono ex (Pfx.refl _) rr⟩
            exact k _ _ _ _ _ _ _ _ (s1.trans s2) C2 trivial (itr_keysT upd_same (ktr_mono ex (Pfx.refl _) rr)) q1
          · rename_i kvs hm
            obtain ⟨o, es, hh, rr⟩ := C1.ent _ _ _ hm ha
            have hH := C1.up _ _ hh
            refine .inr ⟨es, .inr ⟨o, hH⟩, fun od was => ?_⟩
            have : od = o := by
              rcases was with w | w
              · rw [hH] at w; cases w; rfl
              · rw [hH] at w; cases w
            subst this
            rw [upd_self hH]
            exact k _ _ _ _ _ _ _ _ s1 C1 trivial (itr_keysT hh rr) q1
          · exact q1.elim
      · exact q1.elim
end DL
/-! sorted(d) -/
namespace DL
open PySem PySem.Spec PyProof.Rows L2
mutual
theorem nk_noas {h : Heap} : ∀ (d : PyData) (k : NestedKey) (u : Value) (as : List Addr), nk d = some k → Reads h u d as → as = []
  | .none, _, _, _, _, r => by cases r; rfl
  | .int _, _, _, _, _, r => by cases r; rfl
  | .tuple ds, k, u, as, e, r => by
    obtain ⟨ks, e', _⟩ := Option.map_eq_some_iff.mp (show (nkAll ds).map NestedKey.tup = some k from e)
    cases r with
    | tuple h1 h2 h3 h4 => exact nk_noass ds ks _ _ e' h4
  | .bool _, _, _, _, e, _ => by cases e
  | .str _, _, _, _, e, _ => by cases e
  | .list _, _, _, _, e, _ => by cases e
  | .dict _, _, _, _, e, _ => by cases e
theorem nk_noass {h : Heap} : ∀ (ds : List PyData) (ks : List NestedKey) (us : List Value) (as : List Addr), nkAll ds = some ks → ReadsAll h us ds as → as = []
  | [], _, _, _, _, r => by cases r; rfl
  | d :: ds, ks, us, as, e, r => by
    unfold nkAll at e
    split at e
    · rename_i k ks' e1 e2
      cases r with
      | cons a b => rw [nk_noas d k _ _ e1 a, nk_noass ds ks' _ _ e2 b]; rfl
    · cases e
end
theorem each_ix {α β : Type} {R : α → β → Prop} : ∀ {as : List α} {bs : List β}, as.length = bs.length → (∀ (i : Nat) a b, as[i]? = some a → bs[i]? = some b → R a b) → PySem.W.EachIs R as bs
  | [], [], _, _ => .nil
  | [], _ :: _, h, _ => by cases h
  | _ :: _, [], h, _ => by cases h
  | a :: as, b :: bs, h, f => .cons (f 0 a b rfl rfl) (each_ix (by simpa using h) fun i x y hx hy => f (i + 1) x y hx hy)
/-- the keys of a dict -/
def KeysAt (K : PySem.W.Frag) (S H : Hp) (a : Addr) (ds : List PyData) : Prop :=
  (∃ kvs : List (Key × V), Rd H a (.dK kvs) ∧ ds = kvs.map fun p => keyD p.1) ∨ ∃ es : List (NestedKey × Addr × V), Rd H a (dicT es a) ∧ (∀ p ∈ es, NkAt K S p.2.1 p.1) ∧ ds = es.map fun p => p.1.data
section
variable {X : Cx} {pins : List (Addr × Obj)} {σ : St} {S H : Hp} {s : Shared} {a : Addr} {ds : List PyData}
theorem keys_raw (I : Inv X pins σ H s) (up : Ext S H) (h : KeysAt X.K S H a ds) : (a == sysModules) = false ∧ ds.length ≤ sizeLine ∧ ∃ arr ep, s.heap.DictRaw a arr ep ∧ arr.size = ds.length ∧
    ∀ (i : Nat) (hi : i < arr.size) d, ds[i]? = some d → ∃ v, RelV v arr[i].key ∧ Dp X.K S v d ∧ Reads s.heap arr[i].key d [] := by
  rcases h with ⟨kvs, e, rfl⟩ | ⟨es, e, ks, rfl⟩
  · obtain ⟨z, hd, vs, rel, dd⟩ := dk_rd I.hok e
    obtain ⟨arr, ep, hr, hs, hk⟩ := dd.raw
    have hl : kvs.length = vs.length := Paired.length rel
    refine ⟨hd, by rw [List.length_map]; exact z, arr, ep, hr, by rw [hs, List.length_map, hl], fun i hi d hde => ?_⟩
    obtain ⟨p, hp, rfl⟩ := Option.map_eq_some_iff.mp (show (kvs[i]?).map (fun p => keyD p.1) = some d by rw [← List.getElem?_map]; exact hde)
    obtain ⟨q, hq, e1, _⟩ := paired_get rel hp
    obtain ⟨b1, _⟩ := hk i hi q.1 q.2 hq
    rw [← e1] at b1
    have rv : RelV (kV p.1) arr[i].key := relV_key (show keyIs p.1 arr[i].key = true from b1)
    refine ⟨kV p.1, rv, keyD_dp _, ?_⟩
    obtain ⟨as, r⟩ := Dp.reads I (keyD p.1) (kV p.1) _ (keyD_dp (S := H) p.1) rv
    revert r
    generalize arr[i].key = kk
    intro r
    cases hk2 : p.1 with
    | inl j => rw [hk2] at r; cases r; exact .int _ _
    | inr x => rw [hk2] at r; cases r; exact .str _ _
  · obtain ⟨z, hd, xs, rel, dd⟩ := dicT_of I e fun p hp => (ks p hp).mono up
    obtain ⟨arr, ep, hr, hs, hk⟩ := dd.raw
    have hl : es.length = xs.length := Paired.length rel
    refine ⟨hd, by rw [List.length_map]; exact z, arr, ep, hr, by rw [hs, List.length_map, hl], fun i hi d hde => ?_⟩
    obtain ⟨p, hp, rfl⟩ := Option.map_eq_some_iff.mp (show (es[i]?).map (fun p => p.1.data) = some d by rw [← List.getElem?_map]; exact hde)
    obtain ⟨q, hq, e1, e2, _⟩ := paired_get rel hp
    obtain ⟨y, hy, k1, _⟩ := hk i hi
    obtain rfl : q = y := Option.some.inj (hq.symm.trans hy)
    have nka := ks p (List.mem_of_getElem? hp)
    rw [e2] at nka
    refine ⟨.ref q.2.1, by rw [k1]; rfl, nka.data, ?_⟩
    obtain ⟨as, r⟩ := Dp.reads I _ _ (.ref q.2.1) (dp_ext up nka.data) rfl
    obtain ⟨dd2, _, q2⟩ := nka
    have nkd := (keyT_nk q2).1
    have : nk p.1.data = some p.1 := by rw [nk_data _ _ nkd]; exact nkd
    rw [nk_noas _ _ _ _ this r] at r
    rw [k1]; exact r
def rSortedK (K : PySem.W.Frag) : List V → Hp → VK → Prop := fun xs H Q => ∃ S a ds, Ext S H ∧ xs = [.ref a] ∧ KeysAt K S H a ds ∧ PySem.W.AllAlike ds ∧ PySem.W.Sortable ds ∧ PyData.depthAll ds ≤ 50 ∧
  ∀ vs p, DpAll K S vs (sortD ds) → H p = none → Q (.ref p) (upd H p (.lst vs))
theorem cr_sortedK {k : Nat} (hr : RoomG k X.A) : CallR X (.builtin "sorted") (rSortedK X.K) := by
  intro pins s σ H vs us Q I r h
  obtain ⟨S, a, ds, up, rfl, hK, al, so, dp, q⟩ := h
  obtain ⟨u, rfl, ru⟩ := r.one
  cases ru
  obtain ⟨nsm, hz, arr, ep, raw, hsz, ent⟩ := keys_raw I up hK
  have hun := hr.r.units
  refine Calls.call_function_entry kind_sorted plain_sorted entry_sorted (args_sorted1 _) ?_
  unfold Builtin.«sorted»
  refine wpAny_bind (m := checkCount "sorted" 1 1 _) (wpAny_pure ?_)
  refine wpAny_bind (PySem.W.kdu_collect (A := X.A.in1) (KdlSrc.rawDict (es := arr) (ep := ep) nsm) hr.r.hd raw (by rw [hsz]; exact hz) fun g tk acc keep hacc => ?_)
  have hl : acc.toList.length = ds.length := by rw [Array.length_toList, hacc.1, hsz]
  refine wpAny_bind (wpAny_newList ?_ (by rw [hl]; exact hz))
  have at0 : (g.push { cls := .type "list", data := .seq acc.toList.toArray }).get? g.objs.size = some (seqObj "list" acc.toList.toArray 0) := Heap.get?_push_size _ rfl
  have fit : ∀ (i : Nat) v d, acc.toList[i]? = some v → ds[i]? = some d → ∃ c, RelV c v ∧ Dp X.K S c d ∧ Reads s.heap v d [] := fun i v d hv hd => by
    obtain ⟨hi, rfl⟩ := hacc.2 i v (by rw [← Array.getElem?_toList]; exact hv)
    exact ent i hi d hd
  have e := each_ix (R := fun v d => ∃ c, RelV c v ∧ Dp X.K S c d) hl fun i v d hv hd => let ⟨c, r1, r2, _⟩ := fit i v d hv hd; ⟨c, r1, r2⟩
  have er := each_ix (R := fun v d => ∃ as, Reads (g.push { cls := .type "list", data := .seq acc.toList.toArray }) v (id d) as ∧ g.objs.size ∉ as) hl fun i v d hv hd =>
    let ⟨c, _, _, r3⟩ := fit i v d hv hd; ⟨[], PyProof.Rows.Reads.keeps (fun b o x => Heap.get?_push_of_some _ (keep b o x)) r3, List.not_mem_nil⟩
  have srt := PySem.W.list_sort_data (prog := X.prog) (w := X.w) (A := X.A.in1) (E := X.xe) (enc := id) (s := { s with heap := g.push { cls := .type "list", data := .seq acc.toList.toArray }, toks := tk }) (Q := fun v s' => EP X pins σ Q (.ref g.objs.size) s') at0 e er (by rw [List.map_id]; exact al) (by rw [List.map_id]; exact so) hz (fun d hd => by
    have := depth_le hd
    show X.A.units + 1 + 1 + d.depth < cLine
    omega) fun out ho eo => ?_
  · exact wpAny_bind (wpAny_holding (wpAny_mono srt (fun _ s' x => wpAny_pure ⟨_, rfl, x⟩) fun _ _ e => e))
  · obtain ⟨cs, ov, od⟩ := pair_each eo
    obtain ⟨ee, he'⟩ := sortedHeap_at (vs := acc.toList) (out := out.toArray) at0
    have I1 : Inv X pins σ H { s with heap := g, toks := tk } := I.kept keep
    have hlen : cs.length ≤ sizeLine := by rw [ov.length, ho]; exact hz
    refine ⟨.ref _, upd H g.objs.size (.lst cs), ?_, rfl, q _ _ od (I1.hok.fresh (Nat.le_refl _))⟩
    refine I1.laid (t' := tk) (fun b o x => ?_) (Nat.le_refl _) ⟨hlen, out, ee, ov, he'⟩
    have lt : b < g.objs.size := Heap.lt_size x
    rw [sortedHeap_old (Nat.ne_of_lt lt) (by rw [Heap.size_push]; exact Nat.lt_succ_of_lt lt)]
    exact Heap.get?_push_of_some _ x
end
end DL
namespace DL
open PySem PySem.Spec PyProof.Rows L2
def keysD (m : Store) : DV → Option (List PyData)
  | .own k => (match m[k]? with
    | some (.dK kvs) => some (kvs.map fun p => keyD p.1)
    | some (.fK kvs) => some (kvs.map fun p => keyD p.1)
    | some (.dT kvs) => some (kvs.map fun p => p.1.data)
    | some (.fT kvs) => some (kvs.map fun p => p.1.data)
    | _ => none)
  | _ => none
theorem kvr_keys {K : PySem.W.Frag} {S : Hp} {ad : List Addr} {vs : List (Key × V)} {kvs : List (Key × DV)} (r : KVR K S ad vs kvs) : (vs.map fun p => keyD p.1) = kvs.map fun p => keyD p.1 := by
  unfold KVR at r
  induction r with
  | nil => rfl
  | cons h t ih => rw [List.map_cons, List.map_cons, ih, h.1]
theorem ktr_keys2 {K : PySem.W.Frag} {S : Hp} {ad : List Addr} {es : List (NestedKey × Addr × V)} {kvs : List (NestedKey × DV)} (r : KTR K S ad es kvs) : (es.map fun p => p.1.data) = kvs.map fun p => p.1.data := by
  unfold KTR at r
  induction r with
  | nil => rfl
  | cons h t ih => rw [List.map_cons, List.map_cons, ih, h.1]
theorem keysD_at {K : PySem.W.Frag} {S F H : Hp} {ad : List Addr} {m : Store} (C : Core K H F S ad m) {v : V} {x : DV} {ds : List PyData} (r : VR K S ad v x) (h : keysD m x = some ds) : ∃ a, v = .ref a ∧ KeysAt K S H a ds := by
  unfold keysD at h
  split at h
  · cases r with
    | own ha =>
      rename_i a
      refine ⟨a, rfl, ?_⟩
      split at h
      · rename_i kvs hm
        cases h
        obtain ⟨_, vs, hh, rr⟩ := C.ent _ _ _ hm ha
        exact .inl ⟨vs, .inl hh, (kvr_keys rr).symm⟩
      · rename_i kvs hm
        cases h
        obtain ⟨o, vs, hh, rr⟩ := C.ent _ _ _ hm ha
        exact .inl ⟨vs, .inr ⟨o, C.up _ _ hh⟩, (kvr_keys rr).symm⟩
      · rename_i kvs hm
        cases h
        obtain ⟨_, es, hh, rr⟩ := C.ent _ _ _ hm ha
        exact .inr ⟨es, .inl hh, ktr_keys rr, (ktr_keys2 rr).symm⟩
      · rename_i kvs hm
        cases h
        obtain ⟨o, es, hh, rr⟩ := C.ent _ _ _ hm ha
        exact .inr ⟨es, .inr ⟨o, C.up _ _ hh⟩, ktr_keys rr, (ktr_keys2 rr).symm⟩
      · cases h
  · cases h
/-- sorted(x): a list, the keys of a dict -/
def gSortedA : List DV → Store → DQ → Prop := fun xs m Q => match xs with
  | [x] => (match keysD m x with
    | some ds => PySem.W.AllAlike ds ∧ PySem.W.Sortable ds ∧ PyData.depthAll ds ≤ 50 ∧ Q (.sh (.list (sortD ds))) m
    | none => gSortedF [x] m Q)
  | _ => False
theorem ll_sortedA {K : PySem.W.Frag} : LkA K (fun xs H Q => rSortedD K xs H Q ∨ rSortedK K xs H Q) gSortedA := by
  intro H F S ad m vs xs Qd Q C r h kq
  unfold gSortedA at h
  split at h
  · rename_i x
    split at h
    · rename_i ds e
      obtain ⟨v, rfl, rv⟩ := vrs1 r
      obtain ⟨a, rfl, ka⟩ := keysD_at C rv e
      exact .inr ⟨S, a, ds, C.up, rfl, ka, h.1, h.2.1, h.2.2.1, fun ws l hw hl => frz_new C hl (vrs_sh hw) kq h.2.2.2⟩
    · exact .inl (ll_sortedF _ _ _ _ _ _ _ _ _ C r h kq)
  · exact h.elim
theorem cr_sortedA {X : Cx} {k : Nat} (hr : RoomG k X.A) : CallR X (.builtin "sorted") (fun xs H Q => rSortedD X.K xs H Q ∨ rSortedK X.K xs H Q) := CallR.or (cr_sortedD hr) (cr_sortedK hr)
/-! ### xs[::-1] -/
abbrev dRevF (te : DT) : DT := fun δ m Q E => te δ m (fun x m1 => match x with
  | .sh (.list ds) => Q (.sh (.list ds.reverse)) m1
  | _ => False) E
theorem de_revF {X : Cx} {W : WX} {e : Expr} {te : DT} {k : Nat} {p1 p2 p3 pos : Pos} (he : DE X W e te) : DE X W (.Subscript e (.Slice none none (some (.UnaryOp .USub (.Constant (.int 1) k p1) p2)) p3) pos) (dRevF te) := by
  obtain ⟨t1, p1, h1⟩ := he
  refine ⟨_, pe_revL p1, fun σ H F S ad m δ Qd Ed Q C R h kq kx => ?_⟩
  refine h1 σ H F S ad m δ _ Ed _ C R h (fun v H1 F1 S1 ad1 m1 x s1 C1 rv q1 => ?_) kx
  split at q1
  · rename_i ds
    obtain ⟨a, vs, rfl, hs, rs⟩ := seqL_at (x := .sh (.list ds)) C1 rv rfl
    refine ⟨a, vs, rfl, hs, fun p hp => ?_⟩
    have rr := rs.reverse
    rw [← List.map_reverse] at rr
    exact frz_new C1 hp rr (kq.stp s1) q1
  · exact q1.elim
end DL
/-! repr(d) -/
namespace DL
open PySem PySem.Spec PyProof.Rows L2
/-- the keys of a dict and what is kept under them -/
def KvAt (K : PySem.W.Frag) (S H : Hp) (a : Addr) (ks vs : List PyData) : Prop :=
  (∃ kvs : List (Key × V), Rd H a (.dK kvs) ∧ (ks = kvs.map fun p => keyD p.1) ∧ DpAll K S (kvs.map (·.2)) vs) ∨
  ∃ es : List (NestedKey × Addr × V), Rd H a (dicT es a) ∧ (∀ p ∈ es, NkAt K S p.2.1 p.1) ∧ (ks = es.map fun p => p.1.data) ∧ DpAll K S (es.map (·.2.2)) vs
theorem dpa_get {K : PySem.W.Frag} {S : Hp} : ∀ {vs : List V} {ds : List PyData} {i : Nat} {d : PyData}, DpAll K S vs ds → ds[i]? = some d → ∃ v, vs[i]? = some v ∧ Dp K S v d
  | _, _, _, _, .nil, e => by simp at e
  | _, _, 0, _, .cons a _, e => by cases e; exact ⟨_, rfl, a⟩
  | _, _, i + 1, d, .cons _ t, e => dpa_get (i := i) (d := d) t e
theorem readsAll_ix {h : Heap} : ∀ {us : List Value} {ds : List PyData}, us.length = ds.length → (∀ (i : Nat) u d, us[i]? = some u → ds[i]? = some d → ∃ as, Reads h u d as) → ∃ as, ReadsAll h us ds as
  | [], [], _, _ => ⟨[], .nil⟩
  | [], _ :: _, h, _ => by cases h
  | _ :: _, [], h, _ => by cases h
  | u :: us, d :: ds, h, f => by
    obtain ⟨as, r⟩ := f 0 u d rfl rfl
    obtain ⟨bs, t⟩ := readsAll_ix (us := us) (ds := ds) (by simpa using h) fun i x y hx hy => f (i + 1) x y hx hy
    exact ⟨_, .cons r t⟩
def dshow (ks vs : List PyData) : Str := dictText (List.zipWith (fun k v : Str => k ++ ": " ++ v) (PyData.shownAll ks) (PyData.shownAll vs))
def DFine (ks vs : List PyData) : Prop := fineL ks = true ∧ fineL vs = true ∧ (∀ t ∈ PyData.shownAll ks, t.length ≤ sizeLine) ∧ (∀ t ∈ PyData.shownAll vs, t.length ≤ sizeLine) ∧ (dshow ks vs).length ≤ sizeLine ∧ PyData.depthAll ks ≤ 50 ∧ PyData.depthAll vs ≤ 50
section
variable {X : Cx} {pins : List (Addr × Obj)} {σ : St} {S H : Hp} {s : Shared} {a : Addr} {ks vs : List PyData}
theorem kv_raw (I : Inv X pins σ H s) (up : Ext S H) (h : KvAt X.K S H a ks vs) : (a == sysModules) = false ∧ ks.length = vs.length ∧ ∃ arr ep, s.heap.DictRaw a arr ep ∧ arr.size = ks.length ∧
    (∃ as, ReadsAll s.heap (arr.toList.map (·.key)) ks as) ∧ ∃ as, ReadsAll s.heap (arr.toList.map (·.val)) vs as := by
  have fin : ∀ {arr : Array DictEntry}, arr.size = ks.length → ks.length = vs.length → (∀ (i : Nat) (hi : i < arr.size) k, ks[i]? = some k → ∃ as, Reads s.heap arr[i].key k as) →
      (∀ (i : Nat) (hi : i < arr.size) v, vs[i]? = some v → ∃ as, Reads s.heap arr[i].val v as) → (∃ as, ReadsAll s.heap (arr.toList.map (·.key)) ks as) ∧ ∃ as, ReadsAll s.heap (arr.toList.map (·.val)) vs as := by
    intro arr h1 h2 hk hv
    refine ⟨readsAll_ix (by rw [List.length_map, Array.length_toList, h1]) fun i u d hu hd => ?_, readsAll_ix (by rw [List.length_map, Array.length_toList, h1, h2]) fun i u d hu hd => ?_⟩
    · rw [List.getElem?_map, Array.getElem?_toList] at hu
      obtain ⟨e, he, rfl⟩ := Option.map_eq_some_iff.mp hu
      obtain ⟨hi, rfl⟩ := Array.getElem?_eq_some_iff.mp he
      exact hk i hi d hd
    · rw [List.getElem?_map, Array.getElem?_toList] at hu
      obtain ⟨e, he, rfl⟩ := Option.map_eq_some_iff.mp hu
      obtain ⟨hi, rfl⟩ := Array.getElem?_eq_some_iff.mp he
      exact hv i hi d hd
  rcases h with ⟨kvs, e, ek, dv⟩ | ⟨es, e, nks, ek, dv⟩
  · have len : ks.length = vs.length := by rw [ek, List.length_map, ← dpa_len dv, List.length_map]
    obtain ⟨nsm, hz, arr, ep, raw, hsz, ent⟩ := keys_raw I up (.inl ⟨kvs, e, ek⟩)
    obtain ⟨_, _, us, rel, dd⟩ := dk_rd I.hok e
    obtain ⟨arr2, ep2, raw2, hs2, hk2⟩ := dd.raw
    obtain ⟨o, g1, _, g2⟩ := id raw
    obtain ⟨o', g1', _, g2'⟩ := raw2
    rw [g1] at g1'; cases g1'
    rw [g2] at g2'; cases g2'
    refine ⟨nsm, len, arr, ep, raw, hsz, fin hsz len (fun i hi k hk => ?_) fun i hi v hv => ?_⟩
    · obtain ⟨c, _, _, r⟩ := ent i hi k hk; exact ⟨_, r⟩
    · obtain ⟨c, hc, dc⟩ := dpa_get dv hv
      obtain ⟨p, hp, rfl⟩ := Option.map_eq_some_iff.mp (show (kvs[i]?).map (·.2) = some c by rw [← List.getElem?_map]; exact hc)
      obtain ⟨q, hq, _, e2⟩ := paired_get rel hp
      obtain ⟨_, b2⟩ := hk2 i hi q.1 q.2 hq
      rw [b2]
      exact Dp.reads I v p.2 q.2 (dp_ext up dc) e2
  · have len : ks.length = vs.length := by rw [ek, List.length_map, ← dpa_len dv, List.length_map]
    obtain ⟨nsm, hz, arr, ep, raw, hsz, ent⟩ := keys_raw I up (.inr ⟨es, e, nks, ek⟩)
    obtain ⟨_, _, xs, rel, dd⟩ := dicT_of I e fun p hp => (nks p hp).mono up
    obtain ⟨arr2, ep2, raw2, hs2, hk2⟩ := dd.raw
    obtain ⟨o, g1, _, g2⟩ := id raw
    obtain ⟨o', g1', _, g2'⟩ := raw2
    rw [g1] at g1'; cases g1'
    rw [g2] at g2'; cases g2'
    refine ⟨nsm, len, arr, ep, raw, hsz, fin hsz len (fun i hi k hk => ?_) fun i hi v hv => ?_⟩
    · obtain ⟨c, _, _, r⟩ := ent i hi k hk; exact ⟨_, r⟩
    · obtain ⟨c, hc, dc⟩ := dpa_get dv hv
      obtain ⟨p, hp, rfl⟩ := Option.map_eq_some_iff.mp (show (es[i]?).map (·.2.2) = some c by rw [← List.getElem?_map]; exact hc)
      obtain ⟨q, hq, _, _, e3⟩ := paired_get rel hp
      obtain ⟨y, hy, _, b2, _⟩ := hk2 i hi
      obtain rfl : q = y := Option.some.inj (hq.symm.trans hy)
      rw [b2]
      exact Dp.reads I v p.2.2 q.2.2 (dp_ext up dc) e3
def rReprD (K : PySem.W.Frag) : List V → Hp → VK → Prop := fun xs H Q => ∃ S a ks vs, Ext S H ∧ xs = [.ref a] ∧ KvAt K S H a ks vs ∧ DFine ks vs ∧ Q (.str (dshow ks vs)) H
theorem call_reprD {k : Nat} (nd : NoDig X.K) (hr : RoomG k X.A) : CallR X (.builtin "repr") (rReprD X.K) := by
  intro pins s σ H xs us Q I r h
  obtain ⟨S, a, ks, vs, up, rfl, hK, ⟨f1, f2, z1, z2, hz, d1, d2⟩, q⟩ := h
  obtain ⟨u, rfl, ru⟩ := vals1 r
  cases ru
  obtain ⟨nsm, len, arr, ep, ⟨o, g1, gc, g2⟩, hsz, ⟨as, rk⟩, bs, rv⟩ := kv_raw I up hK
  have nd' := nodig_of nd I.kIn I.nolimit
  obtain ⟨b1, hb1, k1⟩ := reprKs_of (prog := X.prog) (w := X.w) nd' rk f1 z1
  obtain ⟨b2, hb2, k2⟩ := reprKs_of (prog := X.prog) (w := X.w) nd' rv f2 z2
  have ef : (ks.zip vs).map (·.1) = ks := List.map_fst_zip (Nat.le_of_eq len)
  have es : (ks.zip vs).map (·.2) = vs := List.map_snd_zip (Nat.le_of_eq len.symm)
  have rd : Reads s.heap (.ref a) (.dict (ks.zip vs)) (a :: as ++ bs) := .dict g1 gc.1 g2 (by rw [ef]; exact rk) (by rw [es]; exact rv)
  have dk := PyData.depthAll_keys_le (ks.zip vs)
  have dv := PyData.depthAll_vals_le (ks.zip vs)
  rw [ef] at dk
  rw [es] at dv
  have hb : ReadAtMost s.heap (PyData.depthKv (ks.zip vs)) (b1 ++ b2) := (hb1.mono dk).append (hb2.mono dv)
  have na : a ∉ b1 ++ b2 := not_mem_of_deeper rd (by simp only [PyData.depth]; omega) hb
  have hun := hr.r.units
  refine call_repr_slot (by omega) ⟨o, g1, gc.1⟩ PySem.F.slot_dict_repr ?_
  refine call_dict_reprK (d := max (PyData.depthAll ks) (PyData.depthAll vs)) g1 gc.1 g2 nsm na (ReprEntriesK.of_two arr.toList _ _ (k1.more_le (fun b hb => List.mem_append_left _ hb) (Nat.le_max_left _ _)) (k2.more_le (fun b hb => List.mem_append_right _ hb) (Nat.le_max_right _ _))) hr.g (fun b _ => Clear.nil b)
    (by show X.A.units + 1 + (max (PyData.depthAll ks) (PyData.depthAll vs) + 1) < cLine; omega) (fun _ _ e => e) (fun h' u tk k => ⟨_, _, rfl, ?_⟩) hz
  exact ⟨.str (dshow ks vs), H, I.kept k, ⟨u, rfl⟩, q⟩
end
end DL
namespace DL
open PySem PySem.Spec PyProof.Rows L2
def kvD (m : Store) : DV → Option (List PyData × List PyData)
  | .own k => (match m[k]? with
    | some (.dK kvs) => (allSh (kvs.map (·.2))).map fun vs => (kvs.map fun p => keyD p.1, vs)
    | some (.fK kvs) => (allSh (kvs.map (·.2))).map fun vs => (kvs.map fun p => keyD p.1, vs)
    | some (.dT kvs) => (allSh (kvs.map (·.2))).map fun vs => (kvs.map fun p => p.1.data, vs)
    | some (.fT kvs) => (allSh (kvs.map (·.2))).map fun vs => (kvs.map fun p => p.1.data, vs)
    | _ => none)
  | _ => none
theorem kvr_vals {K : PySem.W.Frag} {S : Hp} {ad : List Addr} {κ : Type} {vs : List (κ × V)} {kvs : List (κ × DV)} (r : KVR K S ad vs kvs) : VRs K S ad (vs.map (·.2)) (kvs.map (·.2)) := by
  unfold KVR at r
  induction r with
  | nil => exact .nil
  | cons h t ih => exact .cons h.2 ih
theorem ktr_vals {K : PySem.W.Frag} {S : Hp} {ad : List Addr} {es : List (NestedKey × Addr × V)} {kvs : List (NestedKey × DV)} (r : KTR K S ad es kvs) : VRs K S ad (es.map (·.2.2)) (kvs.map (·.2)) := by
  unfold KTR at r
  induction r with
  | nil => exact .nil
  | cons h t ih => exact .cons h.2.2 ih
theorem kvD_at {K : PySem.W.Frag} {S F H : Hp} {ad : List Addr} {m : Store} (C : Core K H F S ad m) {v : V} {x : DV} {ks vs : List PyData} (r : VR K S ad v x) (h : kvD m x = some (ks, vs)) : ∃ a, v = .ref a ∧ KvAt K S H a ks vs := by
  unfold kvD at h
  split at h
  · cases r with
    | own ha =>
      rename_i a
      refine ⟨a, rfl, ?_⟩
      have inK : ∀ {us : List (Key × V)} {kvs : List (Key × DV)}, Rd H a (.dK us) → KVR K S ad us kvs → (allSh (kvs.map (·.2))).map (fun vs => (kvs.map fun p => keyD p.1, vs)) = some (ks, vs) → KvAt K S H a ks vs := by
        intro us kvs hh rr e
        obtain ⟨ws, hw, e⟩ := Option.map_eq_some_iff.mp e
        cases e
        have rv := kvr_vals rr
        rw [allSh_eq hw] at rv
        exact .inl ⟨us, hh, (kvr_keys rr).symm, sh_vrs rv⟩
      have inT : ∀ {es : List (NestedKey × Addr × V)} {kvs : List (NestedKey × DV)}, Rd H a (dicT es a) → KTR K S ad es kvs → (allSh (kvs.map (·.2))).map (fun vs => (kvs.map fun p => p.1.data, vs)) = some (ks, vs) → KvAt K S H a ks vs := by
        intro es kvs hh rr e
        obtain ⟨ws, hw, e⟩ := Option.map_eq_some_iff.mp e
        cases e
        have rv := ktr_vals rr
        rw [allSh_eq hw] at rv
        exact .inr ⟨es, hh, ktr_keys rr, (ktr_keys2 rr).symm, sh_vrs rv⟩
      split at h
      · rename_i kvs hm
        obtain ⟨_, us, hh, rr⟩ := C.ent _ _ _ hm ha
        exact inK (.inl hh) rr h
      · rename_i kvs hm
        obtain ⟨o, us, hh, rr⟩ := C.ent _ _ _ hm ha
        exact inK (.inr ⟨o, C.up _ _ hh⟩) rr h
      · rename_i kvs hm
        obtain ⟨_, es, hh, rr⟩ := C.ent _ _ _ hm ha
        exact inT (.inl hh) rr h
      · rename_i kvs hm
        obtain ⟨o, es, hh, rr⟩ := C.ent _ _ _ hm ha
        exact inT (.inr ⟨o, C.up _ _ hh⟩) rr h
      · cases h
  · cases h
def gReprA : List DV → Store → DQ → Prop := fun xs m Q => match xs with
  | [x] => (match kvD m x with
    | some (ks, vs) => DFine ks vs ∧ Q (.sh (.str (dshow ks vs))) m
    | none => gRepr [x] m Q)
  | _ => False
theorem ll_reprA {K : PySem.W.Frag} : LkA K (fun xs H Q => rRepr K xs H Q ∨ rReprD K xs H Q) gReprA := by
  intro H F S ad m vs xs Qd Q C rs q kq
  unfold gReprA at q
  split at q
  · rename_i x
    split at q
    · rename_i ks ws e
      obtain ⟨v, rfl, rv⟩ := vrs1 rs
      obtain ⟨a, rfl, ka⟩ := kvD_at C rv e
      exact .inr ⟨S, a, ks, ws, C.up, rfl, ka, q.1, kq _ _ _ _ _ _ _ (Stp.refl _ _ _) C (.sh (.str _)) q.2⟩
    · exact .inl (ll_repr _ _ _ _ _ _ _ _ _ C rs q kq)
  · exact q.elim
theorem call_reprA {X : Cx} {k : Nat} (nd : NoDig X.K) (hr : RoomG k X.A) : CallR X (.builtin "repr") (fun xs H Q => rRepr X.K xs H Q ∨ rReprD X.K xs H Q) := CallR.or (call_repr nd hr) (call_reprD nd hr)
end DL
namespace DL
open PySem PySem.Spec PyProof.Rows L2
/-! ### plain laws of what a dict holds -/
section
variable {κ : Type} [DecidableEq κ]
theorem valD_none {kvs : List (κ × DV)} {k : κ} : valD kvs k = none ↔ k ∉ kvs.map (·.1) := by
  unfold valD
  rw [Option.map_eq_none_iff, List.find?_eq_none]
  simp only [decide_eq_true_eq, List.mem_map, not_exists, not_and]
theorem valD_some {kvs : List (κ × DV)} {k : κ} {z : DV} (h : valD kvs k = some z) : (k, z) ∈ kvs := by
  unfold valD at h
  obtain ⟨p, hp, rfl⟩ := Option.map_eq_some_iff.mp h
  have h1 := List.find?_some hp
  have h2 := List.mem_of_find?_eq_some hp
  obtain ⟨a, b⟩ := p
  have : a = k := by simpa using h1
  subst this
  exact h2
theorem valD_isSome {kvs : List (κ × DV)} {k : κ} : (valD kvs k).isSome = true ↔ k ∈ kvs.map (·.1) := by
  have h : valD kvs k = none ↔ k ∉ kvs.map (·.1) := valD_none
  cases e : valD kvs k with
  | none => exact ⟨fun z => (by cases z), fun z => absurd z (h.mp e)⟩
  | some z => exact ⟨fun _ => Classical.byContradiction fun q => (by rw [h.mpr q] at e; cases e), fun _ => rfl⟩
theorem putD_keys (kvs : List (κ × DV)) (k : κ) (z : DV) : (putD kvs k z).map (·.1) = if k ∈ kvs.map (·.1) then kvs.map (·.1) else kvs.map (·.1) ++ [k] := by
  unfold putD
  by_cases h : k ∈ kvs.map (·.1)
  · rw [if_pos (valD_isSome.mpr h), if_pos h, List.map_map]
    refine List.map_congr_left fun p _ => ?_
    show (if p.1 = k then (p.1, z) else p).1 = p.1
    split <;> rfl
  · rw [if_neg fun q => h (valD_isSome.mp q), if_neg h, List.map_append]; rfl
theorem putD_mem {kvs : List (κ × DV)} {k : κ} {z : DV} {p : κ × DV} (h : p ∈ putD kvs k z) : p ∈ kvs ∨ p = (k, z) := by
  unfold putD at h
  split at h
  · obtain ⟨q, hq, rfl⟩ := List.mem_map.mp h
    split
    · rename_i e; exact .inr (by rw [e])
    · exact .inl hq
  · rcases List.mem_append.mp h with h | h
    · exact .inl h
    · exact .inr (List.mem_singleton.mp h)
theorem putD_len (kvs : List (κ × DV)) (k : κ) (z : DV) : (putD kvs k z).length ≤ kvs.length + 1 := by
  unfold putD
  split <;> simp
end
theorem lookD_K {m : Store} {k : Nat} {kvs : List (Key × DV)} {i : Int} (h : m[k]? = some (.dK kvs)) : lookD m (.own k) (.sh (.int i)) = some (valD kvs (.inl i)) := by
  show (match m[k]? with
    | some (.dK kvs) => (keyK (.int i)).map (valD kvs)
    | some (.dT kvs) => (keyT (.int i)).map (valD kvs)
    | some (.fK kvs) => (keyK (.int i)).map (valD kvs)
    | some (.fT kvs) => (keyT (.int i)).map (valD kvs)
    | _ => none) = _
  rw [h]; rfl
theorem lookD_fK {m : Store} {k : Nat} {kvs : List (Key × DV)} {i : Int} (h : m[k]? = some (.fK kvs)) : lookD m (.own k) (.sh (.int i)) = some (valD kvs (.inl i)) := by
  show (match m[k]? with
    | some (.dK kvs) => (keyK (.int i)).map (valD kvs)
    | some (.dT kvs) => (keyT (.int i)).map (valD kvs)
    | some (.fK kvs) => (keyK (.int i)).map (valD kvs)
    | some (.fT kvs) => (keyT (.int i)).map (valD kvs)
    | _ => none) = _
  rw [h]; rfl
end DL
namespace DL
open PySem PySem.Spec PyProof.Rows L2
/-! ### own lists of whole numbers -/
theorem shaped_ints (ns : List Int) : SeqAt.shaped (.list (ns.map .int)) = true := by
  have g : gnd (.list (ns.map .int)) = true := by unfold gnd; exact gnd_ints ns
  unfold SeqAt.shaped
  rw [canLay_gnd g, Bool.true_and]
  exact decide_eq_true (by simp only [PyData.depth]; rw [depth_ints]; decide)
theorem gEq_own {m : Store} {k : Nat} {ns es : List Int} {neg : Bool} {Q : DQ} (hm : m[k]? = some (.lst ((ns.map PyData.int).map .sh))) (q : ∀ b : Bool, (b = true ↔ ns = es) → Q (.sh (.bool (if neg then !b else b))) m) : gEq neg (.own k) (.sh (.list (es.map .int))) m Q := by
  have h1 : dat m deep (.own k) = some (.list (ns.map .int)) := dat_own hm
  show (match dat m deep (.own k), dat m deep (.sh (.list (es.map .int))) with
    | some d, some e => (SeqAt.shaped d = true ∧ SeqAt.shaped e = true) ∧ Q (.sh (.bool (if neg then !PyData.eqv d e else PyData.eqv d e))) m
    | _, _ => False)
  rw [h1, dat_sh]
  refine ⟨⟨shaped_ints ns, shaped_ints es⟩, q _ ?_⟩
  have g1 : gnd (.list (ns.map PyData.int)) = true := by unfold gnd; exact gnd_ints ns
  have g2 : gnd (.list (es.map PyData.int)) = true := by unfold gnd; exact gnd_ints es
  rw [eqv_gnd g1 g2]
  constructor
  · intro h
    injection h with h
    exact (List.map_inj_right fun a b e => by cases e; rfl).mp h
  · intro h; rw [h]
theorem any_ints (y : Int) : ∀ ns : List Int, ((ns.map PyData.int).any fun z => PyData.eqv z (.int y)) = decide (y ∈ ns)
  | [] => by simp
  | n :: ns => by
    rw [List.map_cons, List.any_cons, any_ints y ns]
    by_cases h : n = y
    · subst h; simp [PyData.eqv]
    · have : PyData.eqv (.int n) (.int y) = false := by simp [PyData.eqv, h]
      rw [this]
      have h2 : ¬ y = n := fun e => h e.symm
      simp [List.mem_cons, h2]
theorem inD_own {m : Store} {k : Nat} {ns : List Int} {y : Int} {neg : Bool} {Q : DQ} (hm : m[k]? = some (.lst ((ns.map PyData.int).map .sh))) (q : Q (.sh (.bool (if neg then !decide (y ∈ ns) else decide (y ∈ ns)))) m) : gInD neg (.sh (.int y)) (.own k) m Q := by
  have h1 : dat m deep (.own k) = some (.list (ns.map .int)) := dat_own hm
  have h0 : lookD m (.own k) (.sh (.int y)) = none := by
    show (match m[k]? with
      | some (.dK kvs) => (keyK (.int y)).map (valD kvs)
      | some (.dT kvs) => (keyT (.int y)).map (valD kvs)
      | some (.fK kvs) => (keyK (.int y)).map (valD kvs)
      | some (.fT kvs) => (keyT (.int y)).map (valD kvs)
      | _ => none) = none
    rw [hm]
  unfold gInD
  rw [h0]
  show (match dat m deep (.sh (.int y)), dat m deep (.own k) with
    | some d, some (.list ds) => (SeqAt.shaped d = true ∧ SeqAt.shaped (.list ds) = true) ∧ Q (.sh (.bool (if neg then !ds.any (fun z => PyData.eqv z d) else ds.any fun z => PyData.eqv z d))) m
    | _, _ => False)
  rw [dat_sh, h1]
  refine ⟨⟨rfl, shaped_ints ns⟩, ?_⟩
  rw [any_ints]; exact q
theorem inD_sh {m : Store} {ns : List Int} {y : Int} {neg : Bool} {Q : DQ} (q : Q (.sh (.bool (if neg then !decide (y ∈ ns) else decide (y ∈ ns)))) m) : gInD neg (.sh (.int y)) (.sh (.list (ns.map .int))) m Q := by
  show (match dat m deep (.sh (.int y)), dat m deep (.sh (.list (ns.map .int))) with
    | some d, some (.list ds) => (SeqAt.shaped d = true ∧ SeqAt.shaped (.list ds) = true) ∧ Q (.sh (.bool (if neg then !ds.any (fun z => PyData.eqv z d) else ds.any fun z => PyData.eqv z d))) m
    | _, _ => False)
  rw [dat_sh, dat_sh]
  refine ⟨⟨rfl, shaped_ints ns⟩, ?_⟩
  rw [any_ints]; exact q
def sortZ (ns : List Int) : List Int := ns.mergeSort fun a b => decide (a ≤ b)
theorem sortD_ints (ns : List Int) : sortD (ns.map .int) = (sortZ ns).map .int := by
  unfold sortD sortZ
  rw [← List.map_mergeSort (r := PySem.W.dataLe false PyData.int) (s := PySem.W.dataLe false id) (f := PyData.int) (fun _ _ _ _ => rfl)]
  have : PySem.W.dataLe false PyData.int = fun a b : Int => decide (a ≤ b) := PySem.W.dataLe_int fun a => a
  rw [this]
theorem sortZ_perm {ns ks : List Int} (h : ns.Perm ks) : sortZ ns = sortZ ks := by
  have srt : ∀ l : List Int, (sortZ l).Pairwise fun a b => decide (a ≤ b) = true := fun l => List.pairwise_mergeSort (le := fun a b => decide (a ≤ b)) (fun a b c h1 h2 => by simp only [decide_eq_true_eq] at *; omega) (fun a b => by simp only [Bool.or_eq_true, decide_eq_true_eq]; omega) l
  refine List.Perm.eq_of_pairwise (le := fun a b => decide (a ≤ b) = true) (fun a b _ _ h1 h2 => by simp only [decide_eq_true_eq] at *; omega) (srt ns) (srt ks) ?_
  exact (List.mergeSort_perm ns _).trans (h.trans (List.mergeSort_perm ks _).symm)
theorem alike_ints (ns : List Int) : PySem.W.AllAlike (ns.map PyData.int) ∧ PySem.W.Sortable (ns.map PyData.int) ∧ PyData.depthAll (ns.map PyData.int) ≤ 50 := by
  refine ⟨fun d hd e he => ?_, .inr fun d hd => ?_, by rw [depth_ints]; decide⟩
  · obtain ⟨i, _, rfl⟩ := List.mem_map.mp hd
    obtain ⟨j, _, rfl⟩ := List.mem_map.mp he
    rfl
  · obtain ⟨i, _, rfl⟩ := List.mem_map.mp hd
    exact ⟨(fun h => nomatch h), fun xs h => nomatch h⟩
end DL
namespace DL
open PySem PySem.Spec PyProof.Rows L2
/-- a comprehension whose walk is over what a call has made: the store is another one -/
theorem r_lcX {α β : Type} (enc : α → DV) (p : α → Bool) (f : α → PyData) (B : β → Prop) (M : β → Store) {as : List α} {ti : DTI} {g : DTG} {tt : DTB} {te : DT} {vs : List Nat} {δ : DEnv} {m : Store} {Q : DQ} {E : DXK}
    (hi : ∀ Q' : List DV → (Store → Prop) → Store → Prop, (∀ b, B b → ∀ kp : Store → Prop, (∀ m', kp m') → Q' (as.map enc) kp (M b)) → ti δ m Q' E) (hn : as.length ≤ 16777216)
    (turn : ∀ b, B b → ∀ a ∈ as, ∀ (Y : DQ) (N : Store → Prop), (p a = true → Y (.sh (f a)) (M b)) → (p a = false → N (M b)) → g (enc a) (dwipe δ vs) (M b) fun δ2 m3 => tt δ2 m3 (fun b m4 => if b = true then te δ2 m4 Y noE else N m4) noE)
    (q : ∀ b, B b → Q (.own (M b).length) (M b ++ [.lst (((as.filter p).map f).map .sh)])) : dLc ti g tt te vs δ m Q E := by
  refine hi _ fun bb hB kp hk => ?_
  have turn := turn bb hB
  have q := q bb hB
  revert turn q
  generalize M bb = m2
  intro turn q
  refine ⟨fun rest acc m' => m' = m2 ∧ ∃ pre bs, as = pre ++ bs ∧ rest = bs.map enc ∧ acc = ((pre.filter p).map f).map .sh, ⟨rfl, [], as, rfl, rfl, rfl⟩, ?_, ?_, ?_⟩
  · rintro rest acc m' ⟨rfl, _⟩; exact hk _
  · rintro x rest acc m' ⟨rfl, pre, bs, ea, er, rfl⟩
    cases bs with
    | nil => cases er
    | cons b bs =>
      cases er
      have hl : (((pre.filter p).map f).map DV.sh).length < sizeLine := by
        have h1 : (pre.filter p).length ≤ pre.length := List.length_filter_le _ _
        rw [List.length_map, List.length_map, PySem.sizeLine_eq]
        rw [ea, List.length_append, List.length_cons] at hn
        omega
      have st : ∀ c : Bool, p b = c → (pre ++ [b]).filter p = pre.filter p ++ (if c then [b] else []) := fun c hc => by
        rw [List.filter_append]
        cases c <;> simp [List.filter_cons, hc]
      refine turn b (by rw [ea]; simp) _ _ (fun h => ⟨hl, .inl ⟨Nat.le_refl _, rfl, pre ++ [b], bs, by rw [ea]; simp, rfl, ?_⟩⟩) fun h => .inl ⟨Nat.le_refl _, rfl, pre ++ [b], bs, by rw [ea]; simp, rfl, ?_⟩
      · rw [st true h, List.map_append, List.map_append]; rfl
      · rw [st false h]; simp
  · rintro acc m' ⟨rfl, pre, bs, ea, er, rfl⟩
    cases bs with
    | cons b bs => cases er
    | nil =>
      rw [List.append_nil] at ea
      subst ea
      exact q
end DL
namespace DL
open PySem PySem.Spec PyProof.Rows L2
theorem locS_at {f : LSpec} {k : Nat} {e : Ent} {ys : List DV} {m : Store} {Q : DQ} {E : DXK} (hk : m[k]? = some e) (fl : e.flat) (hy : ∀ y ∈ ys, argOk 1 y) (h : f ys [e] (lrQ m Q) (fun x => E x m)) : locS f (ys.map (renK [k])) m Q E := by
  refine ⟨[k], [e], ys, by simp, rfl, fun i j q => ?_, fun i u q => ?_, rfl, fun y hm => hy y hm, h⟩
  · cases i with
    | zero => cases q; exact ⟨hk, (List.getElem?_eq_some_iff.mp hk).1⟩
    | succ i => simp at q
  · cases i with
    | zero => cases q; exact fl
    | succ i => simp at q
theorem locS_m3 {f : LSpec} {k : Nat} {e : Ent} {a b : PyData} {m : Store} {Q : DQ} {E : DXK} (hk : m[k]? = some e) (fl : e.flat) (h : f [.sh a, .own 0, .sh b] [e] (lrQ m Q) (fun x => E x m)) : locS f [.sh a, .own k, .sh b] m Q E :=
  locS_at hk fl (ys := [.sh a, .own 0, .sh b]) (by simp [argOk]) h
theorem locS_m2 {f : LSpec} {k : Nat} {e : Ent} {a : PyData} {m : Store} {Q : DQ} {E : DXK} (hk : m[k]? = some e) (fl : e.flat) (h : f [.sh a, .own 0] [e] (lrQ m Q) (fun x => E x m)) : locS f [.sh a, .own k] m Q E :=
  locS_at hk fl (ys := [.sh a, .own 0]) (by simp [argOk]) h
end DL
namespace DL
open PySem PySem.Spec PyProof.Rows L2
/-- a list and a list, an own one -/
def gAddO : DV → DV → Store → DQ → Prop := fun x y m Q => match seqL m x, seqL m y with
  | some xs, some ys => Nat.ble (xs.length + ys.length) sizeLine = true ∧ Q (.own m.length) (m ++ [.lst (xs ++ ys)])
  | _, _ => False
theorem ll_addO {K : PySem.W.Frag} : Lk2 K (rAddF K) gAddO := by
  intro H F S ad m v u x y Qd Q C rv ru q kq
  unfold gAddO at q
  split at q
  · rename_i xs ys ex ey
    obtain ⟨l, vs, rfl, hs, rs⟩ := seqL_at C rv ex
    obtain ⟨b, us, rfl, hs', rs'⟩ := seqL_at C ru ey
    refine .inr ⟨l, b, vs, us, rfl, rfl, hs, hs', by rw [rs.length, rs'.length]; exact Nat.le_of_ble_eq_true q.1, fun p hp => ?_⟩
    obtain ⟨C', st⟩ := C.newE (e := .lst (xs ++ ys)) hp ⟨C.noF hp, vs ++ us, upd_same, (rs.append rs').stp (C.newE (e := .gone) (o := .lst (vs ++ us)) hp trivial).2⟩
    exact kq _ _ _ _ _ _ _ st C' (.own (new_own C p)) q.2
  · exact q.elim
theorem de_addO {X : Cx} {W : WX} {a b : Expr} {ta tb : DT} {pos : Pos} (ha : DE X W a ta) (hb : DE X W b tb) : DE X W (.BinOp a .Add b pos) (dBin gAddO ta tb) := de_op (OpR.or lo_add op_catL) ll_addO ha hb
end DL
namespace DL
open PySem PySem.Spec PyProof.Rows L2
/-- a dict that a call has just made is walked -/
theorem any_new {m : Store} {kvs : List (Key × DV)} {δ : DEnv} {m0 : Store} {Q : List DV → (Store → Prop) → Store → Prop} {E : DXK} (q : Q (kvs.map fun p => .sh (keyD p.1)) (fun _ => True) (m ++ [.fK kvs])) :
    dIAny (fun _ _ Q _ => Q (.own m.length) (m ++ [.dK kvs])) δ m0 Q E := by
  have at0 : (m ++ [Ent.dK kvs])[m.length]? = some (.dK kvs) := by rw [List.getElem?_append_right (Nat.le_refl _), Nat.sub_self]; rfl
  have nl : seqL (m ++ [Ent.dK kvs]) (.own m.length) = none := by
    show (match (m ++ [Ent.dK kvs])[m.length]? with
      | some (.lst xs) => some xs
      | some (.frz (.list ds)) => some (ds.map .sh)
      | _ => none) = none
    rw [at0]
  have st : (m ++ [Ent.dK kvs]).set m.length (.fK kvs) = m ++ [.fK kvs] := by rw [List.set_append_right _ _ (Nat.le_refl _), Nat.sub_self]; rfl
  show (match seqL (m ++ [Ent.dK kvs]) (.own m.length) with
    | some xs => Q xs (fun m' => seqL m' (.own m.length) = some xs) (m ++ [Ent.dK kvs])
    | none => (match (m ++ [Ent.dK kvs])[m.length]? with
        | some (.dK kvs') => Q (kvs'.map fun p => .sh (keyD p.1)) (fun _ => True) ((m ++ [Ent.dK kvs]).set m.length (.fK kvs'))
        | some (.fK kvs') => Q (kvs'.map fun p => .sh (keyD p.1)) (fun _ => True) (m ++ [Ent.dK kvs])
        | some (.dT kvs') => Q (kvs'.map fun p => .sh p.1.data) (fun _ => True) ((m ++ [Ent.dK kvs]).set m.length (.fT kvs'))
        | some (.fT kvs') => Q (kvs'.map fun p => .sh p.1.data) (fun _ => True) (m ++ [Ent.dK kvs])
        | _ => False))
  rw [nl, at0]
  show Q _ _ ((m ++ [Ent.dK kvs]).set m.length (.fK kvs))
  rw [st]; exact q
theorem addO_ok {m : Store} {k : Nat} {ws us : List PyData} {Q : DQ} (hm : m[k]? = some (.lst (ws.map .sh))) (hz : ws.length + us.length ≤ 16777216) (q : Q (.own m.length) (m ++ [.lst ((ws ++ us).map .sh)])) : gAddO (.own k) (.sh (.list us)) m Q := by
  unfold gAddO
  rw [seqL_own hm, show seqL m (.sh (.list us)) = some (us.map .sh) from rfl]
  refine And.intro (Nat.ble_eq_true_of_le (by rw [List.length_map, List.length_map, PySem.sizeLine_eq]; exact hz)) ?_
  rw [← List.map_append]; exact q
end DL
namespace DL
open PySem PySem.Spec PyProof.Rows L2
/-! ### lists of lists of whole numbers -/
def rowZ (l : List Int) : PyData := .list (l.map .int)
theorem rowZ_inj {a b : List Int} (h : rowZ a = rowZ b) : a = b := by
  unfold rowZ at h
  injection h with h
  exact (List.map_inj_right fun a b e => by cases e; rfl).mp h
theorem gnd_row (l : List Int) : gnd (rowZ l) = true := by unfold rowZ gnd; exact gnd_ints l
theorem gnd_rows : ∀ cs : List (List Int), gndL (cs.map rowZ) = true
  | [] => rfl
  | c :: cs => by show (gnd (rowZ c) && gndL (cs.map rowZ)) = true; rw [gnd_row, gnd_rows cs]; rfl
theorem depth_row (l : List Int) : (rowZ l).depth = 1 := by unfold rowZ; simp only [PyData.depth]; rw [depth_ints]
theorem depth_rows : ∀ cs : List (List Int), PyData.depthAll (cs.map rowZ) ≤ 1
  | [] => by simp [PyData.depthAll]
  | c :: cs => by
    rw [List.map_cons]
    simp only [PyData.depthAll]
    rw [depth_row]
    have := depth_rows cs
    omega
theorem any_rows (s : List Int) : ∀ cs : List (List Int), ((cs.map rowZ).any fun z => PyData.eqv z (rowZ s)) = decide (s ∈ cs)
  | [] => by simp
  | c :: cs => by
    rw [List.map_cons, List.any_cons, any_rows s cs]
    have e : PyData.eqv (rowZ c) (rowZ s) = decide (c = s) := by
      have := eqv_gnd (gnd_row c) (gnd_row s)
      by_cases h : c = s
      · rw [decide_eq_true h]; exact this.mpr (by rw [h])
      · rw [decide_eq_false h]
        cases hb : PyData.eqv (rowZ c) (rowZ s) with
        | false => rfl
        | true => exact absurd (rowZ_inj (this.mp hb)) h
    rw [e]
    by_cases h : c = s
    · subst h; simp
    · have h2 : ¬ s = c := fun e => h e.symm
      simp [List.mem_cons, h, h2]
theorem inD_rows {m : Store} {k : Nat} {cs : List (List Int)} {s : List Int} {neg : Bool} {Q : DQ} (hm : m[k]? = some (.lst ((cs.map rowZ).map .sh))) (q : Q (.sh (.bool (if neg then !decide (s ∈ cs) else decide (s ∈ cs)))) m) : gInD neg (.sh (rowZ s)) (.own k) m Q := by
  have h1 : dat m deep (.own k) = some (.list (cs.map rowZ)) := dat_own hm
  have h0 : lookD m (.own k) (.sh (rowZ s)) = none := by
    show (match m[k]? with
      | some (.dK kvs) => (keyK (rowZ s)).map (valD kvs)
      | some (.dT kvs) => (keyT (rowZ s)).map (valD kvs)
      | some (.fK kvs) => (keyK (rowZ s)).map (valD kvs)
      | some (.fT kvs) => (keyT (rowZ s)).map (valD kvs)
      | _ => none) = none
    rw [hm]
  unfold gInD
  rw [h0]
  show (match dat m deep (.sh (rowZ s)), dat m deep (.own k) with
    | some d, some (.list ds) => (SeqAt.shaped d = true ∧ SeqAt.shaped (.list ds) = true) ∧ Q (.sh (.bool (if neg then !ds.any (fun z => PyData.eqv z d) else ds.any fun z => PyData.eqv z d))) m
    | _, _ => False)
  rw [dat_sh, h1]
  refine ⟨⟨shaped_ints s, ?_⟩, ?_⟩
  · have g : gnd (.list (cs.map rowZ)) = true := by unfold gnd; exact gnd_rows cs
    unfold SeqAt.shaped
    rw [canLay_gnd g, Bool.true_and]
    exact decide_eq_true (by simp only [PyData.depth]; have := depth_rows cs; omega)
  · rw [any_rows]; exact q
theorem gEq_rows {a b : List Int} {neg : Bool} {m : Store} {Q : DQ} (q : Q (.sh (.bool (if neg then !decide (a = b) else decide (a = b)))) m) : gEq neg (.sh (rowZ a)) (.sh (rowZ b)) m Q := by
  refine gEq_gnd (gnd_row a) (gnd_row b) (by rw [depth_row]; decide) (by rw [depth_row]; decide) fun c hc => ?_
  have : c = decide (a = b) := by
    by_cases h : a = b
    · rw [decide_eq_true h]; exact hc.mpr (by rw [h])
    · rw [decide_eq_false h]
      cases c with
      | false => rfl
      | true => exact absurd (rowZ_inj (hc.mp rfl)) h
  rw [this]; exact q
end DL
namespace DL
open PySem PySem.Spec PyProof.Rows L2
theorem cut_to {α : Type} (xs : List α) (p : Nat) : cut xs none (some (p : Int)) = xs.take p := by
  unfold cut HT.sIx
  simp only [Nat.sub_zero, List.drop_zero]
  have h : ¬ ((p : Int) < 0) := by omega
  simp only [h, if_false, Int.toNat_natCast]
  rw [show min p xs.length = min p xs.length from rfl, List.take_eq_take_iff]
  omega
theorem cut_from {α : Type} (xs : List α) (p : Nat) : cut xs (some (p : Int)) none = xs.drop p := by
  unfold cut HT.sIx
  have h : ¬ ((p : Int) < 0) := by omega
  simp only [h, if_false, Int.toNat_natCast]
  by_cases hp : p ≤ xs.length
  · rw [Nat.min_eq_left hp, List.take_of_length_le (by rw [List.length_drop]; omega)]
  · rw [Nat.min_eq_right (by omega), List.drop_of_length_le (Nat.le_refl _), List.drop_of_length_le (by omega)]; simp
end DL
/-! loops over a state of one's own; what is not in it is forgotten -/
namespace DL
open PySem PySem.Spec PyProof.Rows L2
theorem Fgt.refl' {n : Nat} : ∀ {δ : DEnv}, (∀ x, some x ∈ δ → x.sc n) → Fgt n δ δ
  | [], _ => .nil
  | none :: δ, h => .drop (Fgt.refl' fun x hx => h x (List.mem_cons_of_mem _ hx))
  | some x :: δ, h => .keep (h x List.mem_cons_self) (Fgt.refl' fun y hy => h y (List.mem_cons_of_mem _ hy))
theorem wk_fg {n k : Nat} {I : DEnv → Store → Prop} {δ δ0 : DEnv} {m : Store} (f : Fgt k δ δ0) (hn : n ≤ m.length) (h : I δ0 m) : WkI n I δ m :=
  ⟨δ0, m, .same (fun i x e => (f.at.2 i x e).1) f.at.1 rfl, hn, h⟩
/-- a loop; a turn may leave new entries behind -/
theorem r_loop {α S : Type} (enc : α → DV) (env : S → DEnv) (mem : S → Store) (Inv : List α → S → Prop) {as : List α} {s0 : S} {ti : DTI} {g : DTG} {tb : DTS} {D : DEnds} {δ : DEnv} {m : Store}
    (hi : ∀ Q' : List DV → (Store → Prop) → Store → Prop, (∀ kp : Store → Prop, (∀ s, kp (mem s)) → Q' (as.map enc) kp (mem s0)) → ti δ m Q' (fun x m1 => D.ex x δ m1))
    (h0 : Fgt (mem s0).length δ (env s0)) (hI : Inv as s0) (hl : ∀ s, (mem s0).length ≤ (mem s).length)
    (turn : ∀ a rest s, Inv (a :: rest) s → ∀ K : DEnv → Store → Prop, (∀ s' δ2, Inv rest s' → Fgt (mem s').length δ2 (env s') → K δ2 (mem s')) → (∀ s' δ2 t, Inv rest s' → Fgt (mem s').length δ2 (env s') → Scp (mem s') → K δ2 (mem s' ++ t)) →
      g (enc a) (env s) (mem s) (fun δ2 m2 => tb { D with nx := K, ct := K, bk := D.nx } δ2 m2))
    (done : ∀ s, Inv [] s → D.nx (env s) (mem s)) : dFor ti g tb D δ m := by
  refine hi _ fun kp hk => ⟨fun rest δ' m' => ∃ bs s, rest = bs.map enc ∧ δ' = env s ∧ m' = mem s ∧ Inv bs s, wk_fg h0 (Nat.le_refl _) ⟨as, s0, rfl, rfl, rfl, hI⟩, ?_, ?_, ?_⟩
  · rintro rest δ' m' ⟨bs, s, rfl, rfl, rfl, _⟩; exact ⟨hk s, hl s⟩
  · rintro x rest δ' m' ⟨bs, s, e, rfl, rfl, h⟩
    cases bs with
    | nil => cases e
    | cons b bs =>
      cases e
      refine turn b bs s h _ (fun s' δ2 hi' f => ?_) fun s' δ2 t hi' f sc => ?_
      · exact wk_fg f (hl s') ⟨bs, s', rfl, rfl, rfl, hi'⟩
      · exact wk_cut f sc (hl s') ⟨bs, s', rfl, rfl, rfl, hi'⟩
  · rintro δ' m' ⟨bs, s, e, rfl, rfl, h⟩
    cases bs with
    | cons b bs => cases e
    | nil => exact done s h
theorem dictText_len (ps : List Str) : (dictText ps).length ≤ (ps.map (·.length)).sum + 2 * ps.length + 2 := by
  have q := StrLaws.join_length_le ", " ps
  have e : (dictText ps).length = 1 + (Str.join ", " ps).length + 1 := by
    unfold dictText
    rw [strLen_append, strLen_append]; rfl
  have c : (Str.ofString ", ").length = 2 := rfl
  rw [c] at q
  omega
theorem zw_len : ∀ (ks vs : List Str), ((List.zipWith (fun k v : Str => k ++ ": " ++ v) ks vs).map (·.length)).sum ≤ (ks.map (·.length)).sum + (vs.map (·.length)).sum + 2 * ks.length ∧ (List.zipWith (fun k v : Str => k ++ ": " ++ v) ks vs).length ≤ ks.length
  | [], vs => by simp
  | k :: ks, [] => by simp
  | k :: ks, v :: vs => by
    have := zw_len ks vs
    simp only [List.zipWith_cons_cons, List.map_cons, List.sum_cons, List.length_cons]
    have e : (k ++ ": " ++ v).length = k.length + 2 + v.length := by rw [strLen_append, strLen_append]; rfl
    rw [e]; omega
theorem shown_le {B D : Nat} : ∀ {ds : List PyData}, (∀ d ∈ ds, SB B D d) → ∀ t ∈ PyData.shownAll ds, t.length ≤ B
  | [], _, t, h => by simp [PyData.shownAll] at h
  | d :: ds, h, t, ht => by
    simp only [PyData.shownAll] at ht
    rcases List.mem_cons.mp ht with rfl | ht
    · exact (h d List.mem_cons_self).2.1
    · exact shown_le (fun x hx => h x (List.mem_cons_of_mem _ hx)) t ht
theorem dfine_of {ks vs : List PyData} {B D n : Nat} (hk : ∀ d ∈ ks, SB B D d) (hv : ∀ d ∈ vs, SB B D d) (ln : ks.length ≤ n) (lv : vs.length ≤ n) (hB : n * (2 * B + 4) + 2 ≤ 16777216) (hB2 : B ≤ 16777216) (hD : D ≤ 50) : DFine ks vs := by
  obtain ⟨a1, a2, a3, a4⟩ := sb_all hk
  obtain ⟨b1, b2, b3, b4⟩ := sb_all hv
  refine ⟨a1, b1, fun t ht => by rw [PySem.sizeLine_eq]; exact Nat.le_trans (shown_le hk t ht) hB2, fun t ht => by rw [PySem.sizeLine_eq]; exact Nat.le_trans (shown_le hv t ht) hB2, ?_, by omega, by omega⟩
  have h1 := dictText_len (List.zipWith (fun k v : Str => k ++ ": " ++ v) (PyData.shownAll ks) (PyData.shownAll vs))
  obtain ⟨h2, h3⟩ := zw_len (PyData.shownAll ks) (PyData.shownAll vs)
  unfold dshow
  rw [PySem.sizeLine_eq]
  have c1 : ks.length * B ≤ n * B := Nat.mul_le_mul_right _ ln
  have c2 : vs.length * B ≤ n * B := Nat.mul_le_mul_right _ lv
  have c3 : n * (2 * B + 4) = 2 * (n * B) + 4 * n := by rw [Nat.mul_add, Nat.mul_comm n 4, Nat.mul_left_comm]
  rw [a3] at h2 h3
  omega
end DL
namespace Lk20
open PySem PySem.Spec PyProof.Rows L2 DL
def c_ZERO : PyData := (.tuple [(.int 0), (.int 1)])
abbrev N__law_drawer_of : List Str := ["_law_script", "_law_numbers", "_law_place", "_law_number"]
abbrev rd__law_drawer_of : DTS :=
    (dSeq (dAsg (dLc (dISeq (dCut (dVar 0) dNoPart (dPart (dC (.sh (.int 15)))))) (hName 3) dYes (dCB gAbs (dCons (dVar 3) dNil)) [3]) (hName 1))
    (dSeq (dFor (dIEnum (dCons (dCut (dVar 0) (dPart (dC (.sh (.int 15)))) (dPart (dC (.sh (.int 60))))) dNil)) (hTup 2 (hCons (hName 2) (hCons (hName 3) hNil))) (dAsg (dBin gAdd (dBin gIx (dVar 1) (dBin gMod (dVar 2) (dC (.sh (.int 15))))) (dCB gAbs (dCons (dVar 3) dNil))) (hSub gSetL (dVar 1) (dBin gMod (dVar 2) (dC (.sh (.int 15)))))))
    (dRet (dLst (dCons (dVar 1) (dCons (dC (.sh (.int 0))) (dCons (dC (.sh (.int 0))) (dCons (dC (.sh (.int 0))) dNil))))))))
def spr__law_drawer_of : DSpec := fun xs m Q E => ∃ ns : List Int, xs = [.sh (.list (ns.map .int))] ∧ ns.length ≤ 63 ∧
  ∀ (nums : List Int) a b, nums.length ≤ 15 → Q (.own (m.length + 3)) (m ++ [a, .lst (nums.map fun n => .sh (.int n)), b, .lst (.own (m.length + 1) :: [(0 : Int), 0, 0].map fun i => .sh (.int i))])
theorem ln__law_drawer_of : ∀ xs m Q E, spr__law_drawer_of xs m Q E → xs.length = 1 := fun _ _ _ _ h => by obtain ⟨n, rfl, _⟩ := h; rfl
theorem cuts_len (ns : List Int) : (cut ns (some 15) (some 60) ≠ [] → (cut ns none (some 15)).length = 15) ∧ (cut ns none (some 15)).length ≤ 15 ∧ (cut ns (some 15) (some 60)).length ≤ ns.length := by
  refine ⟨fun h => ?_, ?_, cut_len _ _ _⟩
  rotate_left
  · unfold cut
    simp only [List.length_take, List.length_drop, HT.sIx]
    repeat' split
    all_goals omega
  have : 0 < (cut ns (some 15) (some 60)).length := List.length_pos_iff.mpr h
  unfold cut at this ⊢
  simp only [List.length_take, List.length_drop, HT.sIx] at this ⊢
  repeat' split at this
  all_goals (repeat' split)
  all_goals omega
theorem pl__law_drawer_of : Promise N__law_drawer_of rd__law_drawer_of spr__law_drawer_of := by
  intro xs m Qd Ed sc h
  obtain ⟨ns, rfl, hl, q⟩ := h
  obtain ⟨c1, c2, c3⟩ := cuts_len ns
  have e1 : cut ((ns.map PyData.int).map DV.sh) none (some 15) = (cut ns none (some 15)).map fun n => DV.sh (.int n) := by
    rw [cut_map, cut_map, List.map_map]; rfl
  have e2 : cut ((ns.map PyData.int).map DV.sh) (some 15) (some 60) = (cut ns (some 15) (some 60)).map fun n => DV.sh (.int n) := by
    rw [cut_map, cut_map, List.map_map]; rfl
  generalize cut ns none (some 15) = n1 at *
  generalize cut ns (some 15) (some 60) = n2 at *
  dsimp only [rd__law_drawer_of, dSeq, dAsg, dLc]
  refine dISeq_own (k := m.length) (m1 := m ++ [.lst (n1.map fun n => .sh (.int n))]) (fun Q' h => ?_) (app_at0 _ _ _) ?_
  · rw [← e1] at h; exact h
  refine Exists.intro (fun rest acc m' => m' = m ++ [.lst (n1.map fun n => .sh (.int n))] ∧ ∃ nums ms : List Int, acc = nums.map (fun n => DV.sh (.int n)) ∧ rest = ms.map (fun n => DV.sh (.int n)) ∧ nums.length + ms.length = n1.length) ⟨⟨rfl, [], n1, rfl, rfl, by simp⟩, ?_, ?_, ?_⟩
  · rintro rest acc m' ⟨rfl, _⟩
    exact seqL_own (app_at0 _ _ _)
  · rintro x rest acc m' ⟨rfl, nums, ms, rfl, hr, hn⟩
    cases ms with
    | nil => cases hr
    | cons y ms =>
      cases hr
      rw [List.length_cons] at hn
      refine And.intro (by rw [List.length_map, PySem.sizeLine_eq]; omega) (.inl ⟨Nat.le_refl _, rfl, nums ++ [if y < 0 then -y else y], ms, ?_, rfl, ?_⟩)
      · rw [List.map_append]; rfl
      · rw [List.length_append, List.length_singleton]; omega
  · rintro acc m' ⟨rfl, nums, ms, rfl, hr, hn⟩
    cases ms with
    | cons y ms => cases hr
    | nil =>
      have hn2 : n2 ≠ [] → nums.length = 15 := fun h => by have := c1 h; simp at hn; omega
      show dFor _ _ _ _ _ _
      have es : m ++ [Ent.lst (n1.map fun n => .sh (.int n))] ++ [Ent.lst (nums.map fun n => .sh (.int n))] = m ++ [Ent.lst (n1.map fun n => .sh (.int n)), .lst (nums.map fun n => .sh (.int n))] := by simp
      have el : (m ++ [Ent.lst (n1.map fun n => DV.sh (.int n))]).length = m.length + 1 := by simp
      rw [es, el]
      have es2 : m ++ [Ent.lst (n1.map fun n => .sh (.int n)), .lst (nums.map fun n => .sh (.int n))] ++ [.lst (n2.map fun n => .sh (.int n))] = m ++ [Ent.lst (n1.map fun n => .sh (.int n)), .lst (nums.map fun n => .sh (.int n)), .lst (n2.map fun n => .sh (.int n))] := by simp
      have el2 : (m ++ [Ent.lst (n1.map fun n => .sh (.int n)), .lst (nums.map fun n => .sh (.int n))]).length = m.length + 2 := by simp
      show match seqL (m ++ [Ent.lst (n1.map fun n => .sh (.int n)), .lst (nums.map fun n => .sh (.int n))] ++ [.lst (cut ((ns.map PyData.int).map DV.sh) (some 15) (some 60))]) (.own (m ++ [Ent.lst (n1.map fun n => .sh (.int n)), .lst (nums.map fun n => .sh (.int n))]).length) with
        | some ys => _
        | none => False
      rw [e2, el2, es2, seqL_own (app_at m _ 2)]
      refine Exists.intro (fun rest δ m' => ∃ (nums : List Int) (z1 z2 : Option DV) (ms : List (Int × Nat)), m' = m ++ [Ent.lst (n1.map fun n => .sh (.int n)), .lst (nums.map fun n => .sh (.int n)), .lst (n2.map fun n => .sh (.int n))] ∧
        δ = [some (.sh (.list (ns.map .int))), some (.own (m.length + 1)), z1, z2] ∧ rest = ms.map (fun p => DV.sh (.tuple [.int (p.2 : Int), .int p.1])) ∧ (ms ≠ [] → nums.length = 15) ∧ nums.length ≤ 15) ⟨⟨_, _, .same (fun _ _ h => h) rfl rfl, Nat.le_refl _, nums, none, none, n2.zipIdx, rfl, rfl, ?_, (fun h => hn2 fun e => h (by rw [e]; rfl)), by simp at hn; omega⟩, ?_, ?_, ?_⟩
      · unfold enD
        rw [List.zipIdx_map, List.map_map]; rfl
      · rintro rest δ m' ⟨nums, z1, z2, ms, rfl, rfl, rfl, hh, _⟩
        exact ⟨seqL_own (app_at m _ 2), by simp⟩
      · rintro x rest δ m' ⟨nums, z1, z2, ms, rfl, rfl, hr, hh, hlen⟩
        cases ms with
        | nil => cases hr
        | cons y ms =>
          cases hr
          have h15 := hh (List.cons_ne_nil _ _)
          refine And.intro rfl ?_
          show cNz _ _ ∧ _
          refine And.intro (nz_of rfl) ?_
          have bd := fmod_bd (y.2 : Int) (b := 15) (by decide)
          obtain ⟨j, ej⟩ := Int.eq_ofNat_of_zero_le bd.1
          have hj : j < nums.length := by rw [h15]; omega
          have ej2 : (y.2 : Int).fmod 15 = (j : Int) := ej
          show gIx (.own (m.length + 1)) (.sh (.int ((y.2 : Int).fmod 15))) _ _
          rw [ej2]
          refine gIx_own (x := .sh (.int nums[j])) (app_at m _ 1) (by rw [List.getElem?_map, List.getElem?_eq_getElem hj]; rfl) ?_
          show cNz _ _ ∧ gSetL (.own (m.length + 1)) (.sh (.int ((y.2 : Int).fmod 15))) _ _ _
          rw [ej2]
          refine And.intro (nz_of rfl) (gSetL_own (app_at m _ 1) (by rw [List.length_map]; exact hj) ?_)
          rw [app_set]
          refine ⟨_, _, .same (fun _ _ h => h) rfl rfl, by simp, nums.set j (nums[j] + if y.1 < 0 then -y.1 else y.1), _, _, ms, ?_, rfl, rfl, (fun _ => by rw [List.length_set]; exact h15), by rw [List.length_set]; exact hlen⟩
          rw [List.map_set]; rfl
      · rintro δ m' ⟨nums, z1, z2, ms, rfl, rfl, hr, hh, hlen⟩
        show _ ∧ RtQ _ _ _ _
        refine And.intro rfl (.inl ?_)
        have := q nums (Ent.lst (n1.map fun n => .sh (.int n))) (.lst (n2.map fun n => .sh (.int n))) hlen
        simpa using this
def sp__law_drawer_of : DSpec := fun xs m Q E => ∃ ns : List Int, xs = [.sh (.list (ns.map .int))] ∧ ns.length ≤ 63 ∧ Q (.own (m.length + 3)) (m ++ [.gone, .gone, .gone, .drw 3])
theorem conv__law_drawer_of {K : PySem.W.Frag} : ∀ vs H Q E, dsp K sp__law_drawer_of vs H Q E → dsp K spr__law_drawer_of vs H Q E := by
  rintro vs H Q E ⟨F, S, ad, m, xs, Qd, Ed, C, r, ⟨ns, rfl, hl, q⟩, kq, kx⟩
  refine ⟨F, S, ad, m, _, fun x m' => ∃ (nums : List Int) (a b : Ent), nums.length ≤ 15 ∧ x = .own (m.length + 3) ∧ m' = m ++ [a, .lst (nums.map fun n => .sh (.int n)), b, .lst (.own (m.length + 1) :: [(0 : Int), 0, 0].map fun i => .sh (.int i))], Ed, C, r, ⟨ns, rfl, hl, fun nums a b h15 => ⟨nums, a, b, h15, rfl, rfl⟩⟩, ?_, kx⟩
  rintro v H' F' S' ad' m' x st C' r' ⟨nums, a, b, h15, rfl, rfl⟩
  obtain ⟨F2, S2, st2, C2⟩ := C'.sealD (k1 := m.length + 1) (k2 := m.length + 3) (ns := nums) (l := [0, 0, 0]) (app_at m _ 1) (app_at m _ 3) (by omega) h15
  have C3 := (C2.dropE (m.length + 0)).dropE (m.length + 2)
  rw [app_set, app_set, app_set, app_set] at C3
  exact kq v H' F2 S2 ad' _ _ (st.trans st2) C3 (r'.stp st2) q
abbrev N__law_scrambled : List Str := ["_law_number", "_law_place", "_law_modulus", "_law_value", "_law_turn"]
abbrev rd__law_scrambled : DTS :=
    (dSeq (dAsg (dC (.sh (.int 1152921504606846883))) (hName 2))
    (dSeq (dAsg (dBin gMod (dBin gAdd (dBin gAdd (dBin gMul (dVar 0) (dC (.sh (.int 6364136223846793005)))) (dBin gMul (dVar 1) (dC (.sh (.int 1442695041))))) (dC (.sh (.int 11)))) (dVar 2)) (hName 3))
    (dSeq (dFor (dIRng1 (dCons (dC (.sh (.int 4))) dNil)) (hName 4) (dAsg (dBin gMod (dBin gAdd (dBin gAdd (dBin gAdd (dBin gMul (dVar 3) (dVar 3)) (dBin gMul (dC (.sh (.int 7))) (dVar 3))) (dBin gMul (dC (.sh (.int 15485863))) (dVar 4))) (dVar 1)) (dVar 2)) (hName 3)))
    (dRet (dBin gAdd (dBin gMul (dVar 3) (dVar 2)) (dBin gMod (dBin gAdd (dBin gMul (dVar 3) (dC (.sh (.int 22695477)))) (dVar 1)) (dVar 2)))))))
def sp__law_scrambled : DSpec := fun xs m Q E => ∃ n p : Int, xs = [.sh (.int n), .sh (.int p)] ∧ ∀ r : Int, Q (.sh (.int r)) m
theorem ln__law_scrambled : ∀ xs m Q E, sp__law_scrambled xs m Q E → xs.length = 2 := fun _ _ _ _ h => by obtain ⟨n, p, rfl, _⟩ := h; rfl
theorem pl__law_scrambled : Promise N__law_scrambled rd__law_scrambled sp__law_scrambled := by
  intro xs m Qd Ed sc h
  obtain ⟨n, p, rfl, q⟩ := h
  show IntMulOk _ _ ∧ IntMulOk _ _ ∧ cNz _ _ ∧ _
  refine ⟨.of_right (by decide), .of_right (by decide), nz_of rfl, ?_⟩
  show _ ∧ Exists _
  refine ⟨by decide, fun rest δ m' => m' = m ∧ ∃ (v : Int) (z : Option DV), (0 ≤ v ∧ v < 1152921504606846883) ∧ δ = [some (.sh (.int n)), some (.sh (.int p)), some (.sh (.int 1152921504606846883)), some (.sh (.int v)), z] ∧ ∀ x ∈ rest, ∃ i : Int, x = .sh (.int i), ?_, ?_, ?_, ?_⟩
  · refine ⟨_, _, .same (fun _ _ h => h) rfl rfl, Nat.le_refl _, rfl, _, none, fmod_bd _ (by decide), rfl, fun x hx => ?_⟩
    obtain ⟨i, _, rfl⟩ := List.mem_map.mp hx
    exact ⟨_, rfl⟩
  · rintro rest δ m' ⟨rfl, _⟩
    exact ⟨trivial, Nat.le_refl _⟩
  · rintro x rest δ m' ⟨rfl, v, z, hv, rfl, hr⟩
    obtain ⟨i, rfl⟩ := hr x List.mem_cons_self
    show IntMulOk _ _ ∧ IntMulOk _ _ ∧ IntMulOk _ _ ∧ cNz _ _ ∧ _
    refine ⟨.of_left (bits64 (by omega) (by omega)), .of_left (by decide), .of_left (by decide), nz_of rfl, ?_⟩
    exact ⟨_, _, .same (fun _ _ h => h) rfl rfl, Nat.le_refl _, rfl, _, some (.sh (.int i)), fmod_bd _ (by decide), rfl, fun y hy => hr y (List.mem_cons_of_mem _ hy)⟩
  · rintro δ m' ⟨rfl, v, z, hv, rfl, hr⟩
    show IntMulOk _ _ ∧ IntMulOk _ _ ∧ cNz _ _ ∧ RtQ _ _ _ _
    exact ⟨.of_right (by decide), .of_right (by decide), nz_of rfl, .inl (q _)⟩
abbrev N__law_below : List Str := ["_law_drawing", "_law_bound", "_law_found", "_law_numbers", "_law_place", "_law_number"]
abbrev rd__law_below : DTS :=
    (dSeq (dIfS (dTst (dBin gLt (dBin gIx (dVar 0) (dC (.sh (.int 3)))) (dVar 1))) (dSeq (dPar 3 4 (dCons (dBin gIx (dVar 0) (dC (.sh (.int 0)))) (dCons (dBin gIx (dVar 0) (dC (.sh (.int 1)))) dNil)))
    (dSeq (dAsg (dIf (dTst (dBin (gEq true) (dVar 3) (dLst dNil))) (dBin gIx (dVar 3) (dBin gMod (dVar 4) (dCB gLen (dCons (dVar 3) dNil)))) (dC (.sh (.int 0)))) (hName 5))
    (dSeq (dIfS (dOrT (dTst (dBin gGe (dVar 4) (dCB gLen (dCons (dVar 3) dNil)))) (dTst (dBin gLt (dVar 5) (dBin gPow (dC (.sh (.int 10))) (dC (.sh (.int 12))))))) (dAsg (dCall sp__law_scrambled (dCons (dBin gMod (dVar 5) (dC (.sh (.int 1000000007)))) (dCons (dVar 4) dNil))) (hName 5)) dNext)
    (dSeq (dAsg (dBin gAdd (dVar 4) (dC (.sh (.int 1)))) (hSub gSetL (dVar 0) (dC (.sh (.int 1)))))
    (dSeq (dAsg (dVar 5) (hSub gSetL (dVar 0) (dC (.sh (.int 2)))))
    (dAsg (dVar 5) (hSub gSetL (dVar 0) (dC (.sh (.int 3)))))))))) dNext)
    (dSeq (dAsg (dBin gMod (dBin gIx (dVar 0) (dC (.sh (.int 2)))) (dVar 1)) (hName 2))
    (dSeq (dAsg (dBin gFdiv (dBin gIx (dVar 0) (dC (.sh (.int 2)))) (dVar 1)) (hSub gSetL (dVar 0) (dC (.sh (.int 2)))))
    (dSeq (dAsg (dBin gFdiv (dBin gIx (dVar 0) (dC (.sh (.int 3)))) (dVar 1)) (hSub gSetL (dVar 0) (dC (.sh (.int 3)))))
    (dRet (dVar 2))))))
def spr__law_below : DSpec := fun xs m Q E => ∃ (k : Nat) (b : Int) (ns l : List Int), xs = [.own k, .sh (.int b)] ∧ m[k]? = some (drwL ns l) ∧ l.length = 3 ∧ 0 < b ∧ b.natAbs.log2 < 9000 ∧
  ∀ (r : Int) (l' : List Int), l'.length = 3 → 0 ≤ r → r < b → Q (.sh (.int r)) (m.set k (drwL ns l'))
theorem ln__law_below : ∀ xs m Q E, spr__law_below xs m Q E → xs.length = 2 := fun _ _ _ _ h => by obtain ⟨n, p, _, _, rfl, _⟩ := h; rfl
abbrev rdt__law_below : DTS :=
    (dSeq (dAsg (dBin gMod (dBin gIx (dVar 0) (dC (.sh (.int 2)))) (dVar 1)) (hName 2))
    (dSeq (dAsg (dBin gFdiv (dBin gIx (dVar 0) (dC (.sh (.int 2)))) (dVar 1)) (hSub gSetL (dVar 0) (dC (.sh (.int 2)))))
    (dSeq (dAsg (dBin gFdiv (dBin gIx (dVar 0) (dC (.sh (.int 3)))) (dVar 1)) (hSub gSetL (dVar 0) (dC (.sh (.int 3)))))
    (dRet (dVar 2)))))
abbrev rdu__law_below : DTS :=
    (dSeq (dAsg (dBin gAdd (dVar 4) (dC (.sh (.int 1)))) (hSub gSetL (dVar 0) (dC (.sh (.int 1)))))
    (dSeq (dAsg (dVar 5) (hSub gSetL (dVar 0) (dC (.sh (.int 2)))))
    (dAsg (dVar 5) (hSub gSetL (dVar 0) (dC (.sh (.int 3)))))))
theorem fin__law_below {D : DEnds} {m : Store} {k : Nat} {b i x y : Int} {ns : List Int} {z2 z3 z4 z5 : Option DV} (hk : m[k]? = some (drwL ns [i, x, y])) (hb : 0 < b) (hb2 : b.natAbs.log2 < 9000)
    (q : ∀ (r : Int) (l' : List Int), l'.length = 3 → 0 ≤ r → r < b → D.rt (.sh (.int r)) (m.set k (drwL ns l'))) : rdt__law_below D [some (.own k), some (.sh (.int b)), z2, z3, z4, z5] m := by
  have lt : k < m.length := (List.getElem?_eq_some_iff.mp hk).1
  have nz : b ≠ 0 := by omega
  show gIx (.own k) (.sh (.int ((2 : Nat) : Int))) m _
  refine gIx_own hk (x := .sh (.int x)) rfl (And.intro nz ?_)
  dsimp only [dSeq, dAsg, hName, dBin, dVar, dC, List.set, List.getElem?_cons_zero, List.getElem?_cons_succ]
  show gIx (.own k) (.sh (.int ((2 : Nat) : Int))) m _
  refine gIx_own hk (x := .sh (.int x)) rfl (And.intro ⟨nz, hb2⟩ ?_)
  show gSetL (.own k) (.sh (.int ((2 : Nat) : Int))) (.sh (.int (x.fdiv b))) m _
  refine gSetL_own hk (by show _ < 4; decide) ?_
  have h2 : (m.set k (.lst ((.sh (.list (ns.map .int)) :: [i, x, y].map fun i => DV.sh (.int i)).set 2 (.sh (.int (x.fdiv b))))))[k]? = some (.lst (.sh (.list (ns.map .int)) :: [i, x.fdiv b, y].map fun i => DV.sh (.int i))) := by
    rw [List.getElem?_set_self lt]; rfl
  show gIx (.own k) (.sh (.int ((3 : Nat) : Int))) _ _
  refine gIx_own h2 (x := .sh (.int y)) rfl (And.intro ⟨nz, hb2⟩ ?_)
  show gSetL (.own k) (.sh (.int ((3 : Nat) : Int))) (.sh (.int (y.fdiv b))) _ _
  refine gSetL_own h2 (by show _ < 4; decide) ?_
  rw [List.set_set]
  obtain ⟨r0, r1⟩ := fmod_bd x hb
  exact q (x.fmod b) [i, x.fdiv b, y.fdiv b] rfl r0 r1
theorem fin2__law_below {D : DEnds} {m : Store} {k : Nat} {i x y i' v : Int} {ns : List Int} {z1 z2 z3 : Option DV} (hk : m[k]? = some (drwL ns [i, x, y]))
    (q : D.nx [some (.own k), z1, z2, z3, some (.sh (.int i')), some (.sh (.int v))] (m.set k (drwL ns [i' + 1, v, v]))) : rdu__law_below D [some (.own k), z1, z2, z3, some (.sh (.int i')), some (.sh (.int v))] m := by
  have lt : k < m.length := (List.getElem?_eq_some_iff.mp hk).1
  show gSetL (.own k) (.sh (.int ((1 : Nat) : Int))) (.sh (.int (i' + 1))) m _
  refine gSetL_own hk (by show _ < 4; decide) ?_
  have h2 : (m.set k (.lst ((.sh (.list (ns.map .int)) :: [i, x, y].map fun i => DV.sh (.int i)).set 1 (.sh (.int (i' + 1))))))[k]? = some (drwL ns [i' + 1, x, y]) := by
    rw [List.getElem?_set_self lt]; rfl
  show gSetL (.own k) (.sh (.int ((2 : Nat) : Int))) (.sh (.int v)) _ _
  refine gSetL_own h2 (by show _ < 4; decide) ?_
  rw [List.set_set]
  have h3 : (m.set k (.lst ((.sh (.list (ns.map .int)) :: [i' + 1, x, y].map fun i => DV.sh (.int i)).set 2 (.sh (.int v)))))[k]? = some (drwL ns [i' + 1, v, y]) := by
    rw [List.getElem?_set_self lt]; rfl
  show gSetL (.own k) (.sh (.int ((3 : Nat) : Int))) (.sh (.int v)) _ _
  refine gSetL_own h3 (by show _ < 4; decide) ?_
  rw [List.set_set]
  exact q
theorem pl__law_below : Promise N__law_below rd__law_below spr__law_below := by
  intro xs m Qd Ed sc h
  obtain ⟨k, b, ns, l, rfl, hk, hl, hb, hb2, q⟩ := h
  obtain ⟨i, x, y, rfl⟩ : ∃ i x y, l = [i, x, y] := by
    match l, hl with
    | [i, x, y], _ => exact ⟨i, x, y, rfl⟩
  have lt : k < m.length := (List.getElem?_eq_some_iff.mp hk).1
  show gIx (.own k) (.sh (.int ((3 : Nat) : Int))) m _
  refine gIx_own hk (x := .sh (.int y)) rfl (And.intro trivial (ifT (fun e => ?_) (fun e => ?_)))
  · show gIx (.own k) (.sh (.int ((0 : Nat) : Int))) m _
    refine gIx_own hk (x := .sh (.list (ns.map .int))) rfl ?_
    show gIx (.own k) (.sh (.int ((1 : Nat) : Int))) m _
    refine gIx_own hk (x := .sh (.int i)) rfl ?_
    have hk2 : (m ++ [Ent.lst []])[k]? = some (drwL ns [i, x, y]) := by rw [List.getElem?_append_left lt]; exact hk
    have tl : ∀ v, rdu__law_below { nx := rdt__law_below { nx := fun _ m' => RtQ m.length Qd (.sh .none) m', rt := RtQ m.length Qd, ex := RtX m.length Ed }, rt := RtQ m.length Qd, ex := RtX m.length Ed } [some (.own k), some (.sh (.int b)), none, some (.sh (.list (ns.map .int))), some (.sh (.int i)), some (.sh (.int v))] (m ++ [.lst []]) := by
      intro v
      refine fin2__law_below hk2 (fin__law_below (by rw [List.getElem?_set_self (by rw [List.length_append]; omega)]) hb hb2 fun r l' hl' h0 h1 => ?_)
      rw [List.set_set, List.set_append_left _ _ lt]
      exact .inr ⟨_, _, rfl, sc.set (scs_drwL _ _ _), trivial, by rw [List.length_set]; exact Nat.le_refl _, q r l' hl' h0 h1⟩
    have tl2 : ∀ v, (dSeq (dIfS (dOrT (dTst (dBin gGe (dVar 4) (dCB gLen (dCons (dVar 3) dNil)))) (dTst (dBin gLt (dVar 5) (dBin gPow (dC (.sh (.int 10))) (dC (.sh (.int 12))))))) (dAsg (dCall sp__law_scrambled (dCons (dBin gMod (dVar 5) (dC (.sh (.int 1000000007)))) (dCons (dVar 4) dNil))) (hName 5)) dNext) rdu__law_below) { nx := rdt__law_below { nx := fun _ m' => RtQ m.length Qd (.sh .none) m', rt := RtQ m.length Qd, ex := RtX m.length Ed }, rt := RtQ m.length Qd, ex := RtX m.length Ed } [some (.own k), some (.sh (.int b)), none, some (.sh (.list (ns.map .int))), some (.sh (.int i)), some (.sh (.int v))] (m ++ [.lst []]) := by
      intro v
      have sc1 : (dAsg (dCall sp__law_scrambled (dCons (dBin gMod (dVar 5) (dC (.sh (.int 1000000007)))) (dCons (dVar 4) dNil))) (hName 5)) { nx := rdu__law_below { nx := rdt__law_below { nx := fun _ m' => RtQ m.length Qd (.sh .none) m', rt := RtQ m.length Qd, ex := RtX m.length Ed }, rt := RtQ m.length Qd, ex := RtX m.length Ed }, rt := RtQ m.length Qd, ex := RtX m.length Ed } [some (.own k), some (.sh (.int b)), none, some (.sh (.list (ns.map .int))), some (.sh (.int i)), some (.sh (.int v))] (m ++ [.lst []]) := by
        show cNz _ _ ∧ _
        refine And.intro (nz_of rfl) ?_
        exact ⟨_, _, rfl, fun r => tl r⟩
      show True ∧ (if _ = true then _ else _)
      refine And.intro trivial (ifT (fun e => sc1) (fun e => ?_))
      show CPow _ _ ∧ True ∧ (if _ = true then _ else _)
      refine And.intro ⟨by decide, by decide, by decide⟩ (And.intro trivial (ifT (fun e => sc1) (fun e => tl v)))
    show Nat.ble 0 sizeLine = true ∧ gEq true (.sh (.list (ns.map .int))) (.own m.length) (m ++ [.lst []]) _
    refine And.intro rfl (gEq_nil (app_at0 _ _ _) ?_)
    refine ifT (c := !ns.isEmpty) (fun e => ?_) (fun e => ?_)
    · have hne : ns ≠ [] := by
        intro z; subst z; cases e
      have lp : 0 < ns.length := List.length_pos_iff.mpr hne
      show cNz _ _ ∧ _
      have hln : (((ns.map PyData.int).map DV.sh).length : Int) = (ns.length : Int) := by simp
      have pos : (0 : Int) < (((ns.map PyData.int).map DV.sh).length : Int) := by rw [hln]; omega
      refine And.intro (Int.ne_of_gt pos) ?_
      obtain ⟨b0, b1⟩ := fmod_bd i pos
      obtain ⟨j, ejz⟩ := Int.eq_ofNat_of_zero_le b0
      have hj : j < ns.length := by rw [ejz, hln] at b1; omega
      have ej : ((ns.map PyData.int).map DV.sh)[j]? = some (.sh (.int ns[j])) := by
        rw [List.map_map, List.getElem?_map, List.getElem?_eq_getElem hj]; rfl
      refine gIx_seq (xs := (ns.map PyData.int).map DV.sh) (x := .sh (.int ns[j])) (fun s e => by cases e) rfl (by rw [ejz]; exact atI_nat ej) ?_
      exact tl2 _
    · exact tl2 0
  · exact fin__law_below hk hb hb2 fun r l' hl' h0 h1 => .inl (q r l' hl' h0 h1)
def sp__law_below : DSpec := fun xs m Q E => ∃ (k : Nat) (b : Int), xs = [.own k, .sh (.int b)] ∧ m[k]? = some (.drw 3) ∧ 0 < b ∧ b.natAbs.log2 < 9000 ∧ ∀ r : Int, 0 ≤ r → r < b → Q (.sh (.int r)) m
theorem conv__law_below {K : PySem.W.Frag} : ∀ vs H Q E, dsp K sp__law_below vs H Q E → dsp K spr__law_below vs H Q E := by
  rintro vs H Q E ⟨F, S, ad, m, xs, Qd, Ed, C, r, ⟨k, b, rfl, hk, hb, hb2, q⟩, kq, kx⟩
  obtain ⟨ns, l, ⟨hl, h15⟩, C1⟩ := C.openD hk
  have lt : k < m.length := (List.getElem?_eq_some_iff.mp hk).1
  refine ⟨F, S, ad, _, _, fun x m' => ∃ (r : Int) (l' : List Int), l'.length = 3 ∧ 0 ≤ r ∧ r < b ∧ x = .sh (.int r) ∧ m' = m.set k (drwL ns l'), Ed, C1, r, ⟨k, b, ns, l, rfl, by rw [List.getElem?_set_self lt], hl, hb, hb2, fun r l' h1 h2 h3 => ⟨r, l', h1, h2, h3, rfl, by rw [List.set_set]⟩⟩, ?_, kx⟩
  rintro v H' F' S' ad' m' x st C' r' ⟨r, l', h1, h2, h3, rfl, rfl⟩
  have C2 := C'.closeD (k := k) (ns := ns) (l := l') h15 (by rw [List.getElem?_set_self lt])
  rw [List.set_set, h1, set_id hk] at C2
  exact kq v H' F' S' ad' m _ st C2 r' (q r h2 h3)
abbrev N__law_one_of : List Str := ["_law_drawing", "_law_items"]
abbrev rd__law_one_of : DTS :=
    (dRet (dBin gIx (dVar 1) (dCall sp__law_below (dCons (dVar 0) (dCons (dCB gLen (dCons (dVar 1) dNil)) dNil)))))
def sp__law_one_of : DSpec := fun xs m Q E => ∃ (k : Nat) (x : DV) (ys : List DV), xs = [.own k, x] ∧ m[k]? = some (.drw 3) ∧ (∀ s, x ≠ .sh (.str s)) ∧ seqA m x = some ys ∧ 0 < ys.length ∧ ys.length ≤ 16777216 ∧ ∀ y ∈ ys, Q y m
theorem ln__law_one_of : ∀ xs m Q E, sp__law_one_of xs m Q E → xs.length = 2 := fun _ _ _ _ h => by obtain ⟨_, _, _, rfl, _⟩ := h; rfl
theorem pl__law_one_of : Promise N__law_one_of rd__law_one_of sp__law_one_of := by
  intro xs m Qd Ed sc h
  obtain ⟨k, x, ys, rfl, hk, hs, hx, h0, h1, q⟩ := h
  show rd__law_one_of _ [some (.own k), some x] m
  dsimp only [rd__law_one_of, dSeq, dAsg, hName, dBin, dVar, dC, dCall, dCons, dNil, dCB, dTup, dLst, dRet, dTst, tstQ, dIf, dIfS, dPar, dNext, dUn, dNeg, dNotT, dAndT, dOrT, dChain, hTup, hCons, hNil, int2, dCutF, dPart, dNoPart, dLstF, dDrop, dML, dListRg1, dListRg2, dListRg1F, dListRg2F, dNewK, dNewT, dGetD, List.map_cons, List.map_nil, lstF, allSh, mkTup, List.set, List.getElem?_cons_zero, List.getElem?_cons_succ]
  refine gLen_seq hs hx ?_
  refine ⟨k, _, rfl, hk, by omega, log2_len (by omega), fun r r0 r1 => ?_⟩
  obtain ⟨j, rfl⟩ := Int.eq_ofNat_of_zero_le r0
  have hj : j < ys.length := by omega
  exact gIx_seq (x := ys[j]) hs hx (atI_nat (List.getElem?_eq_getElem hj)) (.inl (q _ (List.getElem_mem hj)))
abbrev N__law_ratio : List Str := ["_law_top", "_law_bottom", "_law_one", "_law_other", "_law_sign"]
abbrev rd__law_ratio : DTS :=
    (dSeq (dPar 2 3 (dCons (dCB gAbs (dCons (dVar 0) dNil)) (dCons (dCB gAbs (dCons (dVar 1) dNil)) dNil)))
    (dSeq (dWhile (dTst (dBin (gEq true) (dVar 3) (dC (.sh (.int 0))))) (dPar 2 3 (dCons (dVar 3) (dCons (dBin gMod (dVar 2) (dVar 3)) dNil))))
    (dSeq (dAsg (dIf (dTst (dBin gGt (dVar 1) (dC (.sh (.int 0))))) (dC (.sh (.int 1))) (dUn dNeg (dC (.sh (.int 1))))) (hName 4))
    (dRet (dTup (dCons (dBin gFdiv (dBin gMul (dVar 4) (dVar 0)) (dVar 2)) (dCons (dBin gFdiv (dBin gMul (dVar 4) (dVar 1)) (dVar 2)) dNil)))))))
def sp__law_ratio : DSpec := fun xs m Q E => ∃ a b : Int, xs = [.sh (.int a), .sh (.int b)] ∧ b ≠ 0 ∧ b.natAbs.log2 < 9000 ∧ Q (.sh (frD (fr a b))) m
theorem ln__law_ratio : ∀ xs m Q E, sp__law_ratio xs m Q E → xs.length = 2 := fun _ _ _ _ h => by obtain ⟨_, _, rfl, _⟩ := h; rfl
theorem pl__law_ratio : Promise N__law_ratio rd__law_ratio sp__law_ratio := by
  intro xs m Qd Ed sc h
  obtain ⟨a, b, rfl, hb, hl, q⟩ := h
  show rd__law_ratio _ [some (.sh (.int a)), some (.sh (.int b)), none, none, none] m
  dsimp only [rd__law_ratio, dSeq, dAsg, hName, dBin, dVar, dC, dCall, dCons, dNil, dCB, dTup, dLst, dRet, dTst, tstQ, dIf, dIfS, dPar, dNext, dUn, dNeg, dNotT, dAndT, dOrT, dChain, hTup, hCons, hNil, int2, dCutF, dPart, dNoPart, dLstF, dDrop, dML, dListRg1, dListRg2, dListRg1F, dListRg2F, dNewK, dNewT, dGetD, List.map_cons, List.map_nil, lstF, allSh, mkTup, List.set, List.getElem?_cons_zero, List.getElem?_cons_succ]
  show dWhile _ _ _ [some (.sh (.int a)), some (.sh (.int b)), some (.sh (.int (if a < 0 then -a else a))), some (.sh (.int (if b < 0 then -b else b))), none] m
  refine ⟨fun n δ m' => m' = m ∧ ∃ c e : Int, δ = [some (.sh (.int a)), some (.sh (.int b)), some (.sh (.int c)), some (.sh (.int e)), none] ∧ 0 ≤ c ∧ 0 ≤ e ∧ e.toNat = n ∧ Int.gcd c e = Int.gcd a b, _, ⟨_, _, .same (fun _ _ h => h) rfl rfl, Nat.le_refl _, rfl, _, _, rfl, by split <;> omega, by split <;> omega, rfl, by rw [absI, absI]; rfl⟩, ?_⟩
  rintro n δ m' ⟨rfl, c, e, rfl, hc, he, hn, hg⟩
  show (if (if true then !decide (e = 0) else decide (e = 0)) = true then _ else _)
  refine ifT (c := !decide (e = 0)) (fun h => ?_) (fun h => ?_)
  · have e0 : e ≠ 0 := by simpa using h
    have bd := fmod_bd c (b := e) (by omega)
    refine And.intro e0 ⟨_, _, .same (fun _ _ h => h) rfl rfl, Nat.le_refl _, (c.fmod e).toNat, by omega, rfl, e, c.fmod e, rfl, he, bd.1, rfl, ?_⟩
    rw [gcd_step hc (by omega)]; exact hg
  · have e0 : e = 0 := by simpa using h
    subst e0
    have hc2 : c = (Int.gcd a b : Int) := by rw [← hg]; simp; omega
    subst hc2
    have g := gcd_pos (a := a) hb
    have cd : cDiv a (Int.gcd a b : Int) := ⟨by omega, Nat.lt_of_le_of_lt (log2_mono (by simpa using gcd_le hb)) hl⟩
    have fin : ∀ s : Int, s = (if 0 < b then 1 else -1) → (dRet (dTup (dCons (dBin gFdiv (dBin gMul (dVar 4) (dVar 0)) (dVar 2)) (dCons (dBin gFdiv (dBin gMul (dVar 4) (dVar 1)) (dVar 2)) dNil)))) { nx := fun _ m'_1 => RtQ m'.length Qd (.sh .none) m'_1, rt := RtQ m'.length Qd, ex := RtX m'.length Ed } [some (.sh (.int a)), some (.sh (.int b)), some (.sh (.int (Int.gcd a b : Int))), some (.sh (.int 0)), some (.sh (.int s))] m' := by
      intro s hs
      have bs : Builtin.Int.intBits s ≤ 64 := bits64 (by subst hs; split <;> omega) (by subst hs; split <;> omega)
      obtain ⟨e1, e2⟩ := div_fr (a := a) hb hs
      show IntMulOk _ _ ∧ cDiv _ _ ∧ IntMulOk _ _ ∧ cDiv _ _ ∧ _ ∧ RtQ _ _ (.sh (.tuple [.int ((s * a).fdiv (Int.gcd a b : Int)), .int ((s * b).fdiv (Int.gcd a b : Int))])) m'
      rw [e1, e2]
      exact ⟨.of_left bs, cd, .of_left bs, cd, rfl, .inl q⟩
    show True ∧ (if _ = true then _ else _)
    refine And.intro trivial (ifT (c := decide (0 < b)) (fun h => ?_) (fun h => ?_))
    · exact fin 1 (by rw [if_pos (of_decide_eq_true h)])
    · exact fin (-1) (by rw [if_neg (of_decide_eq_false h)])
abbrev N__law_random_kernel : List Str := ["_law_drawing", "_law_place", "_law_many", "_law_low", "_law_step", "_law_values", "_law_kernel", "_law_value", "_law_counts", "_law_index", "_law_whole", "_law_other", "_law_rest", "_law_state", "_law_spot"]
/-- the states a value goes to, with their chances -/
abbrev Row := List (List Int × (Int × Int))
def stI (s : List Int) : PyData := .tuple (s.map .int)
def rowI (q : List Int × (Int × Int)) : PyData := .tuple [stI q.1, frD q.2]
def rowD (row : Row) : PyData := .tuple (row.map rowI)
def atP (p : Nat) (s : List Int) : Int := (s[p]?).getD 0
def RowOk (p : Nat) (row : Row) : Prop := row.length ≤ 3 ∧ ∀ q ∈ row, p < q.1.length ∧ 0 < q.2.2 ∧ FB 20 q.2
def insN (acc : List Int) (x : Int) : List Int := if x ∈ acc then acc else acc ++ [x]
def nextV (p : Nat) (row : Row) : List Int := (row.map fun q => atP p q.1).foldl insN []
/-- a dict of chances whose keys are these -/
def Chs (ks : List Int) (n : Nat) (kvs : List (Key × DV)) : Prop := kvs.map (·.1) = ks.map .inl ∧ ∀ q ∈ kvs, ∃ f : Int × Int, q.2 = .sh (frD f) ∧ 0 < f.2 ∧ FB n f
theorem chs_nil (n : Nat) : Chs [] n [] := ⟨rfl, fun q h => absurd h List.not_mem_nil⟩
theorem chs_get {ks : List Int} {n : Nat} {kvs : List (Key × DV)} (h : Chs ks n kvs) (x : Int) : ∃ f : Int × Int, (valD kvs (.inl x)).getD (.sh (frD (0, 1))) = .sh (frD f) ∧ 0 < f.2 ∧ FB (n + 1) f := by
  cases e : valD kvs (.inl x) with
  | none => exact ⟨(0, 1), rfl, by decide, ⟨by simp; exact Nat.pos_of_ne_zero (by simp), by
      have : 1 < 2 ^ (n + 1) := Nat.one_lt_two_pow (by omega)
      simpa using this⟩⟩
  | some z =>
    obtain ⟨f, hz, h1, h2⟩ := h.2 _ (valD_some e)
    exact ⟨f, hz, h1, h2.mono (by omega)⟩
theorem chs_put {ks : List Int} {n k : Nat} {kvs : List (Key × DV)} (h : Chs ks n kvs) {x : Int} {f : Int × Int} (hf : FB k f) (pf : 0 < f.2) (le : n ≤ k) : Chs (insN ks x) k (putD kvs (.inl x) (.sh (frD f))) := by
  refine ⟨?_, fun q hq => ?_⟩
  · rw [putD_keys, h.1]
    unfold insN
    by_cases hx : x ∈ ks
    · rw [if_pos (List.mem_map_of_mem hx), if_pos hx]
    · rw [if_neg (fun z => by obtain ⟨y, hy, e⟩ := List.mem_map.mp z; cases e; exact hx hy), if_neg hx, List.map_append]; rfl
  · rcases putD_mem hq with hq | rfl
    · obtain ⟨g, e, h1, h2⟩ := h.2 q hq
      exact ⟨g, e, h1, h2.mono le⟩
    · exact ⟨f, rfl, pf, hf⟩
theorem ix_state {s : List Int} {p : Nat} {m : Store} {Q : DQ} (hp : p < s.length) (q : Q (.sh (.int (atP p s))) m) : gIx (.sh (stI s)) (.sh (.int (p : Int))) m Q := by
  refine gIx_seq (xs := (s.map PyData.int).map .sh) (x := .sh (.int (atP p s))) (fun s e => by cases e) rfl (atI_nat ?_) q
  rw [List.getElem?_map, List.getElem?_map]
  unfold atP
  rw [List.getElem?_eq_getElem hp]; rfl
abbrev Kn := List (Int × Row)
def knE (K : Kn) : List (Key × DV) := K.map fun p => (.inl p.1, .sh (rowD p.2))
def KE (e : Ent) (K : Kn) : Prop := e = .dK (knE K) ∨ e = .fK (knE K)
def rowOf (K : Kn) (v : Int) : Option Row := (K.find? fun p => decide (p.1 = v)).map (·.2)
def KOk (p : Nat) (K : Kn) : Prop := (K.map (·.1)).Nodup ∧ K.length ≤ 9 ∧ ∀ q ∈ K, RowOk p q.2 ∧ ∀ r ∈ q.2, atP p r.1 ∈ K.map (·.1)
theorem le_states : PySem.W.dataLe false stI = fun p q : List Int => decide (p ≤ q) := by
  rw [← PySem.W.dataLe_rows fun s => s]
  unfold PySem.W.dataLe
  congr 1
/-- what the drawing makes of the counts -/
def RowDist (row : Row) : Prop := ∃ cs : List (List Int × Int), cs.length ≤ 3 ∧ 0 < cs.length ∧ (cs.map (·.1)).Pairwise (fun a b => a ≤ b) ∧ (cs.map (·.1)).Nodup ∧ (∀ c ∈ cs, 1 ≤ c.2 ∧ c.2 ≤ 27) ∧ row = cs.map fun c => (c.1, fr c.2 ((cs.map (·.2)).sum))
def StOk (p : Nat) (s : List Int) : Prop := s.length = max 1 p + 1 ∧ ∀ x ∈ s, -100 ≤ x ∧ x ≤ 100
def KSm (p : Nat) (K : Kn) : Prop := ∀ q ∈ K, (-100 ≤ q.1 ∧ q.1 ≤ 100) ∧ RowDist q.2 ∧ ∀ r ∈ q.2, StOk p r.1
theorem knE_val (v : Int) : ∀ K : Kn, valD (knE K) (.inl v) = (rowOf K v).map fun r => .sh (rowD r)
  | [] => rfl
  | q :: K => by
    by_cases h : q.1 = v
    · unfold knE valD rowOf
      rw [List.map_cons, List.find?_cons_of_pos (by simp [h]), List.find?_cons_of_pos (by simp [h])]; rfl
    · have ih := knE_val v K
      unfold knE valD rowOf at ih ⊢
      rw [List.map_cons, List.find?_cons_of_neg (by simp [h]), List.find?_cons_of_neg (by simp [h])]
      exact ih
theorem knE_look {e : Ent} {K : Kn} {m : Store} {k : Nat} (he : KE e K) (hm : m[k]? = some e) (v : Int) : lookD m (.own k) (.sh (.int v)) = some ((rowOf K v).map fun r => .sh (rowD r)) := by
  rw [← knE_val]
  rcases he with rfl | rfl
  · exact lookD_K hm
  · exact lookD_fK hm
theorem at_kn {e : Ent} {K : Kn} {m : Store} {k : Nat} {v : Int} {row : Row} {Q : DQ} (he : KE e K) (hm : m[k]? = some e) (hr : rowOf K v = some row) (q : Q (.sh (rowD row)) m) : gAt (.own k) (.sh (.int v)) m Q := by
  unfold gAt
  rw [knE_look he hm, hr]
  exact q
theorem ke_flat {e : Ent} {K : Kn} (he : KE e K) : e.flat := by
  have f : shs (knE K) := fun p hp => by
    obtain ⟨q, _, rfl⟩ := List.mem_map.mp hp
    exact ⟨_, rfl⟩
  rcases he with rfl | rfl
  · exact f
  · exact f
theorem row_mem {K : Kn} {v : Int} {row : Row} (h : rowOf K v = some row) : (v, row) ∈ K := by
  unfold rowOf at h
  obtain ⟨q, hq, rfl⟩ := Option.map_eq_some_iff.mp h
  have h1 := List.find?_some hq
  have h2 := List.mem_of_find?_eq_some hq
  obtain ⟨a, b⟩ := q
  have : a = v := by simpa using h1
  subst this
  exact h2
theorem row_of {K : Kn} {v : Int} (h : v ∈ K.map (·.1)) : ∃ row, rowOf K v = some row := by
  unfold rowOf
  cases e : K.find? fun p => decide (p.1 = v) with
  | some q => exact ⟨_, rfl⟩
  | none =>
    obtain ⟨q, hq, rfl⟩ := List.mem_map.mp h
    have := List.find?_eq_none.mp e q hq
    simp at this
def nexts (p : Nat) (K : Kn) (v : Int) : List Int := match rowOf K v with
  | some row => nextV p row
  | none => []
inductive Rch (p : Nat) (K : Kn) (v : Int) : Int → Prop
  | refl : Rch p K v v
  | step {x y : Int} : Rch p K v x → y ∈ nexts p K x → Rch p K v y
open Classical in
noncomputable def reachS (p : Nat) (K : Kn) (v : Int) : List Int := sortZ ((K.map (·.1)).filter fun x => decide (Rch p K v x))
theorem insN_mem {acc : List Int} {x y : Int} : y ∈ insN acc x ↔ y ∈ acc ∨ y = x := by
  unfold insN
  split
  · rename_i h
    exact ⟨.inl, fun z => z.elim id fun e => e ▸ h⟩
  · rw [List.mem_append, List.mem_singleton]
theorem foldl_ins {y : Int} : ∀ (l acc : List Int), y ∈ l.foldl insN acc ↔ y ∈ acc ∨ y ∈ l
  | [], acc => by simp
  | x :: l, acc => by rw [List.foldl_cons, foldl_ins l, insN_mem, List.mem_cons, or_assoc]
theorem nextV_mem {p : Nat} {row : Row} {y : Int} : y ∈ nextV p row ↔ ∃ q ∈ row, atP p q.1 = y := by
  unfold nextV
  rw [foldl_ins, List.mem_map]
  simp
theorem nexts_keys {p : Nat} {K : Kn} (ok : KOk p K) {x y : Int} (h : y ∈ nexts p K x) : y ∈ K.map (·.1) := by
  unfold nexts at h
  split at h
  · rename_i row hr
    obtain ⟨q, hq, rfl⟩ := nextV_mem.mp h
    exact (ok.2.2 _ (row_mem hr)).2 q hq
  · cases h
theorem rch_keys {p : Nat} {K : Kn} (ok : KOk p K) {v x : Int} (hv : v ∈ K.map (·.1)) (h : Rch p K v x) : x ∈ K.map (·.1) := by
  cases h with
  | refl => exact hv
  | step _ h => exact nexts_keys ok h
open Classical in
/-- a list that is closed is what can be come to -/
theorem reach_sort {p : Nat} {K : Kn} (ok : KOk p K) {v : Int} (hv : v ∈ K.map (·.1)) {found : List Int} (nd : found.Nodup) (h0 : v ∈ found) (hr : ∀ x ∈ found, Rch p K v x) (cl : ∀ x ∈ found, ∀ y ∈ nexts p K x, y ∈ found) : sortZ found = reachS p K v := by
  have all : ∀ x, Rch p K v x → x ∈ found := fun x h => by
    induction h with
    | refl => exact h0
    | step _ hy ih => exact cl _ ih _ hy
  unfold reachS
  refine sortZ_perm ((List.perm_ext_iff_of_nodup nd (List.Pairwise.filter _ ok.1)).mpr fun x => ?_)
  rw [List.mem_filter]
  constructor
  · intro h
    exact ⟨rch_keys ok hv (hr x h), decide_eq_true (hr x h)⟩
  · rintro ⟨_, h⟩
    exact all x (of_decide_eq_true h)
theorem nodup_le : ∀ {l k : List Int}, l.Nodup → (∀ x ∈ l, x ∈ k) → l.length ≤ k.length
  | [], _, _, _ => Nat.zero_le _
  | x :: l, k, nd, h => by
    have nd' := List.nodup_cons.mp nd
    have hx := h x List.mem_cons_self
    have ih := nodup_le (l := l) (k := k.erase x) nd'.2 fun y hy => (List.mem_erase_of_ne (fun e : y = x => nd'.1 (by rw [← e]; exact hy))).mpr (h y (List.mem_cons_of_mem _ hy))
    rw [List.length_erase_of_mem hx] at ih
    have := List.length_pos_of_mem hx
    rw [List.length_cons]; omega
/-- found and waiting, while the search goes on -/
structure Srch (p : Nat) (K : Kn) (v : Int) (found ws ns : List Int) (w : Option Int) : Prop where
  nd : found.Nodup
  rch : ∀ x ∈ found, Rch p K v x
  start : v ∈ found
  sub : ∀ x ∈ ws, x ∈ found
  cl : ∀ x ∈ found, x ∈ ws ∨ some x = w ∨ ∀ y ∈ nexts p K x, y ∈ found
  cur : ∀ x, some x = w → x ∈ found ∧ (∀ y ∈ nexts p K x, y ∈ found ∨ y ∈ ns) ∧ ∀ y ∈ ns, y ∈ nexts p K x
theorem Srch.len {p : Nat} {K : Kn} {v : Int} {found ws ns : List Int} {w : Option Int} (s : Srch p K v found ws ns w) (ok : KOk p K) (hv : v ∈ K.map (·.1)) : found.length ≤ K.length := by
  have h : found.length ≤ (K.map (·.1)).length := nodup_le s.nd fun x hx => rch_keys ok hv (s.rch x hx)
  rwa [List.length_map] at h
theorem Srch.init (p : Nat) (K : Kn) (v : Int) : Srch p K v [v] [v] [] none :=
  ⟨by simp, fun x hx => by cases List.mem_singleton.mp hx; exact .refl, List.mem_singleton_self _, fun x h => h, fun x h => .inl h, fun x h => by cases h⟩
theorem Srch.pop {p : Nat} {K : Kn} {v w : Int} {found ws : List Int} (s : Srch p K v found (ws ++ [w]) [] none) : Srch p K v found ws (nexts p K w) (some w) := by
  refine ⟨s.nd, s.rch, s.start, fun x hx => s.sub x (List.mem_append_left _ hx), fun x hx => ?_, fun x e => ?_⟩
  · rcases s.cl x hx with h | h | h
    · rcases List.mem_append.mp h with h | h
      · exact .inl h
      · exact .inr (.inl (by rw [List.mem_singleton.mp h]))
    · cases h
    · exact .inr (.inr h)
  · cases e
    exact ⟨s.sub _ (List.mem_append_right _ (List.mem_singleton_self _)), fun y hy => .inr hy, fun y hy => hy⟩
theorem Srch.old {p : Nat} {K : Kn} {v y : Int} {w : Option Int} {found ws ns : List Int} (s : Srch p K v found ws (y :: ns) w) (h : y ∈ found) : Srch p K v found ws ns w := by
  refine ⟨s.nd, s.rch, s.start, s.sub, s.cl, fun x e => ?_⟩
  obtain ⟨a, b, c⟩ := s.cur x e
  refine ⟨a, fun z hz => ?_, fun z hz => c z (List.mem_cons_of_mem _ hz)⟩
  rcases b z hz with q | q
  · exact .inl q
  · rcases List.mem_cons.mp q with rfl | q
    · exact .inl h
    · exact .inr q
theorem Srch.new {p : Nat} {K : Kn} {v y w : Int} {found ws ns : List Int} (s : Srch p K v found ws (y :: ns) (some w)) (h : y ∉ found) : Srch p K v (found ++ [y]) (ws ++ [y]) ns (some w) := by
  obtain ⟨a, b, c⟩ := s.cur w rfl
  refine ⟨?_, fun x hx => ?_, List.mem_append_left _ s.start, fun x hx => ?_, fun x hx => ?_, fun x e => ?_⟩
  · rw [List.nodup_append]
    exact ⟨s.nd, by simp, fun i hi j hj e => h (by rw [← List.mem_singleton.mp hj, ← e]; exact hi)⟩
  · rcases List.mem_append.mp hx with hx | hx
    · exact s.rch x hx
    · cases List.mem_singleton.mp hx
      exact .step (s.rch w a) (c _ List.mem_cons_self)
  · rcases List.mem_append.mp hx with hx | hx
    · exact List.mem_append_left _ (s.sub x hx)
    · exact List.mem_append_right _ hx
  · rcases List.mem_append.mp hx with hx | hx
    · rcases s.cl x hx with q | q | q
      · exact .inl (List.mem_append_left _ q)
      · exact .inr (.inl q)
      · exact .inr (.inr fun z hz => List.mem_append_left _ (q z hz))
    · exact .inl (List.mem_append_right _ hx)
  · cases e
    refine ⟨List.mem_append_left _ a, fun z hz => ?_, fun z hz => c z (List.mem_cons_of_mem _ hz)⟩
    rcases b z hz with q | q
    · exact .inl (List.mem_append_left _ q)
    · rcases List.mem_cons.mp q with rfl | q
      · exact .inl (List.mem_append_right _ (List.mem_singleton_self _))
      · exact .inr q
theorem Srch.shut {p : Nat} {K : Kn} {v : Int} {w : Option Int} {found ws : List Int} (s : Srch p K v found ws [] w) : Srch p K v found ws [] none := by
  refine ⟨s.nd, s.rch, s.start, s.sub, fun x hx => ?_, fun x e => by cases e⟩
  rcases s.cl x hx with q | q | q
  · exact .inl q
  · exact .inr (.inr fun y hy => ((s.cur x q).2.1 y hy).elim id fun z => absurd z List.not_mem_nil)
  · exact .inr (.inr q)
theorem Srch.done {p : Nat} {K : Kn} {v : Int} {found : List Int} (s : Srch p K v found [] [] none) (ok : KOk p K) (hv : v ∈ K.map (·.1)) : sortZ found = reachS p K v :=
  reach_sort ok hv s.nd s.start s.rch fun x hx => (s.cl x hx).elim (fun z => absurd z List.not_mem_nil) fun z => z.elim (fun e => by cases e) id
theorem pop_ints {m : Store} {k : Nat} {ws : List Int} {w : Int} {Q : DQ} (hm : m[k]? = some (.lst (((ws ++ [w]).map PyData.int).map .sh))) (q : Q (.sh (.int w)) (m.set k (.lst ((ws.map PyData.int).map .sh)))) : gPop (.own k) [] m Q := by
  show (match m[k]? with
    | some (.lst xs) => (match xs[xs.length - 1]? with
      | some y => Q y (m.set k (.lst xs.dropLast))
      | none => False)
    | _ => False)
  rw [hm, List.map_append, List.map_append]
  show (match (((ws.map PyData.int).map DV.sh) ++ [DV.sh (.int w)])[(((ws.map PyData.int).map DV.sh) ++ [DV.sh (.int w)]).length - 1]? with
      | some y => Q y (m.set k (.lst (((ws.map PyData.int).map DV.sh) ++ [DV.sh (.int w)]).dropLast))
      | none => False)
  rw [List.length_append, List.length_singleton, Nat.add_sub_cancel, List.getElem?_append_right (Nat.le_refl _), Nat.sub_self, List.dropLast_concat]
  exact q
theorem chs_items {ks : List Int} {n : Nat} {kvs : List (Key × DV)} (h : Chs ks n kvs) : (kvs.map fun p => DV.sh (keyD p.1)) = (ks.map PyData.int).map .sh := by
  have : (kvs.map fun p => DV.sh (keyD p.1)) = (kvs.map (·.1)).map fun k => DV.sh (keyD k) := by rw [List.map_map]; rfl
  rw [this, h.1, List.map_map, List.map_map]; rfl
theorem nexts_of {p : Nat} {K : Kn} {v : Int} {row : Row} (h : rowOf K v = some row) : nexts p K v = nextV p row := by unfold nexts; rw [h]
theorem foldl_ins_nodup : ∀ (l acc : List Int), acc.Nodup → (l.foldl insN acc).Nodup
  | [], acc, h => h
  | x :: l, acc, h => by
    rw [List.foldl_cons]
    refine foldl_ins_nodup l _ ?_
    unfold insN
    split
    · exact h
    · rename_i hx
      rw [List.nodup_append]
      exact ⟨h, by simp, fun i hi j hj e => hx (by rw [← List.mem_singleton.mp hj, ← e]; exact hi)⟩
theorem nextV_nodup (p : Nat) (row : Row) : (nextV p row).Nodup := foldl_ins_nodup _ _ List.nodup_nil
theorem foldl_ins_len : ∀ (l acc : List Int), (l.foldl insN acc).length ≤ acc.length + l.length
  | [], acc => by simp
  | x :: l, acc => by
    rw [List.foldl_cons, List.length_cons]
    have h1 := foldl_ins_len l (insN acc x)
    have h2 : (insN acc x).length ≤ acc.length + 1 := by unfold insN; split <;> simp
    omega
theorem nextV_len (p : Nat) (row : Row) : (nextV p row).length ≤ row.length := by
  have := foldl_ins_len (row.map fun q => atP p q.1) []
  rw [List.length_map, List.length_nil, Nat.zero_add] at this
  exact this
theorem knE_keys (K : Kn) : ((knE K).map fun p => keyD p.1) = (K.map (·.1)).map .int := by
  unfold knE
  rw [List.map_map, List.map_map]; rfl
theorem sorted_kn {e : Ent} {K : Kn} {m : Store} {k : Nat} {Q : DQ} (he : KE e K) (hm : m[k]? = some e) (q : Q (.sh (rowZ (sortZ (K.map (·.1))))) m) : gSortedA [.own k] m Q := by
  have hk : keysD m (.own k) = some ((K.map (·.1)).map .int) := by
    rw [← knE_keys]
    show (match m[k]? with
      | some (.dK kvs) => some (kvs.map fun (p : Key × DV) => keyD p.1)
      | some (.fK kvs) => some (kvs.map fun (p : Key × DV) => keyD p.1)
      | some (.dT kvs) => some (kvs.map fun (p : NestedKey × DV) => p.1.data)
      | some (.fT kvs) => some (kvs.map fun (p : NestedKey × DV) => p.1.data)
      | _ => none) = _
    rw [hm]
    rcases he with rfl | rfl <;> rfl
  show (match keysD m (.own k) with
    | some ds => PySem.W.AllAlike ds ∧ PySem.W.Sortable ds ∧ PyData.depthAll ds ≤ 50 ∧ Q (.sh (.list (sortD ds))) m
    | none => gSortedF [.own k] m Q)
  rw [hk]
  refine ⟨(alike_ints _).1, (alike_ints _).2.1, (alike_ints _).2.2, ?_⟩
  rw [sortD_ints]; exact q
def stepC (p : Nat) (K : Kn) (acc : List (List Int)) (S : List Int) (ok : Bool) : List (List Int) := if ok = true ∧ S ∉ acc then acc ++ [S] else acc
noncomputable def allC (p : Nat) (K : Kn) (v : Int) : Bool := (reachS p K v).all fun o => decide (reachS p K o = reachS p K v)
noncomputable def closedS (p : Nat) (K : Kn) : List (List Int) := (sortZ (K.map (·.1))).foldl (fun acc v => stepC p K acc (reachS p K v) (allC p K v)) []
theorem sortZ_mem {l : List Int} {x : Int} : x ∈ sortZ l ↔ x ∈ l := List.mem_mergeSort
theorem reachS_keys {p : Nat} {K : Kn} {v x : Int} (h : x ∈ reachS p K v) : x ∈ K.map (·.1) := by
  unfold reachS at h
  exact (List.mem_filter.mp (sortZ_mem.mp h)).1
theorem reachS_len (p : Nat) (K : Kn) (v : Int) : (reachS p K v).length ≤ K.length := by
  unfold reachS sortZ
  rw [List.length_mergeSort]
  exact Nat.le_trans (List.length_filter_le _ _) (by rw [List.length_map]; exact Nat.le_refl _)
theorem gAll_bools {l : List Int} {f : Int → Bool} {m : Store} {Q : DQ} (q : Q (.sh (.bool (l.all f))) m) : gAll [.sh (.list (l.map fun x => .bool (f x)))] m Q := by
  have e : ∀ l : List Int, DL.allB ((l.map fun x => PyData.bool (f x)).map .sh) = some (l.map f) := fun l => by
    induction l with
    | nil => rfl
    | cons x l ih =>
      show (match DL.allB ((l.map fun x => PyData.bool (f x)).map .sh) with
        | some is => some (f x :: is)
        | none => none) = _
      rw [ih]; rfl
  show (match DL.allB ((l.map fun x => PyData.bool (f x)).map .sh) with
      | some is => Q (.sh (.bool (is.all id))) m
      | none => False)
  rw [e]
  show Q (.sh (.bool ((l.map f).all id))) m
  rw [List.all_map]
  exact q
def sp__law_random_kernel : DSpec := fun xs m Q E => ∃ k : Nat, xs = [.own k] ∧ m[k]? = some (.drw 3) ∧ ∀ (p : Nat) (K : Kn), p < 4 → KOk p K → KSm p K → Q (.tup [.sh (.int (p : Int)), .own m.length]) (m ++ [.dK (knE K)])
theorem ln__law_random_kernel : ∀ xs m Q E, sp__law_random_kernel xs m Q E → xs.length = 1 := fun _ _ _ _ h => by obtain ⟨_, rfl, _⟩ := h; rfl
abbrev rd__law_random_kernel : DTS :=
    (dSeq (dPar 1 2 (dCons (dCall sp__law_below (dCons (dVar 0) (dCons (dC (.sh (.int 4))) dNil))) (dCons (dBin gAddF (dC (.sh (.int 1))) (dCall sp__law_below (dCons (dVar 0) (dCons (dCall sp__law_one_of (dCons (dVar 0) (dCons (dLstF (dCons (dC (.sh (.int 4))) (dCons (dC (.sh (.int 4))) (dCons (dC (.sh (.int 9))) dNil)))) dNil))) dNil)))) dNil)))
    (dSeq (dAsg (dTup (dCons (dCall sp__law_one_of (dCons (dVar 0) (dCons (dLstF (dCons (dUn dNeg (dC (.sh (.int 20)))) (dCons (dUn dNeg (dC (.sh (.int 1)))) (dCons (dC (.sh (.int 0))) (dCons (dC (.sh (.int 2))) dNil))))) dNil))) (dCons (dCall sp__law_one_of (dCons (dVar 0) (dCons (dLstF (dCons (dC (.sh (.int 1))) (dCons (dC (.sh (.int 1))) (dCons (dC (.sh (.int 2))) (dCons (dC (.sh (.int 7))) dNil))))) dNil))) dNil))) (hTup 2 (hCons (hName 3) (hCons (hName 4) hNil))))
    (dSeq (dAsg (dFrz (dLc (dIRng1 (dCons (dVar 2) dNil)) (hName 9) dYes (dBin gAddF (dVar 3) (dBin gMul (dVar 4) (dVar 9))) [9])) (hName 5))
    (dSeq (dAsg dNewK (hName 6))
    (dSeq (dFor (dISeq (dIf (dTst (dBin (gEq false) (dCall sp__law_below (dCons (dVar 0) (dCons (dC (.sh (.int 2))) dNil))) (dC (.sh (.int 0))))) (dRevF (dVar 5)) (dVar 5))) (hName 7) (dSeq (dAsg dNewT (hName 8))
    (dSeq (dFor (dIRng1 (dCons (dBin gAddF (dC (.sh (.int 1))) (dCall sp__law_below (dCons (dVar 0) (dCons (dCall sp__law_one_of (dCons (dVar 0) (dCons (dLstF (dCons (dC (.sh (.int 1))) (dCons (dC (.sh (.int 2))) (dCons (dC (.sh (.int 3))) dNil)))) dNil))) dNil)))) dNil)) (hName 9) (dSeq (dAsg (dCall sp__law_one_of (dCons (dVar 0) (dCons (dVar 5) dNil))) (hName 11))
    (dSeq (dAsg (dFrz (dLc (dIRng1 (dCons (dCB gMax2 (dCons (dC (.sh (.int 1))) (dCons (dVar 1) dNil))) dNil)) (hName 14) dYes (dCall sp__law_below (dCons (dVar 0) (dCons (dC (.sh (.int 2))) dNil))) [14])) (hName 12))
    (dSeq (dAsg (dCB gTuple (dCons (dBin gAddF (dBin gAddF (dCutF (dVar 12) dNoPart (dPart (dVar 1))) (dLstF (dCons (dVar 11) dNil))) (dCutF (dVar 12) (dPart (dVar 1)) dNoPart)) dNil)) (hName 13))
    (dAsg (dBin gAddF (dBin gAddF (dGetD (dVar 8) (dVar 13) (dC (.sh (.int 0)))) (dC (.sh (.int 1)))) (dCall sp__law_below (dCons (dVar 0) (dCons (dC (.sh (.int 3))) dNil)))) (hSub gPut (dVar 8) (dVar 13)))))))
    (dSeq (dAsg (dCB gSum (dCons (dFrz (dLc (dIAny (dVar 8)) (hName 13) dYes (dBin gAt (dVar 8) (dVar 13)) [13])) dNil)) (hName 10))
    (dAsg (dCB gTuple (dCons (dFrz (dLc (dISeq (dCB gSortedA (dCons (dVar 8) dNil))) (hName 13) dYes (dTup (dCons (dVar 13) (dCons (dCall sp__law_ratio (dCons (dBin gAt (dVar 8) (dVar 13)) (dCons (dVar 10) dNil))) dNil))) [13])) dNil)) (hSub gPut (dVar 6) (dVar 7)))))))
    (dRet (dTup (dCons (dVar 1) (dCons (dVar 6) dNil)))))))))
theorem cl_below {k : Nat} {b : Int} {m : Store} {Q : DQ} {E : DXK} (hk : m[k]? = some (.drw 3)) (h0 : 0 < b) (hb : b < 2 ^ 200) (q : ∀ r : Int, 0 ≤ r → r < b → Q (.sh (.int r)) m) : sp__law_below [.own k, .sh (.int b)] m Q E :=
  ⟨k, b, rfl, hk, h0, log2_lt9 (n := 200) (by omega) (by decide) (by decide), q⟩
theorem cl_one {k : Nat} {ds : List PyData} {m : Store} {Q : DQ} {E : DXK} (hk : m[k]? = some (.drw 3)) (h0 : 0 < ds.length) (h1 : ds.length ≤ 16777216) (q : ∀ d ∈ ds, Q (.sh d) m) : sp__law_one_of [.own k, .sh (.list ds)] m Q E :=
  ⟨k, _, ds.map .sh, rfl, hk, (fun s e => by cases e), rfl, by rw [List.length_map]; exact h0, by rw [List.length_map]; exact h1, fun y hy => by
    obtain ⟨d, hd, rfl⟩ := List.mem_map.mp hy
    exact q d hd⟩
theorem cl_int {k : Nat} {is : List Int} {m : Store} {Q : DQ} {E : DXK} (hk : m[k]? = some (.drw 3)) (h0 : 0 < is.length) (h1 : is.length ≤ 16777216) (q : ∀ i ∈ is, Q (.sh (.int i)) m) : sp__law_one_of [.own k, .sh (.list (is.map .int))] m Q E :=
  cl_one hk (by rw [List.length_map]; exact h0) (by rw [List.length_map]; exact h1) fun d hd => by
    obtain ⟨i, hi, rfl⟩ := List.mem_map.mp hd
    exact q i hi
def valsK (low step : Int) (n : Nat) : List Int := (List.range n).map fun (i : Nat) => low + step * (i : Int)
theorem valsK_nodup {low step : Int} (hs : 0 < step) (n : Nat) : (valsK low step n).Nodup := by
  unfold valsK List.Nodup
  rw [List.pairwise_map]
  refine List.pairwise_lt_range.imp fun {a b} h e => ?_
  have h1 : step * (a : Int) = step * (b : Int) := by omega
  have h2 := Int.eq_of_mul_eq_mul_left (by omega) h1
  omega
theorem for_either {us1 us2 : List Int} {tA : DTB} {ta tc : DT} {g : DTG} {tb : DTS} {D : DEnds} {δ : DEnv} {m : Store} (hA : ∀ (Q' : Bool → Store → Prop) (E : DXK), (∀ c, Q' c m) → tA δ m Q' E)
    (h1 : ∀ (Q' : DQ) (E : DXK), Q' (.sh (.list (us1.map .int))) m → ta δ m Q' E) (h2 : ∀ (Q' : DQ) (E : DXK), Q' (.sh (.list (us2.map .int))) m → tc δ m Q' E)
    (key : ∀ us : List Int, (us = us1 ∨ us = us2) → dFor (dISeq (dC (.sh (.list (us.map .int))))) g tb D δ m) : dFor (dISeq (dIf tA ta tc)) g tb D δ m := by
  refine hA _ _ fun c => ?_
  cases c with
  | true => exact h1 _ _ (key us1 (.inl rfl))
  | false => exact h2 _ _ (key us2 (.inr rfl))
/-- the states counted so far -/
def cntE (cs : List (List Int × Int)) : List (NestedKey × DV) := cs.map fun q => (.tup (q.1.map .num), .sh (.int q.2))
theorem nkAll_ints : ∀ s : List Int, nkAll (s.map .int) = some (s.map .num)
  | [] => rfl
  | x :: s => by
    rw [List.map_cons, List.map_cons]
    unfold nkAll
    rw [nkAll_ints s]; rfl
theorem depth_nums : ∀ s : List Int, NestedKey.depthAll (s.map .num) = 0
  | [] => by simp [NestedKey.depthAll]
  | x :: s => by rw [List.map_cons]; simp [NestedKey.depthAll, NestedKey.depth, depth_nums s]
theorem keyT_state (s : List Int) : keyT (stI s) = some (.tup (s.map .num)) := by
  have h : nk (stI s) = some (.tup (s.map .num)) := by
    show (nkAll (s.map .int)).map NestedKey.tup = _
    rw [nkAll_ints]; rfl
  unfold keyT
  rw [h]
  show (if (NestedKey.tup (s.map .num)).depth ≤ 8 then some (NestedKey.tup (s.map .num)) else none) = _
  rw [if_pos (by simp only [NestedKey.depth]; rw [depth_nums]; decide)]
theorem paired_ints2 : ∀ {is : List Int} {ds : List PyData}, Paired (fun (_ : Int) d => ∃ b : Int, d = .int b ∧ 0 ≤ b ∧ b < 2) is ds → ∃ bs : List Int, ds = bs.map .int ∧ bs.length = is.length ∧ ∀ b ∈ bs, 0 ≤ b ∧ b < 2
  | _, _, .nil => ⟨[], rfl, rfl, fun b h => absurd h List.not_mem_nil⟩
  | _, _, .cons ⟨b, e, hb⟩ t => by
    obtain ⟨bs, h, l, hbs⟩ := paired_ints2 t
    subst e; subst h
    refine ⟨b :: bs, rfl, by simp [l], fun c hc => ?_⟩
    rcases List.mem_cons.mp hc with rfl | hc
    · exact hb
    · exact hbs c hc
theorem isDct_T {m : Store} {k : Nat} {kvs : List (NestedKey × DV)} (h : m[k]? = some (.dT kvs)) : isDct m (.own k) := by
  show (match m[k]? with
    | some (.dK _) => True
    | some (.dT _) => True
    | some (.fK _) => True
    | some (.fT _) => True
    | _ => False)
  rw [h]; trivial
theorem look_T {m : Store} {k : Nat} {cs : List (List Int × Int)} (h : m[k]? = some (.dT (cntE cs)) ∨ m[k]? = some (.fT (cntE cs))) (s : List Int) : lookD m (.own k) (.sh (stI s)) = some (valD (cntE cs) (.tup (s.map .num))) := by
  show (match m[k]? with
    | some (.dK kvs) => (keyK (stI s)).map (valD kvs)
    | some (.dT kvs) => (keyT (stI s)).map (valD kvs)
    | some (.fK kvs) => (keyK (stI s)).map (valD kvs)
    | some (.fT kvs) => (keyT (stI s)).map (valD kvs)
    | _ => none) = _
  rcases h with h | h <;> rw [h] <;> show (keyT (stI s)).map _ = _ <;> rw [keyT_state] <;> rfl
theorem nums_inj {a b : List Int} (h : a.map NestedKey.num = b.map NestedKey.num) : a = b := (List.map_inj_right fun x y e => by cases e; rfl).mp h
def putC (cs : List (List Int × Int)) (s : List Int) (c : Int) : List (List Int × Int) := if s ∈ cs.map (·.1) then cs.map (fun q => if q.1 = s then (q.1, c) else q) else cs ++ [(s, c)]
theorem cntE_keys (cs : List (List Int × Int)) (s : List Int) : NestedKey.tup (s.map .num) ∈ (cntE cs).map (·.1) ↔ s ∈ cs.map (·.1) := by
  unfold cntE
  rw [List.map_map, List.mem_map, List.mem_map]
  constructor
  · rintro ⟨q, hq, e⟩
    have e : NestedKey.tup (q.1.map .num) = .tup (s.map .num) := e
    injection e with e
    exact ⟨q, hq, nums_inj e⟩
  · rintro ⟨q, hq, rfl⟩
    exact ⟨q, hq, rfl⟩
theorem putC_E (cs : List (List Int × Int)) (s : List Int) (c : Int) : putD (cntE cs) (.tup (s.map .num)) (.sh (.int c)) = cntE (putC cs s c) := by
  unfold putD putC
  by_cases h : s ∈ cs.map (·.1)
  · rw [if_pos (valD_isSome.mpr ((cntE_keys cs s).mpr h)), if_pos h]
    unfold cntE
    rw [List.map_map, List.map_map]
    refine List.map_congr_left fun q _ => ?_
    show (if NestedKey.tup (q.1.map .num) = .tup (s.map .num) then (NestedKey.tup (q.1.map .num), DV.sh (.int c)) else (NestedKey.tup (q.1.map .num), DV.sh (.int q.2))) = (fun q : List Int × Int => (NestedKey.tup (q.1.map .num), DV.sh (.int q.2))) (if q.1 = s then (q.1, c) else q)
    by_cases e : q.1 = s
    · rw [if_pos (by rw [e]), if_pos e]
    · rw [if_neg (fun z => by injection z with z; exact e (nums_inj z)), if_neg e]
  · rw [if_neg fun z => h ((cntE_keys cs s).mp (valD_isSome.mp z)), if_neg h]
    unfold cntE
    rw [List.map_append]; rfl
theorem putC_mem {cs : List (List Int × Int)} {s : List Int} {c : Int} {q : List Int × Int} (h : q ∈ putC cs s c) : q ∈ cs ∨ q = (s, c) := by
  unfold putC at h
  split at h
  · obtain ⟨r, hr, rfl⟩ := List.mem_map.mp h
    split
    · rename_i e; exact .inr (by rw [e])
    · exact .inl hr
  · rcases List.mem_append.mp h with h | h
    · exact .inl h
    · exact .inr (List.mem_singleton.mp h)
theorem putC_len (cs : List (List Int × Int)) (s : List Int) (c : Int) : 0 < (putC cs s c).length ∧ (putC cs s c).length ≤ cs.length + 1 := by
  unfold putC
  split
  · rename_i h
    obtain ⟨q, hq, _⟩ := List.mem_map.mp h
    have := List.length_pos_of_mem hq
    rw [List.length_map]; omega
  · rw [List.length_append, List.length_singleton]; omega
theorem getC {cs : List (List Int × Int)} {s : List Int} {B : Int} (h0 : 0 ≤ B) (h : ∀ q ∈ cs, 1 ≤ q.2 ∧ q.2 ≤ B) : ∃ c : Int, (valD (cntE cs) (.tup (s.map .num))).getD (.sh (.int 0)) = .sh (.int c) ∧ 0 ≤ c ∧ c ≤ B := by
  cases e : valD (cntE cs) (.tup (s.map .num)) with
  | none => exact ⟨0, rfl, by omega, h0⟩
  | some z =>
    obtain ⟨q, hq, eq⟩ := List.mem_map.mp (valD_some e)
    have e2 : DV.sh (.int q.2) = z := congrArg Prod.snd eq
    subst e2
    have := h q hq
    exact ⟨q.2, rfl, by omega, this.2⟩
theorem gPut_T {m : Store} {k : Nat} {cs : List (List Int × Int)} {s : List Int} {c : Int} {Q : Store → Prop} (h : m[k]? = some (.dT (cntE cs))) (hl : cs.length ≤ 1000) (q : Q (m.set k (.dT (cntE (putC cs s c))))) : gPut (.own k) (.sh (stI s)) (.sh (.int c)) m Q := by
  show (match m[k]? with
    | some (.dK kvs) => (match keyK (stI s) with
      | some key => kvs.length < sizeLine ∧ Q (m.set k (.dK (putD kvs key (.sh (.int c)))))
      | none => False)
    | some (.dT kvs) => (match keyT (stI s) with
      | some key => kvs.length < sizeLine ∧ Q (m.set k (.dT (putD kvs key (.sh (.int c)))))
      | none => False)
    | _ => gSetL (.own k) (.sh (stI s)) (.sh (.int c)) m Q)
  rw [h]
  show (match keyT (stI s) with
      | some key => (cntE cs).length < sizeLine ∧ Q (m.set k (.dT (putD (cntE cs) key (.sh (.int c)))))
      | none => False)
  rw [keyT_state]
  refine And.intro (by unfold cntE; rw [List.length_map, PySem.sizeLine_eq]; omega) ?_
  show Q (m.set k (.dT (putD (cntE cs) (.tup (s.map .num)) (.sh (.int c)))))
  rw [putC_E]; exact q
theorem addF_int {i j : Int} {m : Store} {Q : DQ} (q : Q (.sh (.int (i + j))) m) : gAddF (.sh (.int i)) (.sh (.int j)) m Q := q
theorem tuple_list {ds : List PyData} {m : Store} {Q : DQ} (q : Q (.sh (.tuple ds)) m) : gTuple [.sh (.list ds)] m Q := by
  show Q (mkTup (ds.map .sh)) m
  rw [mkTup_map]; exact q
theorem data_nums : ∀ s : List Int, NestedKey.datas (s.map .num) = s.map .int
  | [] => rfl
  | x :: s => by
    rw [List.map_cons, List.map_cons, ← data_nums s]; rfl
theorem cntE_data (cs : List (List Int × Int)) : ((cntE cs).map fun p => DV.sh p.1.data) = cs.map fun q => .sh (stI q.1) := by
  unfold cntE
  rw [List.map_map]
  refine List.map_congr_left fun q _ => ?_
  show DV.sh (.tuple (NestedKey.datas (q.1.map .num))) = _
  rw [data_nums]; rfl
theorem any_T {m : Store} {k i : Nat} {kvs : List (NestedKey × DV)} {δ : DEnv} {Q : List DV → (Store → Prop) → Store → Prop} {E : DXK} (h : m[k]? = some (.dT kvs)) (q : Q (kvs.map fun p => .sh p.1.data) (fun _ => True) (m.set k (.fT kvs))) (hi : δ[i]? = some (some (.own k)) := by rfl) : dIAny (dVar i) δ m Q E := by
  have nl : seqL m (.own k) = none := by
    show (match m[k]? with
      | some (.lst xs) => some xs
      | some (.frz (.list ds)) => some (ds.map .sh)
      | _ => none) = none
    rw [h]
  show (match δ[i]? with
    | some (some x) => (match seqT x with
      | some xs => Q xs (fun _ => True) m
      | none => (match seqL m x with
        | some xs => Q xs (fun m' => seqL m' x = some xs) m
        | none => (match x with
          | .own k => (match m[k]? with
            | some (.dK kvs) => Q (kvs.map fun p => .sh (keyD p.1)) (fun _ => True) (m.set k (.fK kvs))
            | some (.fK kvs) => Q (kvs.map fun p => .sh (keyD p.1)) (fun _ => True) m
            | some (.dT kvs) => Q (kvs.map fun p => .sh p.1.data) (fun _ => True) (m.set k (.fT kvs))
            | some (.fT kvs) => Q (kvs.map fun p => .sh p.1.data) (fun _ => True) m
            | _ => False)
          | _ => False)))
    | _ => False)
  rw [hi]
  show (match seqL m (.own k) with
        | some xs => Q xs (fun m' => seqL m' (.own k) = some xs) m
        | none => (match m[k]? with
            | some (.dK kvs) => Q (kvs.map fun p => .sh (keyD p.1)) (fun _ => True) (m.set k (.fK kvs))
            | some (.fK kvs) => Q (kvs.map fun p => .sh (keyD p.1)) (fun _ => True) m
            | some (.dT kvs) => Q (kvs.map fun p => .sh p.1.data) (fun _ => True) (m.set k (.fT kvs))
            | some (.fT kvs) => Q (kvs.map fun p => .sh p.1.data) (fun _ => True) m
            | _ => False))
  rw [nl, h]
  exact q
def cntOf (cs : List (List Int × Int)) (s : List Int) : Int := match valD (cntE cs) (.tup (s.map .num)) with
  | some (.sh (.int c)) => c
  | _ => 0
theorem cntOf_mem {cs : List (List Int × Int)} {q : List Int × Int} (h : q ∈ cs) : valD (cntE cs) (.tup (q.1.map .num)) = some (.sh (.int (cntOf cs q.1))) := by
  have hs : (valD (cntE cs) (.tup (q.1.map .num))).isSome = true := valD_isSome.mpr ((cntE_keys cs q.1).mpr (List.mem_map_of_mem h))
  obtain ⟨z, hz⟩ := Option.isSome_iff_exists.mp hs
  obtain ⟨r, hr, e⟩ := List.mem_map.mp (valD_some hz)
  have e2 : DV.sh (.int r.2) = z := congrArg Prod.snd e
  subst e2
  unfold cntOf
  rw [hz]
theorem cnt_bd {cs : List (List Int × Int)} (h3 : ∀ q ∈ cs, 1 ≤ q.2 ∧ q.2 ≤ 27) {q : List Int × Int} (h : q ∈ cs) : 1 ≤ cntOf cs q.1 ∧ cntOf cs q.1 ≤ 27 := by
  obtain ⟨r, hr, e⟩ := List.mem_map.mp (valD_some (cntOf_mem h))
  have e2 : DV.sh (.int r.2) = .sh (.int (cntOf cs q.1)) := congrArg Prod.snd e
  injection e2 with e2
  injection e2 with e2
  rw [← e2]
  exact h3 r hr
theorem sum_bd : ∀ {l : List Int} {n : Nat}, l.length ≤ n → (∀ x ∈ l, 1 ≤ x ∧ x ≤ 27) → 0 ≤ l.sum ∧ l.sum ≤ 27 * n ∧ (0 < l.length → 1 ≤ l.sum)
  | [], n, _, _ => ⟨by simp, by simp; omega, by simp⟩
  | x :: l, n, hn, h => by
    have h1 := h x List.mem_cons_self
    rw [List.length_cons] at hn
    have ih := sum_bd (l := l) (n := n - 1) (by omega) fun y hy => h y (List.mem_cons_of_mem _ hy)
    rw [List.sum_cons]
    refine ⟨by omega, by omega, fun _ => by omega⟩
theorem cnt_sum {cs : List (List Int × Int)} {n : Nat} (h3 : ∀ q ∈ cs, 1 ≤ q.2 ∧ q.2 ≤ 27) (hn : cs.length ≤ n) (h0 : 0 < cs.length) : 1 ≤ (cs.map fun q => cntOf cs q.1).sum ∧ (cs.map fun q => cntOf cs q.1).sum ≤ 27 * n := by
  have := sum_bd (l := cs.map fun q => cntOf cs q.1) (n := n) (by rw [List.length_map]; exact hn) fun x hx => by
    obtain ⟨q, hq, rfl⟩ := List.mem_map.mp hx
    exact cnt_bd h3 hq
  exact ⟨this.2.2 (by rw [List.length_map]; exact h0), this.2.1⟩
theorem gAt_cnt {m : Store} {k : Nat} {cs : List (List Int × Int)} {s : List Int} {c : Int} {Q : DQ} (h : m[k]? = some (.fT (cntE cs))) (hv : valD (cntE cs) (.tup (s.map .num)) = some (.sh (.int c))) (q : Q (.sh (.int c)) m) : gAt (.own k) (.sh (stI s)) m Q := by
  unfold gAt
  rw [look_T (.inr h), hv]
  exact q
theorem cntE_flat (cs : List (List Int × Int)) : (Ent.fT (cntE cs)).flat := fun p hp => by
  obtain ⟨q, _, rfl⟩ := List.mem_map.mp hp
  exact ⟨_, rfl⟩
theorem sum_ints {l : List Int} {m : Store} {Q : DQ} (q : Q (.sh (.int l.sum)) m) : gSum [.sh (.list (l.map .int))] m Q := by
  show (match allI ((l.map PyData.int).map .sh) with
      | some is => Q (.sh (.int is.sum)) m
      | none => False)
  rw [List.map_map]
  have := allI_map l
  show (match allI (l.map fun i => .sh (.int i)) with
      | some is => Q (.sh (.int is.sum)) m
      | none => False)
  rw [this]; exact q
def sortS (l : List (List Int)) : List (List Int) := l.mergeSort (PySem.W.dataLe false stI)
theorem sortD_states (l : List (List Int)) : sortD (l.map stI) = (sortS l).map stI := by
  unfold sortD sortS
  rw [← List.map_mergeSort (r := PySem.W.dataLe false stI) (s := PySem.W.dataLe false id) (f := stI) (fun _ _ _ _ => rfl)]
theorem alike_lists : ∀ a b : List Int, PySem.W.alikeAll (a.map .int) (b.map .int) = true
  | [], _ => by simp [PySem.W.alikeAll]
  | _ :: _, [] => by simp [PySem.W.alikeAll]
  | x :: a, y :: b => by
    rw [List.map_cons, List.map_cons]
    simp only [PySem.W.alikeAll, PySem.W.alike, Bool.true_and]
    exact alike_lists a b
theorem depth_states : ∀ l : List (List Int), PyData.depthAll (l.map stI) ≤ 1
  | [] => by simp [PyData.depthAll]
  | s :: l => by
    rw [List.map_cons]
    have := depth_states l
    have h2 := depth_ints s
    show PyData.depthAll (.tuple (s.map .int) :: l.map stI) ≤ 1
    simp only [PyData.depthAll, PyData.depth]
    omega
theorem sorted_cnt {m : Store} {k : Nat} {cs : List (List Int × Int)} {Q : DQ} (h : m[k]? = some (.fT (cntE cs))) (hp : ∀ q ∈ cs, 0 < q.1.length) (q : Q (.sh (.list ((sortS (cs.map (·.1))).map stI))) m) : gSortedA [.own k] m Q := by
  have hk : keysD m (.own k) = some ((cs.map (·.1)).map stI) := by
    show (match m[k]? with
      | some (.dK kvs) => some (kvs.map fun (p : Key × DV) => keyD p.1)
      | some (.fK kvs) => some (kvs.map fun (p : Key × DV) => keyD p.1)
      | some (.dT kvs) => some (kvs.map fun (p : NestedKey × DV) => p.1.data)
      | some (.fT kvs) => some (kvs.map fun (p : NestedKey × DV) => p.1.data)
      | _ => none) = _
    rw [h]
    show some ((cntE cs).map fun (p : NestedKey × DV) => p.1.data) = _
    congr 1
    unfold cntE
    rw [List.map_map, List.map_map]
    refine List.map_congr_left fun q _ => ?_
    show PyData.tuple (NestedKey.datas (q.1.map .num)) = _
    rw [data_nums]; rfl
  show (match keysD m (.own k) with
    | some ds => PySem.W.AllAlike ds ∧ PySem.W.Sortable ds ∧ PyData.depthAll ds ≤ 50 ∧ Q (.sh (.list (sortD ds))) m
    | none => gSortedF [.own k] m Q)
  rw [hk]
  refine ⟨fun d hd e he => ?_, .inl fun d hd => ?_, by have := depth_states (cs.map (·.1)); omega, ?_⟩
  · obtain ⟨s, _, rfl⟩ := List.mem_map.mp hd
    obtain ⟨t, _, rfl⟩ := List.mem_map.mp he
    unfold stI
    simp only [PySem.W.alike]
    exact alike_lists s t
  · obtain ⟨s, hs, rfl⟩ := List.mem_map.mp hd
    obtain ⟨r, hr, rfl⟩ := List.mem_map.mp hs
    have := hp r hr
    cases e : r.1 with
    | nil => rw [e] at this; simp at this
    | cons x t => exact ⟨_, _, rfl⟩
  · rw [sortD_states]; exact q
theorem knE_app (K : Kn) (v : Int) (row : Row) : knE (K ++ [(v, row)]) = knE K ++ [(.inl v, .sh (rowD row))] := by unfold knE; rw [List.map_append]; rfl
theorem gPut_kn {m : Store} {k : Nat} {K : Kn} {v : Int} {row : Row} {Q : Store → Prop} (h : m[k]? = some (.dK (knE K))) (hv : v ∉ K.map (·.1)) (hl : K.length ≤ 1000) (q : Q (m.set k (.dK (knE (K ++ [(v, row)]))))) : gPut (.own k) (.sh (.int v)) (.sh (.tuple (row.map rowI))) m Q := by
  show (match m[k]? with
    | some (.dK kvs) => (match keyK (.int v) with
      | some key => kvs.length < sizeLine ∧ Q (m.set k (.dK (putD kvs key (.sh (.tuple (row.map rowI))))))
      | none => False)
    | some (.dT kvs) => (match keyT (.int v) with
      | some key => kvs.length < sizeLine ∧ Q (m.set k (.dT (putD kvs key (.sh (.tuple (row.map rowI))))))
      | none => False)
    | _ => gSetL (.own k) (.sh (.int v)) (.sh (.tuple (row.map rowI))) m Q)
  rw [h]
  show (knE K).length < sizeLine ∧ Q (m.set k (.dK (putD (knE K) (.inl v) (.sh (.tuple (row.map rowI))))))
  refine And.intro (by unfold knE; rw [List.length_map, PySem.sizeLine_eq]; omega) ?_
  have e : putD (knE K) (.inl v) (.sh (.tuple (row.map rowI))) = knE (K ++ [(v, row)]) := by
    rw [knE_app]
    unfold putD
    rw [if_neg fun z => ?_]
    · rfl
    · have := valD_isSome.mp z
      unfold knE at this
      rw [List.map_map] at this
      obtain ⟨q, hq, e⟩ := List.mem_map.mp this
      have e : (Sum.inl q.1 : Key) = .inl v := e
      injection e with e
      exact hv (by rw [← e]; exact List.mem_map_of_mem hq)
  rw [e]; exact q
mutual
theorem DV.sc_mono {n k : Nat} (h : n ≤ k) : ∀ {x : DV}, x.sc n → x.sc k
  | .sh _, _ => trivial
  | .own i, q => Nat.lt_of_lt_of_le (show i < n from q) h
  | .tup xs, q => DV.scs_mono h (xs := xs) q
theorem DV.scs_mono {n k : Nat} (h : n ≤ k) : ∀ {xs : List DV}, DV.scs n xs → DV.scs k xs
  | [], _ => trivial
  | x :: xs, q => ⟨DV.sc_mono h q.1, DV.scs_mono h q.2⟩
end
theorem Ent.sc_mono {n k : Nat} {e : Ent} (q : e.sc n) (h : n ≤ k) : e.sc k := by
  cases e with
  | lst xs => exact DV.scs_mono h q
  | dK l => exact fun p hp => DV.sc_mono h (q p hp)
  | dT l => exact fun p hp => DV.sc_mono h (q p hp)
  | fK l => exact fun p hp => DV.sc_mono h (q p hp)
  | fT l => exact fun p hp => DV.sc_mono h (q p hp)
  | ins C l => exact fun p hp => DV.sc_mono h (q p hp)
  | exc C l => exact fun p hp => DV.sc_mono h (q p hp)
  | drw q => trivial
  | frz d => trivial
  | gone => trivial
theorem scp_add {m t : Store} (h : Scp m) (ht : ∀ e ∈ t, e.flat) : Scp (m ++ t) := fun k e hk => by
  rw [List.length_append]
  by_cases hm : k < m.length
  · rw [List.getElem?_append_left hm] at hk
    exact Ent.sc_mono (h k e hk) (by omega)
  · rw [List.getElem?_append_right (by omega)] at hk
    exact (ht e (List.mem_of_getElem? hk)).sc _
theorem scp_add1 {m : Store} {e : Ent} (h : Scp m) (f : e.flat) : Scp (m ++ [e]) := scp_add h (by simpa using f)
theorem scp_add2 {m : Store} {e u : Ent} (h : Scp m) (f : e.flat) (g : u.flat) : Scp (m ++ [e, u]) := scp_add h (by simp [f, g])
/-- what is known of the states counted -/
theorem putC_nodup {cs : List (List Int × Int)} (h : (cs.map (·.1)).Nodup) (s : List Int) (c : Int) : ((putC cs s c).map (·.1)).Nodup := by
  unfold putC
  split
  · have : (cs.map fun q => if q.1 = s then (q.1, c) else q).map (·.1) = cs.map (·.1) := by
      rw [List.map_map]
      refine List.map_congr_left fun q _ => ?_
      show (if q.1 = s then (q.1, c) else q).1 = q.1
      split <;> rfl
    rw [this]; exact h
  · rename_i hs
    rw [List.map_append, List.nodup_append]
    exact ⟨h, by simp, fun a ha b hb e => hs (by have hb : b = s := List.mem_singleton.mp hb; rw [← hb, ← e]; exact ha)⟩
theorem perm_sum {l k : List Int} (h : l.Perm k) : l.sum = k.sum := by
  induction h with
  | nil => rfl
  | cons x _ ih => rw [List.sum_cons, List.sum_cons, ih]
  | swap x y l => simp only [List.sum_cons]; omega
  | trans _ _ a b => exact a.trans b
/-- the row of the counts -/
def cntRow (cs : List (List Int × Int)) (w : Int) : Row := (sortS (cs.map (·.1))).map fun s => (s, fr (cntOf cs s) w)
theorem cntRow_dist {cs : List (List Int × Int)} (h3 : ∀ q ∈ cs, 1 ≤ q.2 ∧ q.2 ≤ 27) (nd : (cs.map (·.1)).Nodup) (hl : cs.length ≤ 3) (h0 : 0 < cs.length) : RowDist (cntRow cs (cs.map fun q => cntOf cs q.1).sum) := by
  have pm : (sortS (cs.map (·.1))).Perm (cs.map (·.1)) := List.mergeSort_perm _ _
  have ln : (sortS (cs.map (·.1))).length = cs.length := by unfold sortS; rw [List.length_mergeSort, List.length_map]
  have e1 : (((sortS (cs.map (·.1))).map fun s => (s, cntOf cs s)).map (·.1)) = sortS (cs.map (·.1)) := by
    rw [List.map_map]; exact List.map_id _
  refine ⟨(sortS (cs.map (·.1))).map fun s => (s, cntOf cs s), by rw [List.length_map, ln]; exact hl, by rw [List.length_map, ln]; exact h0, ?_, ?_, fun c hc => ?_, ?_⟩
  · rw [e1]
    have := List.pairwise_mergeSort (le := PySem.W.dataLe false stI) (PySem.W.sortLe_total _ false _).trans (fun a b => by
      rw [Bool.or_eq_true]; exact (PySem.W.sortLe_total _ false _).total a b) (cs.map (·.1))
    unfold sortS
    rw [le_states] at this ⊢
    exact this.imp fun h => of_decide_eq_true h
  · rw [e1]; exact pm.nodup_iff.mpr nd
  · obtain ⟨s, hs, rfl⟩ := List.mem_map.mp hc
    obtain ⟨q, hq, rfl⟩ := List.mem_map.mp (pm.mem_iff.mp hs)
    exact cnt_bd h3 hq
  · unfold cntRow
    rw [List.map_map, List.map_map]
    have e2 : ((sortS (cs.map (·.1))).map ((fun c : List Int × Int => c.2) ∘ fun s => (s, cntOf cs s))).sum = (cs.map fun q => cntOf cs q.1).sum := by
      have h1 := perm_sum (pm.map fun s => cntOf cs s)
      rw [List.map_map] at h1
      exact h1
    rw [e2]; rfl
theorem pl__law_random_kernel : Promise N__law_random_kernel rd__law_random_kernel sp__law_random_kernel := by
  intro xs m Qd Ed sc h
  obtain ⟨k, rfl, hk, q⟩ := h
  show rd__law_random_kernel _ [some (.own k), none, none, none, none, none, none, none, none, none, none, none, none, none, none] m
  dsimp only [rd__law_random_kernel, dSeq, dAsg, hName, dBin, dVar, dC, dCall, dCons, dNil, dCB, dTup, dLst, dRet, dTst, tstQ, dIf, dIfS, dPar, dNext, dUn, dNeg, dNotT, dAndT, dOrT, dChain, hTup, hCons, hNil, int2, dCutF, dPart, dNoPart, dLstF, dDrop, dML, dListRg1, dListRg2, dListRg1F, dListRg2F, dNewK, dNewT, dGetD, List.map_cons, List.map_nil, lstF, allSh, mkTup, List.set, List.getElem?_cons_zero, List.getElem?_cons_succ]
  refine cl_below hk (by decide) (by decide) fun p p0 p1 => And.intro rfl (cl_int (is := [4, 4, 9]) hk (by decide) (by decide) fun c hc => ?_)
  have hc : 0 < c ∧ c ≤ 9 := by
    simp only [List.mem_cons, List.not_mem_nil, or_false] at hc
    rcases hc with rfl | rfl | rfl <;> decide
  refine cl_below hk hc.1 (by omega) fun r r0 r1 => And.intro rfl (cl_int (is := [-20, -1, 0, 2]) hk (by decide) (by decide) fun low hlow => And.intro rfl (cl_int (is := [1, 1, 2, 7]) hk (by decide) (by decide) fun step hstep => ?_))
  have hlow : -20 ≤ low ∧ low ≤ 2 := by
    simp only [List.mem_cons, List.not_mem_nil, or_false] at hlow
    rcases hlow with rfl | rfl | rfl | rfl <;> decide
  have hstep : 0 < step ∧ step ≤ 7 := by
    simp only [List.mem_cons, List.not_mem_nil, or_false] at hstep
    rcases hstep with rfl | rfl | rfl | rfl <;> decide
  refine And.intro rfl (And.intro rfl ?_)
  obtain ⟨n, hn⟩ := Int.eq_ofNat_of_zero_le (show 0 ≤ 1 + r by omega)
  obtain ⟨p, rfl⟩ := Int.eq_ofNat_of_zero_le p0
  rw [hn]
  refine r_lcM1 (as := (List.range n).map fun (i : Nat) => (i : Int)) (fun i => .sh (.int i)) (fun i => .int (low + step * i)) ?_ (by rw [List.length_map, List.length_range]; omega) ?_ ?_
  · exact fun Q' h => it_rng1 (n := (n : Int)) (fun Q' h => h) (by omega) h
  · intro i hi Y hY
    obtain ⟨j, hj, rfl⟩ := List.mem_map.mp hi
    have := List.mem_range.mp hj
    exact And.intro (mul_okN (n := 4) (k := 4) (by omega) (by omega) (by decide) (by decide)) hY
  · rw [List.map_map]
    have ev : (List.range n).map ((fun i => PyData.int (low + step * i)) ∘ fun (i : Nat) => (i : Int)) = (valsK low step n).map .int := by
      unfold valsK; rw [List.map_map]; rfl
    rw [ev]
    refine for_either (us1 := (valsK low step n).reverse) (us2 := valsK low step n) ?_ ?_ ?_ fun us hus => ?_
    · intro Q' E h
      exact cl_below (by rw [List.getElem?_append_left (List.getElem?_eq_some_iff.mp hk).1]; exact hk) (by decide) (by decide) fun r _ _ => h _
    · intro Q' E h
      show Q' (.sh (.list ((valsK low step n).map .int).reverse)) _
      rw [← List.map_reverse]; exact h
    · exact fun Q' E h => h
    have und : us.Nodup := by
      rcases hus with rfl | rfl
      · exact List.pairwise_reverse.mpr ((valsK_nodup hstep.1 n).imp fun h => h.symm)
      · exact valsK_nodup hstep.1 n
    have umem : ∀ x, x ∈ us ↔ x ∈ valsK low step n := by
      rcases hus with rfl | rfl
      · exact fun x => List.mem_reverse
      · exact fun x => Iff.rfl
    have ulen : us.length = n := by
      rcases hus with rfl | rfl <;> simp [valsK]
    have kl : k < m.length := (List.getElem?_eq_some_iff.mp hk).1
    have n9 : n ≤ 9 := by omega
    refine it_listA (ds := us.map .int) (fun Q' h => h) fun kp hkp => ?_
    refine ⟨fun rest δ m' => ∃ (K0 : Kn) (vs : List Int) (z7 z8 z9 z10 z11 z12 z13 z14 : Option DV), δ = [some (.own k), some (.sh (.int (p : Int))), some (.sh (.int (n : Int))), some (.sh (.int low)), some (.sh (.int step)), some (.sh (.list ((valsK low step n).map .int))), some (.own m.length), z7, z8, z9, z10, z11, z12, z13, z14] ∧
        m' = m ++ [.dK (knE K0)] ∧ rest = (vs.map PyData.int).map .sh ∧ K0.map (·.1) ++ vs = us ∧ ∀ q ∈ K0, RowOk p q.2 ∧ (∀ r ∈ q.2, atP p r.1 ∈ us) ∧ (-100 ≤ q.1 ∧ q.1 ≤ 100) ∧ RowDist q.2 ∧ (∀ r ∈ q.2, StOk p r.1), wk0 ⟨[], us, none, none, none, none, none, none, none, none, rfl, rfl, rfl, rfl, fun q h => absurd h List.not_mem_nil⟩ (Nat.le_refl _), ?_, ?_, ?_⟩
    · rintro rest δ m' ⟨K0, vs, z7, z8, z9, z10, z11, z12, z13, z14, rfl, rfl, rfl, hu, hK⟩
      exact ⟨hkp _, by simp⟩
    · rintro x rest δ m' ⟨K0, vs, z7, z8, z9, z10, z11, z12, z13, z14, rfl, rfl, hr, hu, hK⟩
      cases vs with
      | nil => cases hr
      | cons v vs =>
        cases hr
        have hk1 : (m ++ [Ent.dK (knE K0)] ++ [Ent.dT []])[k]? = some (.drw 3) := by
          rw [List.append_assoc, List.getElem?_append_left kl]; exact hk
        dsimp only [dSeq, dAsg, hName, dBin, dVar, dC, dCall, dCons, dNil, dCB, dTup, dLst, dRet, dTst, tstQ, dIf, dIfS, dPar, dNext, dUn, dNeg, dNotT, dAndT, dOrT, dChain, hTup, hCons, hNil, int2, dCutF, dPart, dNoPart, dLstF, dDrop, dML, dListRg1, dListRg2, dListRg1F, dListRg2F, dNewK, dNewT, dGetD, List.map_cons, List.map_nil, lstF, allSh, mkTup, List.set, List.getElem?_cons_zero, List.getElem?_cons_succ]
        refine And.intro rfl (cl_int (is := [1, 2, 3]) hk1 (by decide) (by decide) fun t ht => ?_)
        have ht : 1 ≤ t ∧ t ≤ 3 := by
          simp only [List.mem_cons, List.not_mem_nil, or_false] at ht
          rcases ht with rfl | rfl | rfl <;> decide
        refine cl_below hk1 (by omega) (by omega) fun r2 r20 r21 => And.intro ⟨by omega, by omega⟩ ?_
        have em : m ++ [Ent.dK (knE K0)] ++ [Ent.dT []] = m ++ [Ent.dK (knE K0), Ent.dT []] := by simp
        have el : (m ++ [Ent.dK (knE K0)]).length = m.length + 1 := by simp
        dsimp only
        rw [em, el]
        refine ⟨fun rest δ m' => ∃ (cs : List (List Int × Int)) (ns : List Int) (z9 z10 z11 z12 z13 z14 : Option DV), δ = [some (.own k), some (.sh (.int (p : Int))), some (.sh (.int (n : Int))), some (.sh (.int low)), some (.sh (.int step)), some (.sh (.list ((valsK low step n).map .int))), some (.own m.length), some (.sh (.int v)), some (.own (m.length + 1)), z9, z10, z11, z12, z13, z14] ∧
            m' = m ++ [.dK (knE K0), .dT (cntE cs)] ∧ rest = ns.map (fun i => .sh (.int i)) ∧ 0 < cs.length + ns.length ∧ cs.length + ns.length ≤ 3 ∧ (cs.map (·.1)).Nodup ∧ ∀ q ∈ cs, p < q.1.length ∧ StOk p q.1 ∧ atP p q.1 ∈ us ∧ 1 ≤ q.2 ∧ q.2 + 9 * ns.length ≤ 27, ?_, ?_, ?_, ?_⟩
        · refine wk0 ⟨[], (List.range (1 + r2).toNat).map fun (i : Nat) => 0 + (i : Int), z9, z10, z11, z12, z13, z14, rfl, rfl, by rw [List.map_map]; rfl, ?_, ?_, ?_, fun q h => absurd h List.not_mem_nil⟩ (Nat.le_refl _)
          · rw [List.length_map, List.length_range]; simp; omega
          · rw [List.length_map, List.length_range]; simp; omega
          · exact List.nodup_nil
        · rintro rest δ m' ⟨cs, ns, z9, z10, z11, z12, z13, z14, rfl, rfl, rfl, h1, h2, hnd, h3⟩
          exact ⟨trivial, by simp⟩
        · rintro x rest δ m' ⟨cs, ns, z9, z10, z11, z12, z13, z14, rfl, rfl, hr, h1, h2, hnd, h3⟩
          cases ns with
          | nil => cases hr
          | cons i ns =>
            cases hr
            rw [List.length_cons] at h1 h2
            have at1 : (m ++ [Ent.dK (knE K0), Ent.dT (cntE cs)])[m.length + 1]? = some (.dT (cntE cs)) := by
              rw [List.getElem?_append_right (by omega)]; simp
            have hk2 : (m ++ [Ent.dK (knE K0), Ent.dT (cntE cs)])[k]? = some (.drw 3) := by
              rw [List.getElem?_append_left kl]; exact hk
            have vl : (valsK low step n).length = n := by simp [valsK]
            dsimp only [dSeq, dAsg, hName, dBin, dVar, dC, dCall, dCons, dNil, dCB, dTup, dLst, dRet, dTst, tstQ, dIf, dIfS, dPar, dNext, dUn, dNeg, dNotT, dAndT, dOrT, dChain, hTup, hCons, hNil, int2, dCutF, dPart, dNoPart, dLstF, dDrop, dML, dListRg1, dListRg2, dListRg1F, dListRg2F, dNewK, dNewT, dGetD, List.map_cons, List.map_nil, lstF, allSh, mkTup, List.set, List.getElem?_cons_zero, List.getElem?_cons_succ]
            refine cl_int hk2 (by omega) (by omega) fun other ho => ?_
            refine r_lcR (as := (List.range (if (p : Int) > 1 then (p : Int) else 1).toNat).map fun (i : Nat) => (i : Int)) (fun i => .sh (.int i)) (fun (_ : Int) d => ∃ b : Int, d = .int b ∧ 0 ≤ b ∧ b < 2) ?_ ?_ ?_ ?_
            · exact fun Q' h => it_rng1 (n := if (p : Int) > 1 then (p : Int) else 1) (fun Q' h => h) (by split <;> omega) h
            · rw [List.length_map, List.length_range]; split <;> omega
            · exact fun i _ Y hY => cl_below hk2 (by decide) (by decide) fun b b0 b1 => hY _ ⟨b, rfl, b0, b1⟩
            · intro ds hd
              obtain ⟨bs, rfl, lb, hbs⟩ := paired_ints2 hd
              rw [List.length_map, List.length_range] at lb
              have lb2 : bs.length = max p 1 := by split at lb <;> omega
              have e1 : cut (bs.map PyData.int) none (some (p : Int)) ++ [.int other] ++ cut (bs.map PyData.int) (some (p : Int)) none = (bs.take p ++ [other] ++ bs.drop p).map .int := by
                rw [cut_map, cut_map, cut_to, cut_from]; simp
              have c1 := cut_len (bs.map PyData.int) none (some (p : Int))
              have c2 := cut_len (bs.map PyData.int) (some (p : Int)) none
              rw [List.length_map] at c1 c2
              have ob : -100 ≤ other ∧ other ≤ 100 := by
                obtain ⟨i, hi, rfl⟩ := List.mem_map.mp ho
                have hi := List.mem_range.mp hi
                have h1 : 0 ≤ step * (i : Int) := Int.mul_nonneg (by omega) (by omega)
                have h2 : step * (i : Int) ≤ 7 * 8 := Int.mul_le_mul hstep.2 (by omega) (by omega) (by omega)
                omega
              have ps : p < (bs.take p ++ [other] ++ bs.drop p).length ∧ StOk p (bs.take p ++ [other] ++ bs.drop p) := by
                refine ⟨by simp; omega, by simp; omega, fun x hx => ?_⟩
                have h2 : ∀ b ∈ bs, -100 ≤ b ∧ b ≤ 100 := fun b hb => by have := hbs b hb; omega
                rcases List.mem_append.mp hx with hx | hx
                · rcases List.mem_append.mp hx with hx | hx
                  · exact h2 x (List.mem_of_mem_take hx)
                  · rw [List.mem_singleton.mp hx]; exact ob
                · exact h2 x (List.mem_of_mem_drop hx)
              have pa : atP p (bs.take p ++ [other] ++ bs.drop p) = other := by
                unfold atP
                rw [List.append_assoc, List.getElem?_append_right (by simp; omega)]
                have : p - (bs.take p).length = 0 := by simp; omega
                rw [this]; rfl
              refine And.intro rfl (And.intro (Nat.ble_eq_true_of_le (by rw [PySem.sizeLine_eq]; simp; omega)) (And.intro (Nat.ble_eq_true_of_le (by rw [PySem.sizeLine_eq, List.length_append]; simp; omega)) ?_))
              show gTuple [.sh (.list (cut (bs.map PyData.int) none (some (p : Int)) ++ [.int other] ++ cut (bs.map PyData.int) (some (p : Int)) none))] _ _
              rw [e1]
              generalize bs.take p ++ [other] ++ bs.drop p = st at ps pa
              refine tuple_list ?_
              refine And.intro (isDct_T at1) ?_
              have lk := look_T (.inl at1) st
              rw [show DV.sh (.tuple (st.map .int)) = .sh (stI st) from rfl, lk]
              have h3' : ∀ q ∈ cs, p < q.1.length ∧ StOk p q.1 ∧ atP p q.1 ∈ us ∧ 1 ≤ q.2 ∧ q.2 + 9 * ((ns.length : Int) + 1) ≤ 27 := fun q hq => by
                have := h3 q hq
                simp only [List.length_cons] at this
                exact ⟨this.1, this.2.1, this.2.2.1, this.2.2.2.1, by omega⟩
              obtain ⟨c0, ec, c00, c01⟩ := getC (s := st) (B := 27 - 9 * ((ns.length : Int) + 1)) (by omega) fun q hq => ⟨(h3' q hq).2.2.2.1, by have := (h3' q hq).2.2.2.2; omega⟩
              show gAddF ((valD (cntE cs) (.tup (st.map .num))).getD (.sh (.int 0))) (.sh (.int 1)) _ _
              rw [ec]
              refine addF_int (cl_below (k := k) (b := 3) hk2 (by decide) (by decide) fun b b0 b1 => addF_int ?_)
              show gPut (.own (m.length + 1)) (.sh (stI st)) (.sh (.int (c0 + 1 + b))) _ _
              refine gPut_T at1 (by omega) ?_
              have es : (m ++ [Ent.dK (knE K0), Ent.dT (cntE cs)]).set (m.length + 1) (.dT (cntE (putC cs st (c0 + 1 + b)))) = m ++ [.dK (knE K0), .dT (cntE (putC cs st (c0 + 1 + b)))] := by
                rw [List.set_append_right _ _ (by omega)]; simp
              rw [es]
              have pl := putC_len cs st (c0 + 1 + b)
              refine wk0 ⟨putC cs st (c0 + 1 + b), ns, _, _, _, _, _, _, rfl, rfl, rfl, by omega, by omega, putC_nodup hnd _ _, fun q hq => ?_⟩ (by simp)
              rcases putC_mem hq with hq | rfl
              · have := h3' q hq
                exact ⟨this.1, this.2.1, this.2.2.1, this.2.2.2.1, by omega⟩
              · exact ⟨ps.1, ps.2, by show atP p st ∈ us; rw [pa]; exact (umem _).mpr ho, by show 1 ≤ c0 + 1 + b; omega, by show c0 + 1 + b + 9 * (ns.length : Int) ≤ 27; omega⟩
        · rintro δ m' ⟨cs, ns, z9, z10, z11, z12, z13, z14, rfl, rfl, hr, h1, h2, hnd, h3⟩
          cases ns with
          | cons i ns => cases hr
          | nil =>
            dsimp only [dSeq, dAsg, hName, dBin, dVar, dC, dCall, dCons, dNil, dCB, dTup, dLst, dRet, dTst, tstQ, dIf, dIfS, dPar, dNext, dUn, dNeg, dNotT, dAndT, dOrT, dChain, hTup, hCons, hNil, int2, dCutF, dPart, dNoPart, dLstF, dDrop, dML, dListRg1, dListRg2, dListRg1F, dListRg2F, dNewK, dNewT, dGetD, List.map_cons, List.map_nil, lstF, allSh, mkTup, List.set, List.getElem?_cons_zero, List.getElem?_cons_succ]
            have hs0 : 0 < cs.length := by simpa using h1
            have h3' : ∀ q ∈ cs, p < q.1.length ∧ StOk p q.1 ∧ atP p q.1 ∈ us ∧ 1 ≤ q.2 ∧ q.2 ≤ 27 := fun q hq => by
              have := h3 q hq
              simp only [List.length_nil] at this
              exact ⟨this.1, this.2.1, this.2.2.1, this.2.2.2.1, by omega⟩
            have lcs : cs.length ≤ 3 := by simpa using h2
            refine r_lcX (β := Unit) (as := cs) (fun q : List Int × Int => .sh (stI q.1)) (fun _ => true) (fun q => .int (cntOf cs q.1)) (fun _ => True) (fun _ => m ++ [.dK (knE K0), .fT (cntE cs)]) ?_ (by omega) ?_ ?_
            · intro Q' h
              have at1 : (m ++ [Ent.dK (knE K0), Ent.dT (cntE cs)])[m.length + 1]? = some (.dT (cntE cs)) := by
                rw [List.getElem?_append_right (by omega)]; simp
              refine any_T at1 ?_
              have es : (m ++ [Ent.dK (knE K0), Ent.dT (cntE cs)]).set (m.length + 1) (.fT (cntE cs)) = m ++ [.dK (knE K0), .fT (cntE cs)] := by
                rw [List.set_append_right _ _ (by omega)]; simp
              rw [es, cntE_data]
              exact h () trivial _ fun _ => trivial
            · intro _ _ q hq Y N hY hN
              have at1 : (m ++ [Ent.dK (knE K0), Ent.fT (cntE cs)])[m.length + 1]? = some (.fT (cntE cs)) := by
                rw [List.getElem?_append_right (by omega)]; simp
              exact gAt_cnt at1 (cntOf_mem hq) (hY rfl)
            · intro _ _
              have e1 : ((cs.filter fun _ => true).map fun q => PyData.int (cntOf cs q.1)) = (cs.map fun q => cntOf cs q.1).map .int := by
                rw [List.filter_eq_self.mpr (fun _ _ => rfl), List.map_map]; rfl
              rw [e1]
              have fl1 : (Ent.dK (knE K0)).flat := ke_flat (.inl rfl)
              have fl2 : (Ent.fT (cntE cs)).flat := cntE_flat cs
              refine ⟨m ++ [.dK (knE K0), .fT (cntE cs)], _, rfl, rfl, .inr ⟨scp_add2 sc fl1 fl2, by simp⟩, ?_⟩
              have whb := cnt_sum (fun q hq => (h3' q hq).2.2.2) (n := 3) (by omega) hs0
              have at1 : (m ++ [Ent.dK (knE K0), Ent.fT (cntE cs)])[m.length + 1]? = some (.fT (cntE cs)) := by
                rw [List.getElem?_append_right (by omega)]; simp
              show gSum [.sh (.list ((cs.map fun q => cntOf cs q.1).map .int))] _ _
              refine sum_ints ?_
              generalize hw : (cs.map fun q => cntOf cs q.1).sum = w at whb
              refine r_lcM1 (as := sortS (cs.map (·.1))) (fun s => .sh (stI s)) (fun s => rowI (s, fr (cntOf cs s) w)) ?_ ?_ ?_ ?_
              · intro Q' h
                refine it_list (ds := (sortS (cs.map (·.1))).map stI) (fun Q2 h2 => ?_) (by rw [List.map_map]; exact h)
                exact sorted_cnt at1 (fun q hq => by have := (h3' q hq).1; omega) h2
              · unfold sortS; rw [List.length_mergeSort, List.length_map]; omega
              · intro s hs Y hY
                have hs : s ∈ cs.map (·.1) := List.mem_mergeSort.mp hs
                obtain ⟨q, hq, rfl⟩ := List.mem_map.mp hs
                have hb := cnt_bd (fun q hq => (h3' q hq).2.2.2) hq
                exact gAt_cnt at1 (cntOf_mem hq) ⟨_, _, rfl, by omega, log2_lt9 (n := 20) (by omega) (by decide) (by decide), And.intro rfl hY⟩
              · have er : ((sortS (cs.map (·.1))).map fun s => rowI (s, fr (cntOf cs s) w)) = (cntRow cs w).map rowI := by unfold cntRow; rw [List.map_map]; rfl
                rw [er]
                have rd : RowDist (cntRow cs w) := by rw [← hw]; exact cntRow_dist (fun q hq => (h3' q hq).2.2.2) hnd lcs hs0
                have hr1 : (cntRow cs w).length = (sortS (cs.map (·.1))).length := by unfold cntRow; rw [List.length_map]
                have hr2 : ∀ r ∈ cntRow cs w, r.1 ∈ sortS (cs.map (·.1)) ∧ 0 < r.2.2 ∧ FB 20 r.2 := fun r hr => by
                  obtain ⟨s, hs, rfl⟩ := List.mem_map.mp hr
                  refine ⟨hs, ?_⟩
                  obtain ⟨q, hq, rfl⟩ := List.mem_map.mp (List.mem_mergeSort.mp hs)
                  have hb := cnt_bd (fun q hq => (h3' q hq).2.2.2) hq
                  exact ⟨(fr_red (by omega)).1, fr_bd (by omega) (by omega) (by omega)⟩
                generalize cntRow cs w = row at rd hr1 hr2
                refine tuple_list ?_
                show gPut (.own m.length) (.sh (.int v)) (.sh (.tuple (row.map rowI))) _ _
                have atm : (m ++ [Ent.dK (knE K0), Ent.fT (cntE cs)])[m.length]? = some (.dK (knE K0)) := by
                  rw [List.getElem?_append_right (by omega)]; simp
                have vnew : v ∉ K0.map (·.1) := fun hv => by
                  rw [← hu] at und
                  have := (List.nodup_append.mp und).2.2 v hv v List.mem_cons_self
                  exact this rfl
                have kl0 : K0.length ≤ 9 := by
                  have : (K0.map (·.1) ++ v :: vs).length = us.length := by rw [hu]
                  rw [List.length_append, List.length_map] at this
                  omega
                refine gPut_kn atm vnew (by omega) ?_
                have es : (m ++ [Ent.dK (knE K0), Ent.fT (cntE cs)]).set m.length (.dK (knE (K0 ++ [(v, row)]))) = m ++ [.dK (knE (K0 ++ [(v, row)]))] ++ [.fT (cntE cs)] := by
                  rw [List.set_append_right _ _ (by omega)]; simp
                rw [es]
                have lm : (m ++ [Ent.dK (knE (K0 ++ [(v, row)]))]).length = m.length + 1 := by simp
                refine wk_cut (m0 := m ++ [.dK (knE (K0 ++ [(v, row)]))]) (δ0 := [some (.own k), some (.sh (.int (p : Int))), some (.sh (.int (n : Int))), some (.sh (.int low)), some (.sh (.int step)), some (.sh (.list ((valsK low step n).map .int))), some (.own m.length), none, none, none, none, none, none, none, none]) (t := [.fT (cntE cs)]) ?_ (scp_add1 sc (ke_flat (.inl rfl))) ?_ ?_
                · rw [lm]
                  have kl1 : k < m.length + 1 := by omega
                  (repeat' first | exact Fgt.nil | refine Fgt.keep (by first | exact trivial | exact kl1 | exact Nat.lt_succ_self _) ?_ | refine Fgt.drop ?_)
                · rw [lm]; simp
                refine ⟨K0 ++ [(v, row)], vs, _, _, _, _, _, _, _, _, rfl, rfl, rfl, ?_, ?_⟩
                · rw [List.map_append, List.append_assoc]; exact hu
                · intro q hq
                  rcases List.mem_append.mp hq with hq | hq
                  · exact hK q hq
                  · cases List.mem_singleton.mp hq
                    have hst : ∀ r ∈ row, ∃ q ∈ cs, q.1 = r.1 := fun r hr => by
                      have h := (hr2 r hr).1
                      have h : r.1 ∈ cs.map (·.1) := List.mem_mergeSort.mp h
                      obtain ⟨q, hq, e⟩ := List.mem_map.mp h
                      exact ⟨q, hq, e⟩
                    have hst2 : ∀ r ∈ row, p < r.1.length ∧ StOk p r.1 ∧ atP p r.1 ∈ us := fun r hr => by
                      obtain ⟨q, hq, e⟩ := hst r hr
                      have := h3' q hq
                      rw [e] at this
                      exact ⟨this.1, this.2.1, this.2.2.1⟩
                    have vb : -100 ≤ v ∧ v ≤ 100 := by
                      have hv : v ∈ valsK low step n := (umem v).mp (by rw [← hu]; exact List.mem_append_right _ List.mem_cons_self)
                      obtain ⟨i, hi, rfl⟩ := List.mem_map.mp hv
                      have hi := List.mem_range.mp hi
                      have h1 : 0 ≤ step * (i : Int) := Int.mul_nonneg (by omega) (by omega)
                      have h2 : step * (i : Int) ≤ 7 * 8 := Int.mul_le_mul hstep.2 (by omega) (by omega) (by omega)
                      omega
                    refine ⟨⟨?_, fun r hr => ⟨(hst2 r hr).1, (hr2 r hr).2⟩⟩, fun r hr => (hst2 r hr).2.2, vb, rd, fun r hr => (hst2 r hr).2.1⟩
                    show row.length ≤ 3
                    rw [hr1]; unfold sortS; rw [List.length_mergeSort, List.length_map]; exact lcs
    · rintro δ m' ⟨K0, vs, z7, z8, z9, z10, z11, z12, z13, z14, rfl, rfl, hr, hu, hK⟩
      cases vs with
      | cons v vs => cases hr
      | nil =>
        rw [List.append_nil] at hu
        refine And.intro rfl (.inl (q p K0 (by omega) ⟨by rw [hu]; exact und, ?_, fun r hr => by rw [hu]; exact ⟨(hK r hr).1, (hK r hr).2.1⟩⟩ fun r hr => (hK r hr).2.2))
        have : K0.length = us.length := by rw [← hu, List.length_map]
        omega
abbrev N_reduced : List Str := ["numerator", "denominator", "first", "second"]
abbrev rd_reduced : DTS :=
    (dSeq (dIfS (dTst (dBin (gEq false) (dVar 1) (dC (.sh (.int 0))))) dNever dNext)
    (dSeq (dPar 2 3 (dCons (dCB gAbs (dCons (dVar 0) dNil)) (dCons (dCB gAbs (dCons (dVar 1) dNil)) dNil)))
    (dSeq (dWhile (dTst (dBin (gEq true) (dVar 3) (dC (.sh (.int 0))))) (dPar 2 3 (dCons (dVar 3) (dCons (dBin gMod (dVar 2) (dVar 3)) dNil))))
    (dSeq (dIfS (dTst (dBin gLt (dVar 1) (dC (.sh (.int 0))))) (dAsg (dUn dNeg (dVar 2)) (hName 2)) dNext)
    (dRet (dTup (dCons (dBin gFdiv (dVar 0) (dVar 2)) (dCons (dBin gFdiv (dVar 1) (dVar 2)) dNil))))))))
def sp_reduced : DSpec := fun xs m Q E => ∃ a b : Int, xs = [.sh (.int a), .sh (.int b)] ∧ b ≠ 0 ∧ b.natAbs.log2 < 9000 ∧ Q (.sh (frD (fr a b))) m
theorem ln_reduced : ∀ xs m Q E, sp_reduced xs m Q E → xs.length = 2 := fun _ _ _ _ h => by obtain ⟨_, _, rfl, _⟩ := h; rfl
theorem pl_reduced : Promise N_reduced rd_reduced sp_reduced := by
  intro xs m Qd Ed sc h
  obtain ⟨a, b, rfl, hb, hl, q⟩ := h
  show rd_reduced _ [some (.sh (.int a)), some (.sh (.int b)), none, none] m
  show (if _ = true then _ else _)
  refine ifT (c := decide (b = 0)) (fun h => absurd (of_decide_eq_true h) hb) (fun _ => ?_)
  show dWhile _ _ _ [some (.sh (.int a)), some (.sh (.int b)), some (.sh (.int (if a < 0 then -a else a))), some (.sh (.int (if b < 0 then -b else b)))] m
  refine ⟨fun n δ m' => m' = m ∧ ∃ c e : Int, δ = [some (.sh (.int a)), some (.sh (.int b)), some (.sh (.int c)), some (.sh (.int e))] ∧ 0 ≤ c ∧ 0 ≤ e ∧ e.toNat = n ∧ Int.gcd c e = Int.gcd a b, _, ⟨_, _, .same (fun _ _ h => h) rfl rfl, Nat.le_refl _, rfl, _, _, rfl, by split <;> omega, by split <;> omega, rfl, by rw [absI, absI]; rfl⟩, ?_⟩
  rintro n δ m' ⟨rfl, c, e, rfl, hc, he, hn, hg⟩
  show (if (if true then !decide (e = 0) else decide (e = 0)) = true then _ else _)
  refine ifT (c := !decide (e = 0)) (fun h => ?_) (fun h => ?_)
  · have e0 : e ≠ 0 := by simpa using h
    have bd := fmod_bd c (b := e) (by omega)
    refine And.intro e0 ⟨_, _, .same (fun _ _ h => h) rfl rfl, Nat.le_refl _, (c.fmod e).toNat, by omega, rfl, e, c.fmod e, rfl, he, bd.1, rfl, ?_⟩
    rw [gcd_step hc (by omega)]; exact hg
  · have e0 : e = 0 := by simpa using h
    subst e0
    have hc2 : c = (Int.gcd a b : Int) := by rw [← hg]; simp; omega
    subst hc2
    have g := gcd_pos (a := a) hb
    have fin : ∀ s : Int, s = (if b < 0 then -(Int.gcd a b : Int) else (Int.gcd a b : Int)) → (dRet (dTup (dCons (dBin gFdiv (dVar 0) (dVar 2)) (dCons (dBin gFdiv (dVar 1) (dVar 2)) dNil)))) { nx := fun _ m'_1 => RtQ m'.length Qd (.sh .none) m'_1, rt := RtQ m'.length Qd, ex := RtX m'.length Ed } [some (.sh (.int a)), some (.sh (.int b)), some (.sh (.int s)), some (.sh (.int 0))] m' := by
      intro s hs
      have cd : ∀ i, cDiv i s := fun i => ⟨by rw [hs]; split <;> omega, Nat.lt_of_le_of_lt (log2_mono (by rw [hs]; split <;> simpa using gcd_le hb)) hl⟩
      obtain ⟨e1, e2⟩ := div_fr2 (a := a) hb
      rw [← hs] at e1 e2
      show cDiv _ _ ∧ cDiv _ _ ∧ _ ∧ RtQ _ _ (.sh (.tuple [.int (a.fdiv s), .int (b.fdiv s)])) m'
      rw [e1, e2]
      exact ⟨cd _, cd _, rfl, .inl q⟩
    show True ∧ (if _ = true then _ else _)
    refine And.intro trivial (ifT (c := decide (b < 0)) (fun h => ?_) (fun h => ?_))
    · exact fin (-(Int.gcd a b : Int)) (by rw [if_pos (of_decide_eq_true h)])
    · exact fin _ (by rw [if_neg (of_decide_eq_false h)])
abbrev N_plus : List Str := ["first", "second"]
abbrev rd_plus : DTS :=
    (dSeq (dIfS (dTst (dChain (gEq false) (gEq false) (dBin gIx (dVar 0) (dC (.sh (.int 1)))) (dBin gIx (dVar 1) (dC (.sh (.int 1)))) (dC (.sh (.int 1))))) (dRet (dTup (dCons (dBin gAdd (dBin gIx (dVar 0) (dC (.sh (.int 0)))) (dBin gIx (dVar 1) (dC (.sh (.int 0))))) (dCons (dC (.sh (.int 1))) dNil)))) dNext)
    (dRet (dCall sp_reduced (dCons (dBin gAdd (dBin gMul (dBin gIx (dVar 0) (dC (.sh (.int 0)))) (dBin gIx (dVar 1) (dC (.sh (.int 1))))) (dBin gMul (dBin gIx (dVar 1) (dC (.sh (.int 0)))) (dBin gIx (dVar 0) (dC (.sh (.int 1)))))) (dCons (dBin gMul (dBin gIx (dVar 0) (dC (.sh (.int 1)))) (dBin gIx (dVar 1) (dC (.sh (.int 1))))) dNil)))))
def sp_plus : DSpec := fun xs m Q E => ∃ x y : Int × Int, xs = [.sh (frD x), .sh (frD y)] ∧ 0 < x.2 ∧ 0 < y.2 ∧ FB 4400 x ∧ FB 4400 y ∧ Q (.sh (frD (addF x y))) m
theorem ln_plus : ∀ xs m Q E, sp_plus xs m Q E → xs.length = 2 := fun _ _ _ _ h => by obtain ⟨_, _, rfl, _⟩ := h; rfl
theorem pl_plus : Promise N_plus rd_plus sp_plus := by
  intro xs m Qd Ed sc h
  obtain ⟨x, y, rfl, px, py, hx, hy, q⟩ := h
  have mk : ∀ {a b : Int}, a.natAbs < 2 ^ 4400 → b.natAbs < 2 ^ 4400 → IntMulOk a b := fun h g => mul_okN h g (by decide) (by decide)
  have lg : (x.2 * y.2).natAbs.log2 < 9000 := log2_lt9 (mul_lt hx.2 hy.2) (by decide) (by decide)
  have tl : (dRet (dCall sp_reduced (dCons (dBin gAdd (dBin gMul (dBin gIx (dVar 0) (dC (.sh (.int 0)))) (dBin gIx (dVar 1) (dC (.sh (.int 1))))) (dBin gMul (dBin gIx (dVar 1) (dC (.sh (.int 0)))) (dBin gIx (dVar 0) (dC (.sh (.int 1)))))) (dCons (dBin gMul (dBin gIx (dVar 0) (dC (.sh (.int 1)))) (dBin gIx (dVar 1) (dC (.sh (.int 1))))) dNil)))) { nx := fun _ m' => RtQ m.length Qd (.sh .none) m', rt := RtQ m.length Qd, ex := RtX m.length Ed } [some (.sh (frD x)), some (.sh (frD y))] m := by
    show IntMulOk _ _ ∧ IntMulOk _ _ ∧ IntMulOk _ _ ∧ sp_reduced _ _ _ _
    exact ⟨mk hx.1 hy.2, mk hy.1 hx.2, mk hx.2 hy.2, _, _, rfl, pos_mul px py, lg, .inl q⟩
  obtain ⟨a, b⟩ := x
  obtain ⟨c, d⟩ := y
  show dChain (gEq false) (gEq false) (dBin gIx (dVar 0) (dC (.sh (.int 1)))) (dBin gIx (dVar 1) (dC (.sh (.int 1)))) (dC (.sh (.int 1))) [some (.sh (frD (a, b))), some (.sh (frD (c, d)))] m _ _
  refine chain_int (b := b) (d := d) (i := 1) (fun _ h => h) (fun _ h => h) (fun _ h => h) ?_
  refine ifT (c := decide (b = d) && decide (d = 1)) (fun h => ?_) (fun _ => tl)
  have h2 := Bool.and_eq_true_iff.mp h
  have h3 := of_decide_eq_true h2.1
  have h4 := of_decide_eq_true h2.2
  subst h3; subst h4
  show _ ∧ RtQ _ _ (.sh (.tuple [.int (a + c), .int 1])) m
  refine And.intro rfl (.inl ?_)
  have e : addF (a, 1) (c, 1) = (a + c, 1) := by
    unfold addF fr
    simp
  rw [e] at q
  exact q
abbrev N_final_chances : List Str := ["place", "one", "found", "state", "chance"]
def f_final_chances : LSpec := fun ys b Q _ => ∃ (p : Nat) (row : Row), ys = [.sh (.int (p : Int)), .sh (rowD row)] ∧ b = [] ∧ RowOk p row ∧ ∀ kvs : List (Key × DV), Chs (nextV p row) 100 kvs → Q (.e (.dK kvs))
theorem ln_final_chances : ∀ ys b Q E, f_final_chances ys b Q E → ys.length = 2 := fun _ _ _ _ ⟨_, _, h, _⟩ => by rw [h]; rfl
abbrev sp_final_chances : DSpec := locS f_final_chances
abbrev rd_final_chances : DTS :=
    (dSeq (dAsg dNewK (hName 2))
    (dSeq (dFor (dISeq (dVar 1)) (hTup 2 (hCons (hName 3) (hCons (hName 4) hNil))) (dAsg (dCall sp_plus (dCons (dGetD (dVar 2) (dBin gIx (dVar 3) (dVar 0)) (dC (.sh c_ZERO))) (dCons (dVar 4) dNil))) (hSub gPut (dVar 2) (dBin gIx (dVar 3) (dVar 0)))))
    (dRet (dVar 2))))
theorem pl_final_chances : PromL N_final_chances rd_final_chances f_final_chances := by
  rintro ys b Q E sc ⟨p, row, rfl, rfl, ok, q⟩
  show rd_final_chances _ [some (.sh (.int (p : Int))), some (.sh (rowD row)), none, none, none] []
  dsimp only [rd_final_chances, dSeq, dAsg, hName, dBin, dVar, dC, dCall, dCons, dNil, dCB, dTup, dLst, dRet, dTst, tstQ, dIf, dIfS, dPar, dNext, dUn, dNeg, dNotT, dAndT, dOrT, dChain, hTup, hCons, hNil, int2, dCutF, dPart, dNoPart, dLstF, dDrop, dML, dListRg1, dListRg2, dListRg1F, dListRg2F, dNewK, dNewT, dGetD, List.map_cons, List.map_nil, lstF, allSh, mkTup, List.set, List.getElem?_cons_zero, List.getElem?_cons_succ]
  show dFor _ _ _ _ [some (.sh (.int (p : Int))), some (.sh (rowD row)), some (.own 0), none, none] [.dK []]
  refine it_tupleA (ds := row.map rowI) (fun Q' h => h) fun kp hk => ?_
  refine ⟨fun rest δ m' => ∃ (n : Nat) (ks : List Int) (bs : Row) (kvs : List (Key × DV)) (z3 z4 : Option DV), δ = [some (.sh (.int (p : Int))), some (.sh (rowD row)), some (.own 0), z3, z4] ∧ m' = [.dK kvs] ∧ rest = (bs.map rowI).map .sh ∧
      (∀ q ∈ bs, q ∈ row) ∧ (bs.map fun q => atP p q.1).foldl insN ks = nextV p row ∧ Chs ks n kvs ∧ n + 22 * bs.length ≤ 100 ∧ kvs.length + bs.length ≤ 3, wk0 ⟨1, [], row, [], none, none, rfl, rfl, rfl, fun _ h => h, rfl, chs_nil 1, by have := ok.1; omega, by simpa using ok.1⟩ (Nat.le_refl _), ?_, ?_, ?_⟩
  · rintro rest δ m' ⟨n, ks, bs, kvs, z3, z4, rfl, rfl, rfl, hb, hf, hc, hn, hl⟩
    exact ⟨hk _, Nat.le_refl _⟩
  · rintro x rest δ m' ⟨n, ks, bs, kvs, z3, z4, rfl, rfl, hr, hb, hf, hc, hn, hl⟩
    cases bs with
    | nil => cases hr
    | cons r bs =>
      cases hr
      obtain ⟨r1, r2, r3⟩ := ok.2 r (hb r List.mem_cons_self)
      rw [List.length_cons] at hn hl
      refine And.intro rfl ?_
      dsimp only [dSeq, dAsg, hName, dBin, dVar, dC, dCall, dCons, dNil, dCB, dTup, dLst, dRet, dTst, tstQ, dIf, dIfS, dPar, dNext, dUn, dNeg, dNotT, dAndT, dOrT, dChain, hTup, hCons, hNil, int2, dCutF, dPart, dNoPart, dLstF, dDrop, dML, dListRg1, dListRg2, dListRg1F, dListRg2F, dNewK, dNewT, dGetD, List.map_cons, List.map_nil, lstF, allSh, mkTup, List.set, List.getElem?_cons_zero, List.getElem?_cons_succ]
      refine And.intro trivial (ix_state r1 ?_)
      rw [lookD_K (kvs := kvs) rfl]
      obtain ⟨f, ef, f1, f2⟩ := chs_get hc (atP p r.1)
      show sp_plus [(valD kvs (.inl (atP p r.1))).getD (.sh (frD (0, 1))), .sh (frD r.2)] _ _ _
      rw [ef]
      refine ⟨f, r.2, rfl, f1, r2, f2.mono (by omega), r3.mono (by omega), ?_⟩
      have bd := addF_bd f2 r3 f1 r2
      refine ix_state r1 ?_
      show kvs.length < sizeLine ∧ _
      refine And.intro (by rw [PySem.sizeLine_eq]; omega) (wk0 ⟨n + 22, insN ks (atP p r.1), bs, _, _, _, rfl, rfl, rfl, fun q h => hb q (List.mem_cons_of_mem _ h), hf, chs_put hc bd (addF_red f1 r2).1 (by omega), by omega, ?_⟩ (Nat.le_refl _))
      have := putD_len kvs (.inl (atP p r.1)) (.sh (frD (addF f r.2)))
      omega
  · rintro δ m' ⟨n, ks, bs, kvs, z3, z4, rfl, rfl, hr, hb, hf, hc, hn, hl⟩
    cases bs with
    | cons r bs => cases hr
    | nil =>
      have hf : ks = nextV p row := hf
      subst hf
      have fl : shs kvs := fun q hq => let ⟨f, e, _⟩ := hc.2 q hq; ⟨_, e⟩
      exact rtl_e (b := []) (t := [.dK kvs]) (k := 0) rfl (Nat.zero_le _) fl rfl (q kvs ⟨hc.1, fun q hq => let ⟨f, e, h1, h2⟩ := hc.2 q hq; ⟨f, e, h1, h2.mono (by have : n + 22 * 0 ≤ 100 := hn; omega)⟩⟩)
abbrev N_reached : List Str := ["place", "kernel", "start", "found", "waiting", "other"]
def f_reached : LSpec := fun ys b Q _ => ∃ (p : Nat) (e : Ent) (K : Kn) (v : Int), ys = [.sh (.int (p : Int)), .own 0, .sh (.int v)] ∧ b = [e] ∧ KE e K ∧ KOk p K ∧ v ∈ K.map (·.1) ∧ (Q (.v (.list ((reachS p K v).map .int))) ∨ Q (.e (.lst (((reachS p K v).map PyData.int).map .sh))))
theorem ln_reached : ∀ ys b Q E, f_reached ys b Q E → ys.length = 3 := fun _ _ _ _ ⟨_, _, _, _, h, _⟩ => by rw [h]; rfl
abbrev sp_reached : DSpec := locS f_reached
abbrev rd_reached : DTS :=
    (dSeq (dAsg (dLst (dCons (dVar 2) dNil)) (hName 3))
    (dSeq (dAsg (dLst (dCons (dVar 2) dNil)) (hName 4))
    (dSeq (dWhile (dTst (dBin (gEq true) (dVar 4) (dLstF dNil))) (dFor (dIAny (dCall sp_final_chances (dCons (dVar 0) (dCons (dBin gAt (dVar 1) (dML0 gPop (dVar 4))) dNil)))) (hName 5) (dIfS (dTst (dBin (gInD true) (dVar 5) (dVar 3))) (dSeq (dDrop (dML gAppend (dVar 3) (dCons (dVar 5) dNil)))
    (dDrop (dML gAppend (dVar 4) (dCons (dVar 5) dNil)))) dNext)))
    (dRet (dCB gSorted (dCons (dVar 3) dNil))))))
theorem pl_reached : PromL N_reached rd_reached f_reached := by
  rintro ys b Q E sc ⟨p, e, K, v, rfl, rfl, he, ok, hv, q⟩
  show rd_reached _ [some (.sh (.int (p : Int))), some (.own 0), some (.sh (.int v)), none, none, none] [e]
  dsimp only [rd_reached, dSeq, dAsg, hName, dBin, dVar, dC, dCall, dCons, dNil, dCB, dTup, dLst, dRet, dTst, tstQ, dIf, dIfS, dPar, dNext, dUn, dNeg, dNotT, dAndT, dOrT, dChain, hTup, hCons, hNil, int2, dCutF, dPart, dNoPart, dLstF, dDrop, dML, dListRg1, dListRg2, dListRg1F, dListRg2F, dNewK, dNewT, dGetD, List.map_cons, List.map_nil, lstF, allSh, mkTup, List.set, List.getElem?_cons_zero, List.getElem?_cons_succ]
  refine And.intro rfl (And.intro rfl ?_)
  show dWhile _ _ _ [some (.sh (.int (p : Int))), some (.own 0), some (.sh (.int v)), some (.own 1), some (.own 2), none] [e, .lst (([v].map PyData.int).map .sh), .lst (([v].map PyData.int).map .sh)]
  refine ⟨fun n δ m' => ∃ (found ws : List Int) (z : Option DV), δ = [some (.sh (.int (p : Int))), some (.own 0), some (.sh (.int v)), some (.own 1), some (.own 2), z] ∧ m' = [e, .lst ((found.map PyData.int).map .sh), .lst ((ws.map PyData.int).map .sh)] ∧
      Srch p K v found ws [] none ∧ n = 2 * (K.length - found.length) + ws.length ∧ n ≤ 20, _, wk0 ⟨[v], [v], none, rfl, rfl, .init p K v, rfl, by have := ok.2.1; simp; omega⟩ (by simp), ?_⟩
  rintro n δ m' ⟨found, ws, z, rfl, rfl, sr, hn, n20⟩
  dsimp only [dSeq, dAsg, hName, dBin, dVar, dC, dCall, dCons, dNil, dCB, dTup, dLst, dRet, dTst, tstQ, dIf, dIfS, dPar, dNext, dUn, dNeg, dNotT, dAndT, dOrT, dChain, hTup, hCons, hNil, int2, dCutF, dPart, dNoPart, dLstF, dDrop, dML, dListRg1, dListRg2, dListRg1F, dListRg2F, dNewK, dNewT, dGetD, List.map_cons, List.map_nil, lstF, allSh, mkTup, List.set, List.getElem?_cons_zero, List.getElem?_cons_succ]
  refine And.intro rfl ?_
  refine gEq_own (k := 2) (ns := ws) (es := []) rfl fun c hc => ?_
  cases c with
  | true =>
    have e0 : ws = [] := hc.mp rfl
    subst e0
    refine ⟨found.map .int, rfl, (alike_ints _).1, (alike_ints _).2.1, (alike_ints _).2.2, ?_⟩
    rw [sortD_ints, sr.done ok hv]
    rcases q with q | q
    · exact rtl_l (b := [e]) (t := [_, _, _]) (k := 3) rfl (by simp) q
    · exact rtl_e (b := [e]) (t := [_, _, _]) (k := 3) rfl (by simp) ⟨_, rfl⟩ rfl q
  | false =>
    have e0 : ws ≠ [] := fun h => by have := hc.mpr h; cases this
    obtain ⟨ws, w, rfl⟩ : ∃ us w, ws = us ++ [w] := ⟨ws.dropLast, ws.getLast e0, (List.dropLast_concat_getLast e0).symm⟩
    have hw : w ∈ K.map (·.1) := rch_keys ok hv (sr.rch w (sr.sub w (List.mem_append_right _ (List.mem_singleton_self _))))
    obtain ⟨row, hrow⟩ := row_of hw
    have rok := (ok.2.2 _ (row_mem hrow)).1
    refine And.intro ⟨_, rfl⟩ (pop_ints rfl (at_kn he rfl hrow (locS_p2 ⟨p, row, rfl, rfl, rok, fun kvs hk => ?_⟩)))
    show ∃ I, _
    refine ⟨fun rest δ m' => ∃ (fo us ns : List Int) (z : Option DV), rest = (ns.map PyData.int).map .sh ∧ δ = [some (.sh (.int (p : Int))), some (.own 0), some (.sh (.int v)), some (.own 1), some (.own 2), z] ∧ m' = [e, .lst ((fo.map PyData.int).map .sh), .lst ((us.map PyData.int).map .sh), .fK kvs] ∧
      Srch p K v fo us ns (some w) ∧ 2 * (K.length - fo.length) + us.length < n, wk0 ⟨found, ws, nextV p row, z, chs_items hk, rfl, rfl, by rw [← nexts_of hrow]; exact sr.pop, by rw [hn, List.length_append, List.length_singleton]; omega⟩ (by simp), ?_, ?_, ?_⟩
    · rintro rest δ m' ⟨fo, us, ns, z, rfl, rfl, rfl, s2, hl⟩
      exact ⟨trivial, by simp⟩
    · rintro x rest δ m' ⟨fo, us, ns, z, hr, rfl, rfl, s2, hl⟩
      cases ns with
      | nil => cases hr
      | cons y ns =>
        cases hr
        dsimp only [dSeq, dAsg, hName, dBin, dVar, dC, dCall, dCons, dNil, dCB, dTup, dLst, dRet, dTst, tstQ, dIf, dIfS, dPar, dNext, dUn, dNeg, dNotT, dAndT, dOrT, dChain, hTup, hCons, hNil, int2, dCutF, dPart, dNoPart, dLstF, dDrop, dML, dListRg1, dListRg2, dListRg1F, dListRg2F, dNewK, dNewT, dGetD, List.map_cons, List.map_nil, lstF, allSh, mkTup, List.set, List.getElem?_cons_zero, List.getElem?_cons_succ]
        refine inD_own (k := 1) (ns := fo) rfl ?_
        by_cases hy : y ∈ fo
        · rw [decide_eq_true hy]
          exact wk0 ⟨fo, us, ns, _, rfl, rfl, rfl, s2.old hy, hl⟩ (by simp)
        · rw [decide_eq_false hy]
          have s3 := s2.new hy
          have l3 := s3.len ok hv
          rw [List.length_append, List.length_singleton] at l3
          have k9 := ok.2.1
          refine And.intro ⟨_, rfl⟩ (And.intro ?_ (And.intro ⟨_, rfl⟩ (And.intro ?_ (wk0 ⟨fo ++ [y], us ++ [y], ns, _, rfl, rfl, ?_, s3, ?_⟩ (by simp)))))
          · rw [List.length_map, List.length_map, PySem.sizeLine_eq]; omega
          · have : us.length ≤ n := by omega
            rw [List.length_map, List.length_map, PySem.sizeLine_eq]; omega
          · rw [List.map_append, List.map_append, List.map_append, List.map_append]; rfl
          · rw [List.length_append, List.length_append, List.length_singleton]; show 2 * (K.length - (fo.length + 1)) + (us.length + 1) < n; omega
    · rintro δ m' ⟨fo, us, ns, z, hr, rfl, rfl, s2, hl⟩
      cases ns with
      | cons y ns => cases hr
      | nil =>
        exact wk_cut (m0 := [e, _, _]) (t := [_]) (δ0 := [some (.sh (.int (p : Int))), some (.own 0), some (.sh (.int v)), some (.own 1), some (.own 2), none]) (by (repeat' first | exact Fgt.nil | refine Fgt.keep (by first | exact trivial | exact Nat.zero_lt_one | decide | (show _ < _; decide) | (show _ < _; simp)) ?_ | refine Fgt.drop ?_)) (scp_flat (by
          intro u hu
          simp only [List.mem_cons, List.not_mem_nil, or_false] at hu
          rcases hu with rfl | rfl | rfl
          · exact ke_flat he
          · exact ⟨_, rfl⟩
          · exact ⟨_, rfl⟩)) (by simp) ⟨_, hl, fo, us, none, rfl, rfl, s2.shut, rfl, by omega⟩
abbrev N_closed_classes : List Str := ["place", "kernel", "found", "value", "some", "other"]
def f_closed_classes : LSpec := fun ys b Q _ => ∃ (p : Nat) (e : Ent) (K : Kn), ys = [.sh (.int (p : Int)), .own 0] ∧ b = [e] ∧ KE e K ∧ KOk p K ∧ Q (.e (.lst (((closedS p K).map rowZ).map .sh)))
theorem ln_closed_classes : ∀ ys b Q E, f_closed_classes ys b Q E → ys.length = 2 := fun _ _ _ _ ⟨_, _, _, h, _⟩ => by rw [h]; rfl
abbrev sp_closed_classes : DSpec := locS f_closed_classes
abbrev rd_closed_classes : DTS :=
    (dSeq (dAsg (dLst dNil) (hName 2))
    (dSeq (dFor (dISeq (dCB gSortedA (dCons (dVar 1) dNil))) (hName 3) (dSeq (dAsg (dCall sp_reached (dCons (dVar 0) (dCons (dVar 1) (dCons (dVar 3) dNil)))) (hName 4))
    (dIfS (dAndT (dTst (dCB gAll (dCons (dFrz (dLc (dISeq (dVar 4)) (hName 5) dYes (dBin (gEq false) (dCall sp_reached (dCons (dVar 0) (dCons (dVar 1) (dCons (dVar 5) dNil)))) (dVar 4)) [5])) dNil))) (dTst (dBin (gInD true) (dVar 4) (dVar 2)))) (dDrop (dML gAppend (dVar 2) (dCons (dVar 4) dNil))) dNext)))
    (dRet (dVar 2))))
theorem pl_closed_classes : PromL N_closed_classes rd_closed_classes f_closed_classes := by
  rintro ys b Q E sc ⟨p, e, K, rfl, rfl, he, ok, q⟩
  show rd_closed_classes _ [some (.sh (.int (p : Int))), some (.own 0), none, none, none, none] [e]
  dsimp only [rd_closed_classes, dSeq, dAsg, hName, dBin, dVar, dC, dCall, dCons, dNil, dCB, dTup, dLst, dRet, dTst, tstQ, dIf, dIfS, dPar, dNext, dUn, dNeg, dNotT, dAndT, dOrT, dChain, hTup, hCons, hNil, int2, dCutF, dPart, dNoPart, dLstF, dDrop, dML, dListRg1, dListRg2, dListRg1F, dListRg2F, dNewK, dNewT, dGetD, List.map_cons, List.map_nil, lstF, allSh, mkTup, List.set, List.getElem?_cons_zero, List.getElem?_cons_succ]
  refine And.intro rfl ?_
  show dFor _ _ _ _ [some (.sh (.int (p : Int))), some (.own 0), some (.own 1), none, none, none] [e, .lst ((([] : List (List Int)).map rowZ).map .sh)]
  refine it_listA (ds := (sortZ (K.map fun q : Int × Row => q.1)).map .int) (fun Q' h => sorted_kn he rfl h) fun kp hk => ?_
  refine ⟨fun rest δ m' => ∃ (cs : List (List Int)) (vs : List Int) (z3 z4 : Option DV), δ = [some (.sh (.int (p : Int))), some (.own 0), some (.own 1), z3, z4, none] ∧ m' = [e, .lst ((cs.map rowZ).map .sh)] ∧ rest = (vs.map PyData.int).map .sh ∧
      (∀ v ∈ vs, v ∈ K.map (·.1)) ∧ vs.foldl (fun acc v => stepC p K acc (reachS p K v) (allC p K v)) cs = closedS p K ∧ cs.length + vs.length ≤ 9, wk0 ⟨[], sortZ (K.map (·.1)), none, none, rfl, rfl, rfl, fun v h => sortZ_mem.mp h, rfl, by
        have := ok.2.1
        unfold sortZ
        rw [List.length_mergeSort, List.length_map]; simpa using this⟩ (Nat.le_refl _), ?_, ?_, ?_⟩
  · rintro rest δ m' ⟨cs, vs, z3, z4, rfl, rfl, rfl, hv, hf, hl⟩
    exact ⟨hk _, Nat.le_refl _⟩
  · rintro x rest δ m' ⟨cs, vs, z3, z4, rfl, rfl, hr, hv, hf, hl⟩
    cases vs with
    | nil => cases hr
    | cons v vs =>
      cases hr
      rw [List.length_cons] at hl
      dsimp only [dSeq, dAsg, hName, dBin, dVar, dC, dCall, dCons, dNil, dCB, dTup, dLst, dRet, dTst, tstQ, dIf, dIfS, dPar, dNext, dUn, dNeg, dNotT, dAndT, dOrT, dChain, hTup, hCons, hNil, int2, dCutF, dPart, dNoPart, dLstF, dDrop, dML, dListRg1, dListRg2, dListRg1F, dListRg2F, dNewK, dNewT, dGetD, List.map_cons, List.map_nil, lstF, allSh, mkTup, List.set, List.getElem?_cons_zero, List.getElem?_cons_succ]
      refine locS_m3 (k := 0) (e := e) rfl (ke_flat he) ⟨p, e, K, v, rfl, rfl, he, ok, hv v List.mem_cons_self, .inl ?_⟩
      dsimp only [lrQ]
      refine r_lcM1 (as := reachS p K v) (fun o => .sh (.int o)) (fun o => .bool (decide (reachS p K o = reachS p K v))) ?_ (Nat.le_trans (reachS_len p K v) (Nat.le_trans ok.2.1 (by decide))) ?_ ?_
      · have ei : ((reachS p K v).map PyData.int).map DV.sh = (reachS p K v).map fun o => DV.sh (.int o) := by rw [List.map_map]; rfl
        exact fun Q' h => it_list (ds := (reachS p K v).map .int) (fun Q' h => h) (by rw [ei]; exact h)
      · intro o ho Y hY
        refine locS_m3 (k := 0) (e := e) rfl (ke_flat he) ⟨p, e, K, o, rfl, rfl, he, ok, reachS_keys ho, .inl ?_⟩
        exact gEq_rows (neg := false) hY
      · refine gAll_bools ?_
        have step : ∀ cs', stepC p K cs (reachS p K v) (allC p K v) = cs' → vs.foldl (fun acc v => stepC p K acc (reachS p K v) (allC p K v)) cs' = closedS p K := fun cs' h => by rw [← h]; exact hf
        have nxt : ∀ cs', stepC p K cs (reachS p K v) (allC p K v) = cs' → cs'.length ≤ cs.length + 1 → WkI 2 (fun δ m' => ∃ (cs : List (List Int)) (vs_1 : List Int) (z3 z4 : Option DV), δ = [some (.sh (.int (p : Int))), some (.own 0), some (.own 1), z3, z4, none] ∧ m' = [e, .lst ((cs.map rowZ).map .sh)] ∧ (vs.map PyData.int).map DV.sh = (vs_1.map PyData.int).map .sh ∧
            (∀ v ∈ vs_1, v ∈ K.map (·.1)) ∧ vs_1.foldl (fun acc v => stepC p K acc (reachS p K v) (allC p K v)) cs = closedS p K ∧ cs.length + vs_1.length ≤ 9)
            [some (.sh (.int (p : Int))), some (.own 0), some (.own 1), some (.sh (.int v)), some (.sh (.list ((reachS p K v).map .int))), none] [e, .lst ((cs'.map rowZ).map .sh)] := fun cs' h hl' =>
          wk0 ⟨cs', vs, _, _, rfl, rfl, rfl, fun u hu => hv u (List.mem_cons_of_mem _ hu), step cs' h, by omega⟩ (Nat.le_refl _)
        by_cases ha : allC p K v = true
        · have ha' : ((reachS p K v).all fun o => decide (reachS p K o = reachS p K v)) = true := ha
          rw [ha']
          dsimp only [tstQ]
          rw [if_pos rfl]
          refine inD_rows (k := 1) (cs := cs) (s := reachS p K v) rfl ?_
          by_cases hm : reachS p K v ∈ cs
          · rw [decide_eq_true hm]
            exact nxt cs (by unfold stepC; rw [if_neg fun z => z.2 hm]) (Nat.le_succ _)
          · rw [decide_eq_false hm]
            refine And.intro ⟨_, rfl⟩ (And.intro (by rw [List.length_map, List.length_map, PySem.sizeLine_eq]; omega) ?_)
            have := nxt (cs ++ [reachS p K v]) (by unfold stepC; rw [if_pos ⟨ha, hm⟩]) (by simp)
            rw [List.map_append, List.map_append] at this
            exact this
        · have ha' : ((reachS p K v).all fun o => decide (reachS p K o = reachS p K v)) = false := by
            have : allC p K v = false := by cases h : allC p K v with
              | true => exact absurd h ha
              | false => rfl
            exact this
          rw [ha']
          exact nxt cs (by unfold stepC; rw [if_neg fun z => ha z.1]) (Nat.le_succ _)
  · rintro δ m' ⟨cs, vs, z3, z4, rfl, rfl, hr, hv, hf, hl⟩
    cases vs with
    | cons v vs => cases hr
    | nil =>
      have hf : cs = closedS p K := hf
      subst hf
      exact rtl_e (b := [e]) (t := [_]) (k := 1) rfl (Nat.le_refl _) ⟨_, rfl⟩ rfl q
abbrev N__law_add : List Str := ["_law_one", "_law_other"]
abbrev rd__law_add : DTS :=
    (dRet (dCall sp__law_ratio (dCons (dBin gAdd (dBin gMul (dBin gIx (dVar 0) (dC (.sh (.int 0)))) (dBin gIx (dVar 1) (dC (.sh (.int 1))))) (dBin gMul (dBin gIx (dVar 1) (dC (.sh (.int 0)))) (dBin gIx (dVar 0) (dC (.sh (.int 1)))))) (dCons (dBin gMul (dBin gIx (dVar 0) (dC (.sh (.int 1)))) (dBin gIx (dVar 1) (dC (.sh (.int 1))))) dNil))))
def sp__law_add : DSpec := fun xs m Q E => ∃ x y : Int × Int, xs = [.sh (frD x), .sh (frD y)] ∧ 0 < x.2 ∧ 0 < y.2 ∧ FB 4400 x ∧ FB 4400 y ∧ Q (.sh (frD (addF x y))) m
theorem ln__law_add : ∀ xs m Q E, sp__law_add xs m Q E → xs.length = 2 := fun _ _ _ _ h => by obtain ⟨_, _, rfl, _⟩ := h; rfl
theorem pl__law_add : Promise N__law_add rd__law_add sp__law_add := by
  intro xs m Qd Ed sc h
  obtain ⟨x, y, rfl, px, py, hx, hy, q⟩ := h
  have mk : ∀ {a b : Int}, a.natAbs < 2 ^ 4400 → b.natAbs < 2 ^ 4400 → IntMulOk a b := fun h g => mul_okN h g (by decide) (by decide)
  have lg : (x.2 * y.2).natAbs.log2 < 9000 := log2_lt9 (mul_lt hx.2 hy.2) (by decide) (by decide)
  show IntMulOk _ _ ∧ IntMulOk _ _ ∧ IntMulOk _ _ ∧ sp__law_ratio _ _ _ _
  exact ⟨mk hx.1 hy.2, mk hy.1 hx.2, mk hx.2 hy.2, _, _, rfl, pos_mul px py, lg, .inl q⟩
abbrev N__law_next_values : List Str := ["_law_place", "_law_kernel", "_law_value", "_law_found", "_law_state", "_law_chance"]
def f__law_next_values : LSpec := fun ys b Q _ => ∃ (p : Nat) (e : Ent) (K : Kn) (v : Int) (row : Row), ys = [.sh (.int (p : Int)), .own 0, .sh (.int v)] ∧ b = [e] ∧ KE e K ∧ rowOf K v = some row ∧ RowOk p row ∧ ∀ kvs : List (Key × DV), Chs (nextV p row) 100 kvs → Q (.e (.dK kvs))
theorem ln__law_next_values : ∀ ys b Q E, f__law_next_values ys b Q E → ys.length = 3 := fun _ _ _ _ ⟨_, _, _, _, _, h, _⟩ => by rw [h]; rfl
abbrev sp__law_next_values : DSpec := locS f__law_next_values
abbrev rd__law_next_values : DTS :=
    (dSeq (dAsg dNewK (hName 3))
    (dSeq (dFor (dISeq (dBin gAt (dVar 1) (dVar 2))) (hTup 2 (hCons (hName 4) (hCons (hName 5) hNil))) (dAsg (dCall sp__law_add (dCons (dGetD (dVar 3) (dBin gIx (dVar 4) (dVar 0)) (dTup (dCons (dC (.sh (.int 0))) (dCons (dC (.sh (.int 1))) dNil)))) (dCons (dVar 5) dNil))) (hSub gPut (dVar 3) (dBin gIx (dVar 4) (dVar 0)))))
    (dRet (dVar 3))))
theorem pl__law_next_values : PromL N__law_next_values rd__law_next_values f__law_next_values := by
  rintro ys b Q E sc ⟨p, e, K, v, row, rfl, rfl, he, hrow, ok, q⟩
  show rd__law_next_values _ [some (.sh (.int (p : Int))), some (.own 0), some (.sh (.int v)), none, none, none] [e]
  dsimp only [rd__law_next_values, dSeq, dAsg, hName, dBin, dVar, dC, dCall, dCons, dNil, dCB, dTup, dLst, dRet, dTst, tstQ, dIf, dIfS, dPar, dNext, dUn, dNeg, dNotT, dAndT, dOrT, dChain, hTup, hCons, hNil, int2, dCutF, dPart, dNoPart, dLstF, dDrop, dML, dListRg1, dListRg2, dListRg1F, dListRg2F, dNewK, dNewT, dGetD, List.map_cons, List.map_nil, lstF, allSh, mkTup, List.set, List.getElem?_cons_zero, List.getElem?_cons_succ]
  show dFor _ _ _ _ [some (.sh (.int (p : Int))), some (.own 0), some (.sh (.int v)), some (.own 1), none, none] [e, .dK []]
  refine it_tupleA (ds := row.map rowI) (fun Q' h => at_kn he rfl hrow h) fun kp hk => ?_
  refine ⟨fun rest δ m' => ∃ (n : Nat) (ks : List Int) (bs : Row) (kvs : List (Key × DV)) (z3 z4 : Option DV), δ = [some (.sh (.int (p : Int))), some (.own 0), some (.sh (.int v)), some (.own 1), z3, z4] ∧ m' = [e, .dK kvs] ∧ rest = (bs.map rowI).map .sh ∧
      (∀ q ∈ bs, q ∈ row) ∧ (bs.map fun q => atP p q.1).foldl insN ks = nextV p row ∧ Chs ks n kvs ∧ n + 22 * bs.length ≤ 100 ∧ kvs.length + bs.length ≤ 3, wk0 ⟨1, [], row, [], none, none, rfl, rfl, rfl, fun _ h => h, rfl, chs_nil 1, by have := ok.1; omega, by simpa using ok.1⟩ (Nat.le_refl _), ?_, ?_, ?_⟩
  · rintro rest δ m' ⟨n, ks, bs, kvs, z3, z4, rfl, rfl, rfl, hb, hf, hc, hn, hl⟩
    exact ⟨hk _, Nat.le_refl _⟩
  · rintro x rest δ m' ⟨n, ks, bs, kvs, z3, z4, rfl, rfl, hr, hb, hf, hc, hn, hl⟩
    cases bs with
    | nil => cases hr
    | cons r bs =>
      cases hr
      obtain ⟨r1, r2, r3⟩ := ok.2 r (hb r List.mem_cons_self)
      rw [List.length_cons] at hn hl
      refine And.intro rfl ?_
      dsimp only [dSeq, dAsg, hName, dBin, dVar, dC, dCall, dCons, dNil, dCB, dTup, dLst, dRet, dTst, tstQ, dIf, dIfS, dPar, dNext, dUn, dNeg, dNotT, dAndT, dOrT, dChain, hTup, hCons, hNil, int2, dCutF, dPart, dNoPart, dLstF, dDrop, dML, dListRg1, dListRg2, dListRg1F, dListRg2F, dNewK, dNewT, dGetD, List.map_cons, List.map_nil, lstF, allSh, mkTup, List.set, List.getElem?_cons_zero, List.getElem?_cons_succ]
      refine And.intro trivial (ix_state r1 ?_)
      refine And.intro rfl ?_
      rw [lookD_K (kvs := kvs) rfl]
      obtain ⟨f, ef, f1, f2⟩ := chs_get hc (atP p r.1)
      show sp__law_add [(valD kvs (.inl (atP p r.1))).getD (.sh (frD (0, 1))), .sh (frD r.2)] _ _ _
      rw [ef]
      refine ⟨f, r.2, rfl, f1, r2, f2.mono (by omega), r3.mono (by omega), ?_⟩
      have bd := addF_bd f2 r3 f1 r2
      refine ix_state r1 ?_
      show kvs.length < sizeLine ∧ _
      refine And.intro (by rw [PySem.sizeLine_eq]; omega) (wk0 ⟨n + 22, insN ks (atP p r.1), bs, _, _, _, rfl, rfl, rfl, fun q h => hb q (List.mem_cons_of_mem _ h), hf, chs_put hc bd (addF_red f1 r2).1 (by omega), by omega, ?_⟩ (Nat.le_refl _))
      have := putD_len kvs (.inl (atP p r.1)) (.sh (frD (addF f r.2)))
      omega
  · rintro δ m' ⟨n, ks, bs, kvs, z3, z4, rfl, rfl, hr, hb, hf, hc, hn, hl⟩
    cases bs with
    | cons r bs => cases hr
    | nil =>
      have hf : ks = nextV p row := hf
      subst hf
      have fl : shs kvs := fun q hq => let ⟨f, e, _⟩ := hc.2 q hq; ⟨_, e⟩
      exact rtl_e (b := [e]) (t := [.dK kvs]) (k := 1) rfl (Nat.le_refl _) fl rfl (q kvs ⟨hc.1, fun q hq => let ⟨f, e, h1, h2⟩ := hc.2 q hq; ⟨f, e, h1, h2.mono (by have : n + 22 * 0 ≤ 100 := hn; omega)⟩⟩)
abbrev N__law_reach : List Str := ["_law_place", "_law_kernel", "_law_start", "_law_found", "_law_waiting", "_law_fresh", "_law_other"]
def f__law_reach : LSpec := fun ys b Q _ => ∃ (p : Nat) (e : Ent) (K : Kn) (v : Int), ys = [.sh (.int (p : Int)), .own 0, .sh (.int v)] ∧ b = [e] ∧ KE e K ∧ KOk p K ∧ v ∈ K.map (·.1) ∧ Q (.v (.list ((reachS p K v).map .int)))
theorem ln__law_reach : ∀ ys b Q E, f__law_reach ys b Q E → ys.length = 3 := fun _ _ _ _ ⟨_, _, _, _, h, _⟩ => by rw [h]; rfl
abbrev sp__law_reach : DSpec := locS f__law_reach
abbrev rd__law_reach : DTS :=
    (dSeq (dAsg (dTup (dCons (dLstF (dCons (dVar 2) dNil)) (dCons (dLst (dCons (dVar 2) dNil)) dNil))) (hTup 2 (hCons (hName 3) (hCons (hName 4) hNil))))
    (dSeq (dWhile (dTst (dBin (gEq true) (dVar 4) (dLstF dNil))) (dSeq (dAsg (dFrz (dLc (dIAny (dCall sp__law_next_values (dCons (dVar 0) (dCons (dVar 1) (dCons (dML0 gPop (dVar 4)) dNil))))) (hName 6) (dTst (dBin (gInD true) (dVar 6) (dVar 3))) (dVar 6) [6])) (hName 5))
    (dSeq (dAsg (dBin gAddF (dVar 3) (dVar 5)) (hName 3))
    (dAsg (dBin gAddO (dVar 4) (dVar 5)) (hName 4)))))
    (dRet (dCB gSorted (dCons (dVar 3) dNil)))))
theorem Srch.all {p : Nat} {K : Kn} {v w : Int} : ∀ {ns found ws : List Int}, Srch p K v found ws ns (some w) → ns.Nodup → Srch p K v (found ++ ns.filter fun y => decide (y ∉ found)) (ws ++ ns.filter fun y => decide (y ∉ found)) [] (some w)
  | [], found, ws, s, _ => by simpa using s
  | y :: ns, found, ws, s, nd => by
    have nd' := List.nodup_cons.mp nd
    by_cases hy : y ∈ found
    · have := Srch.all (s.old hy) nd'.2
      rw [List.filter_cons, if_neg (by simpa using hy)]
      exact this
    · have := Srch.all (s.new hy) nd'.2
      have ef : (ns.filter fun z => decide (z ∉ found ++ [y])) = ns.filter fun z => decide (z ∉ found) := by
        refine List.filter_congr fun z hz => ?_
        have : z ≠ y := fun e => nd'.1 (e ▸ hz)
        simp [this]
      rw [ef] at this
      rw [List.filter_cons, if_pos (by simpa using hy)]
      simpa using this
theorem pl__law_reach : PromL N__law_reach rd__law_reach f__law_reach := by
  rintro ys b Q E sc ⟨p, e, K, v, rfl, rfl, he, ok, hv, q⟩
  show rd__law_reach _ [some (.sh (.int (p : Int))), some (.own 0), some (.sh (.int v)), none, none, none, none] [e]
  dsimp only [rd__law_reach, dSeq, dAsg, hName, dBin, dVar, dC, dCall, dCons, dNil, dCB, dTup, dLst, dRet, dTst, tstQ, dIf, dIfS, dPar, dNext, dUn, dNeg, dNotT, dAndT, dOrT, dChain, hTup, hCons, hNil, int2, dCutF, dPart, dNoPart, dLstF, dDrop, dML, dListRg1, dListRg2, dListRg1F, dListRg2F, dNewK, dNewT, dGetD, List.map_cons, List.map_nil, lstF, allSh, mkTup, List.set, List.getElem?_cons_zero, List.getElem?_cons_succ]
  refine And.intro rfl (And.intro rfl (And.intro rfl (And.intro rfl ?_)))
  show dWhile _ _ _ [some (.sh (.int (p : Int))), some (.own 0), some (.sh (.int v)), some (.sh (.list ([v].map .int))), some (.own 1), none, none] [e, .lst (([v].map PyData.int).map .sh)]
  refine ⟨fun n δ m' => ∃ (found ws : List Int) (k : Nat) (z5 z6 : Option DV), δ = [some (.sh (.int (p : Int))), some (.own 0), some (.sh (.int v)), some (.sh (.list (found.map .int))), some (.own k), z5, z6] ∧ m'[0]? = some e ∧ m'[k]? = some (.lst ((ws.map PyData.int).map .sh)) ∧ 0 < k ∧ (∀ u ∈ m', u.flat) ∧ 2 ≤ m'.length ∧
      Srch p K v found ws [] none ∧ n = 2 * (K.length - found.length) + ws.length ∧ n ≤ 20, _, wk0 ⟨[v], [v], 1, none, none, rfl, rfl, rfl, by decide, ?_, by simp, .init p K v, rfl, by have := ok.2.1; simp; omega⟩ (by simp), ?_⟩
  · intro u hu
    simp only [List.mem_cons, List.not_mem_nil, or_false] at hu
    rcases hu with rfl | rfl
    · exact ke_flat he
    · exact ⟨_, rfl⟩
  rintro n δ m' ⟨found, ws, k, z5, z6, rfl, m0, mk, k0, fl, ml, sr, hn, n20⟩
  dsimp only [dSeq, dAsg, hName, dBin, dVar, dC, dCall, dCons, dNil, dCB, dTup, dLst, dRet, dTst, tstQ, dIf, dIfS, dPar, dNext, dUn, dNeg, dNotT, dAndT, dOrT, dChain, hTup, hCons, hNil, int2, dCutF, dPart, dNoPart, dLstF, dDrop, dML, dListRg1, dListRg2, dListRg1F, dListRg2F, dNewK, dNewT, dGetD, List.map_cons, List.map_nil, lstF, allSh, mkTup, List.set, List.getElem?_cons_zero, List.getElem?_cons_succ]
  refine And.intro rfl ?_
  refine gEq_own (k := k) (ns := ws) (es := []) mk fun c hc => ?_
  cases c with
  | true =>
    have e0 : ws = [] := hc.mp rfl
    subst e0
    refine ⟨found.map .int, rfl, (alike_ints _).1, (alike_ints _).2.1, (alike_ints _).2.2, ?_⟩
    rw [sortD_ints, sr.done ok hv]
    obtain ⟨t, rfl⟩ : ∃ t, m' = [e] ++ t := by
      cases m' with
      | nil => cases m0
      | cons u t => cases m0; exact ⟨t, rfl⟩
    rw [List.append_assoc]
    exact rtl_l (b := [e]) (k := _) (by rw [← List.append_assoc, List.getElem?_append_right (Nat.le_refl _), Nat.sub_self]; rfl) (by simp) q
  | false =>
    have e0 : ws ≠ [] := fun h => by have := hc.mpr h; cases this
    obtain ⟨ws, w, rfl⟩ : ∃ us w, ws = us ++ [w] := ⟨ws.dropLast, ws.getLast e0, (List.dropLast_concat_getLast e0).symm⟩
    have hw : w ∈ K.map (·.1) := rch_keys ok hv (sr.rch w (sr.sub w (List.mem_append_right _ (List.mem_singleton_self _))))
    obtain ⟨row, hrow⟩ := row_of hw
    have rok := (ok.2.2 _ (row_mem hrow)).1
    have kl : k < m'.length := (List.getElem?_eq_some_iff.mp mk).1
    have s2 := sr.pop
    rw [nexts_of hrow] at s2
    have s3 := (s2.all (nextV_nodup p row)).shut
    have l3 := s3.len ok hv
    have k9 := ok.2.1
    have fresh3 : (nextV p row).length ≤ 3 := Nat.le_trans (nextV_len p row) rok.1
    show dLc (dIAny (dCall sp__law_next_values (dCons (dVar 0) (dCons (dVar 1) (dCons (dML0 gPop (dVar 4)) dNil))))) (hName 6) (dTst (dBin (gInD true) (dVar 6) (dVar 3))) (dVar 6) [6]
      [some (.sh (.int (p : Int))), some (.own 0), some (.sh (.int v)), some (.sh (.list (found.map .int))), some (.own k), z5, z6] m' (fun x m1 => frzD m' x m1 _) _
    refine r_lcX (as := nextV p row) (fun y => .sh (.int y)) (fun y => decide (y ∉ found)) .int (fun kvs : List (Key × DV) => Chs (nextV p row) 100 kvs) (fun kvs => m'.set k (.lst ((ws.map PyData.int).map .sh)) ++ [.fK kvs]) ?_ (by omega) ?_ ?_
    · intro Q' h
      refine And.intro ⟨_, seqL_own mk⟩ (pop_ints mk (locS_m3 (k := 0) (e := e) (by rw [List.getElem?_set_ne (by omega)]; exact m0) (ke_flat he) ⟨p, e, K, w, row, rfl, rfl, he, hrow, rok, fun kvs hk => ?_⟩))
      have q2 := h kvs hk (fun _ => True) fun _ => trivial
      have ei : (nextV p row).map (fun y => DV.sh (.int y)) = kvs.map fun p => DV.sh (keyD p.1) := by rw [chs_items hk, List.map_map]; rfl
      rw [ei] at q2
      exact any_new (δ := []) (m0 := []) (E := noE) q2
    · intro kvs hk y hy Y N hY hN
      dsimp only [dSeq, dAsg, hName, dBin, dVar, dC, dCall, dCons, dNil, dCB, dTup, dLst, dRet, dTst, tstQ, dIf, dIfS, dPar, dNext, dUn, dNeg, dNotT, dAndT, dOrT, dChain, hTup, hCons, hNil, int2, dCutF, dPart, dNoPart, dLstF, dDrop, dML, dListRg1, dListRg2, dListRg1F, dListRg2F, dNewK, dNewT, dGetD, List.map_cons, List.map_nil, lstF, allSh, mkTup, List.set, List.getElem?_cons_zero, List.getElem?_cons_succ]
      refine inD_sh ?_
      by_cases hf : y ∈ found
      · rw [decide_eq_true hf]
        exact hN (by simpa using hf)
      · rw [decide_eq_false hf]
        exact hY (by simpa using hf)
    · intro kvs hk
      have mk2 : (m'.set k (.lst ((ws.map PyData.int).map .sh)) ++ [Ent.fK kvs])[k]? = some (.lst ((ws.map PyData.int).map .sh)) := by
        rw [List.getElem?_append_left (by rw [List.length_set]; exact kl), List.getElem?_set_self kl]
      have m02 : (m'.set k (.lst ((ws.map PyData.int).map .sh)) ++ [Ent.fK kvs])[0]? = some e := by
        rw [List.getElem?_append_left (by rw [List.length_set]; omega), List.getElem?_set_ne (by omega)]; exact m0
      have fl2 : ∀ u ∈ m'.set k (.lst ((ws.map PyData.int).map .sh)) ++ [Ent.fK kvs], u.flat := fun u hu => by
        rcases List.mem_append.mp hu with hu | hu
        · rcases List.mem_or_eq_of_mem_set hu with hu | rfl
          · exact fl u hu
          · exact ⟨_, rfl⟩
        · cases List.mem_singleton.mp hu
          exact fun q hq => let ⟨f, ef, _⟩ := hk.2 q hq; ⟨_, ef⟩
      have l2 : m'.length ≤ (m'.set k (.lst ((ws.map PyData.int).map .sh)) ++ [Ent.fK kvs]).length := by simp
      generalize m'.set k (.lst ((ws.map PyData.int).map .sh)) ++ [Ent.fK kvs] = M at mk2 m02 fl2 l2
      have lf : ((nextV p row).filter fun y => decide (y ∉ found)).length ≤ 3 := Nat.le_trans (List.length_filter_le _ _) fresh3
      generalize ((nextV p row).filter fun y => decide (y ∉ found)) = fr at s3 l3 lf
      rw [List.length_append] at l3
      rw [List.length_append, List.length_singleton] at hn
      refine ⟨M, _, rfl, rfl, .inr ⟨scp_flat fl2, l2⟩, ?_⟩
      refine And.intro (Nat.ble_eq_true_of_le (by rw [List.length_map, List.length_map, PySem.sizeLine_eq]; omega)) ?_
      refine addO_ok mk2 (by rw [List.length_map, List.length_map]; omega) ?_
      rw [← List.map_append, ← List.map_append]
      refine wk0 ⟨_, ?_, found ++ fr, ws ++ fr, M.length, _, _, rfl, ?_, ?_, by omega, ?_, ?_, s3, rfl, ?_⟩ ?_
      · rw [List.length_append, List.length_append]; omega
      · rw [List.getElem?_append_left (by omega)]; exact m02
      · rw [List.getElem?_append_right (Nat.le_refl _), Nat.sub_self]; rfl
      · intro u hu
        rcases List.mem_append.mp hu with hu | hu
        · exact fl2 u hu
        · cases List.mem_singleton.mp hu; exact ⟨_, rfl⟩
      · rw [List.length_append]; omega
      · rw [List.length_append, List.length_append]; omega
      · rw [List.length_append]; simp; omega
abbrev N__law_closed : List Str := ["_law_place", "_law_kernel", "_law_found", "_law_value", "_law_some", "_law_apart", "_law_other"]
def f__law_closed : LSpec := fun ys b Q _ => ∃ (p : Nat) (e : Ent) (K : Kn), ys = [.sh (.int (p : Int)), .own 0] ∧ b = [e] ∧ KE e K ∧ KOk p K ∧ Q (.v (.list ((closedS p K).map rowZ)))
theorem ln__law_closed : ∀ ys b Q E, f__law_closed ys b Q E → ys.length = 2 := fun _ _ _ _ ⟨_, _, _, h, _⟩ => by rw [h]; rfl
abbrev sp__law_closed : DSpec := locS f__law_closed
abbrev rd__law_closed : DTS :=
    (dSeq (dAsg (dLst dNil) (hName 2))
    (dSeq (dFor (dISeq (dCB gSortedA (dCons (dVar 1) dNil))) (hName 3) (dSeq (dAsg (dCall sp__law_reach (dCons (dVar 0) (dCons (dVar 1) (dCons (dVar 3) dNil)))) (hName 4))
    (dSeq (dAsg (dFrz (dLc (dISeq (dVar 4)) (hName 6) (dTst (dBin (gEq true) (dCall sp__law_reach (dCons (dVar 0) (dCons (dVar 1) (dCons (dVar 6) dNil)))) (dVar 4))) (dVar 6) [6])) (hName 5))
    (dIfS (dAndT (dTst (dBin (gEq false) (dVar 5) (dLstF dNil))) (dTst (dBin (gInD true) (dVar 4) (dVar 2)))) (dDrop (dML gAppend (dVar 2) (dCons (dVar 4) dNil))) dNext))))
    (dRet (dVar 2))))
theorem pl__law_closed : PromL N__law_closed rd__law_closed f__law_closed := by
  rintro ys b Q E sc ⟨p, e, K, rfl, rfl, he, ok, q⟩
  show rd__law_closed _ [some (.sh (.int (p : Int))), some (.own 0), none, none, none, none, none] [e]
  dsimp only [rd__law_closed, dSeq, dAsg, hName, dBin, dVar, dC, dCall, dCons, dNil, dCB, dTup, dLst, dRet, dTst, tstQ, dIf, dIfS, dPar, dNext, dUn, dNeg, dNotT, dAndT, dOrT, dChain, hTup, hCons, hNil, int2, dCutF, dPart, dNoPart, dLstF, dDrop, dML, dListRg1, dListRg2, dListRg1F, dListRg2F, dNewK, dNewT, dGetD, List.map_cons, List.map_nil, lstF, allSh, mkTup, List.set, List.getElem?_cons_zero, List.getElem?_cons_succ]
  refine And.intro rfl ?_
  show dFor _ _ _ _ [some (.sh (.int (p : Int))), some (.own 0), some (.own 1), none, none, none, none] [e, .lst ((([] : List (List Int)).map rowZ).map .sh)]
  refine it_listA (ds := (sortZ (K.map fun q : Int × Row => q.1)).map .int) (fun Q' h => sorted_kn he rfl h) fun kp hk => ?_
  refine ⟨fun rest δ m' => ∃ (cs : List (List Int)) (vs : List Int) (z3 z4 z5 : Option DV), δ = [some (.sh (.int (p : Int))), some (.own 0), some (.own 1), z3, z4, z5, none] ∧ m' = [e, .lst ((cs.map rowZ).map .sh)] ∧ rest = (vs.map PyData.int).map .sh ∧
      (∀ v ∈ vs, v ∈ K.map (·.1)) ∧ vs.foldl (fun acc v => stepC p K acc (reachS p K v) (allC p K v)) cs = closedS p K ∧ cs.length + vs.length ≤ 9, wk0 ⟨[], sortZ (K.map (·.1)), none, none, none, rfl, rfl, rfl, fun v h => sortZ_mem.mp h, rfl, by
        have := ok.2.1
        unfold sortZ
        rw [List.length_mergeSort, List.length_map]; simpa using this⟩ (Nat.le_refl _), ?_, ?_, ?_⟩
  · rintro rest δ m' ⟨cs, vs, z3, z4, z5, rfl, rfl, rfl, hv, hf, hl⟩
    exact ⟨hk _, Nat.le_refl _⟩
  · rintro x rest δ m' ⟨cs, vs, z3, z4, z5, rfl, rfl, hr, hv, hf, hl⟩
    cases vs with
    | nil => cases hr
    | cons v vs =>
      cases hr
      rw [List.length_cons] at hl
      dsimp only [dSeq, dAsg, hName, dBin, dVar, dC, dCall, dCons, dNil, dCB, dTup, dLst, dRet, dTst, tstQ, dIf, dIfS, dPar, dNext, dUn, dNeg, dNotT, dAndT, dOrT, dChain, hTup, hCons, hNil, int2, dCutF, dPart, dNoPart, dLstF, dDrop, dML, dListRg1, dListRg2, dListRg1F, dListRg2F, dNewK, dNewT, dGetD, List.map_cons, List.map_nil, lstF, allSh, mkTup, List.set, List.getElem?_cons_zero, List.getElem?_cons_succ]
      refine locS_m3 (k := 0) (e := e) rfl (ke_flat he) ⟨p, e, K, v, rfl, rfl, he, ok, hv v List.mem_cons_self, ?_⟩
      dsimp only [lrQ]
      refine r_lcM (as := reachS p K v) (fun o => .sh (.int o)) (fun o => !decide (reachS p K o = reachS p K v)) .int ?_ (Nat.le_trans (reachS_len p K v) (Nat.le_trans ok.2.1 (by decide))) ?_ ?_
      · have ei : ((reachS p K v).map PyData.int).map DV.sh = (reachS p K v).map fun o => DV.sh (.int o) := by rw [List.map_map]; rfl
        exact fun Q' h => it_list (ds := (reachS p K v).map .int) (fun Q' h => h) (by rw [ei]; exact h)
      · intro o ho Y N hY hN
        refine locS_m3 (k := 0) (e := e) rfl (ke_flat he) ⟨p, e, K, o, rfl, rfl, he, ok, reachS_keys ho, ?_⟩
        refine gEq_rows (neg := true) ?_
        by_cases h : reachS p K o = reachS p K v
        · rw [decide_eq_true h]
          exact hN (by rw [decide_eq_true h]; rfl)
        · rw [decide_eq_false h]
          exact hY (by rw [decide_eq_false h]; rfl)
      · have step : ∀ cs', stepC p K cs (reachS p K v) (allC p K v) = cs' → vs.foldl (fun acc v => stepC p K acc (reachS p K v) (allC p K v)) cs' = closedS p K := fun cs' h => by rw [← h]; exact hf
        have nxt : ∀ (cs' : List (List Int)) (z5 : Option DV), stepC p K cs (reachS p K v) (allC p K v) = cs' → cs'.length ≤ cs.length + 1 → WkI 2 (fun δ m' => ∃ (cs : List (List Int)) (vs_1 : List Int) (z3 z4 z5 : Option DV), δ = [some (.sh (.int (p : Int))), some (.own 0), some (.own 1), z3, z4, z5, none] ∧ m' = [e, .lst ((cs.map rowZ).map .sh)] ∧ (vs.map PyData.int).map DV.sh = (vs_1.map PyData.int).map .sh ∧
            (∀ v ∈ vs_1, v ∈ K.map (·.1)) ∧ vs_1.foldl (fun acc v => stepC p K acc (reachS p K v) (allC p K v)) cs = closedS p K ∧ cs.length + vs_1.length ≤ 9)
            [some (.sh (.int (p : Int))), some (.own 0), some (.own 1), some (.sh (.int v)), some (.sh (.list ((reachS p K v).map .int))), z5, none] [e, .lst ((cs'.map rowZ).map .sh)] := fun cs' z5 h hl' =>
          wk0 ⟨cs', vs, _, _, _, rfl, rfl, rfl, fun u hu => hv u (List.mem_cons_of_mem _ hu), step cs' h, by omega⟩ (Nat.le_refl _)
        have ac : ((reachS p K v).filter fun o => !decide (reachS p K o = reachS p K v)) = [] ↔ allC p K v = true := by
          unfold allC
          rw [List.filter_eq_nil_iff, List.all_eq_true]
          constructor
          · intro h o ho
            have := h o ho
            simpa using this
          · intro h o ho
            have := h o ho
            simpa using this
        refine And.intro rfl ?_
        refine gEq_rows (neg := false) (b := []) ?_
        dsimp only [tstQ]
        by_cases ha : allC p K v = true
        · rw [decide_eq_true (ac.mpr ha)]
          show (if true = true then _ else _)
          rw [if_pos rfl]
          refine inD_rows (k := 1) (cs := cs) (s := reachS p K v) rfl ?_
          by_cases hm : reachS p K v ∈ cs
          · rw [decide_eq_true hm]
            exact nxt cs _ (by unfold stepC; rw [if_neg fun z => z.2 hm]) (Nat.le_succ _)
          · rw [decide_eq_false hm]
            refine And.intro ⟨_, rfl⟩ (And.intro (by rw [List.length_map, List.length_map, PySem.sizeLine_eq]; omega) ?_)
            have := fun z => nxt (cs ++ [reachS p K v]) z (by unfold stepC; rw [if_pos ⟨ha, hm⟩]) (by simp)
            rw [List.map_append, List.map_append] at this
            exact this _
        · rw [decide_eq_false fun z => ha (ac.mp z)]
          exact nxt cs _ (by unfold stepC; rw [if_neg fun z => ha z.1]) (Nat.le_succ _)
  · rintro δ m' ⟨cs, vs, z3, z4, z5, rfl, rfl, hr, hv, hf, hl⟩
    cases vs with
    | cons v vs => cases hr
    | nil =>
      have hf : cs = closedS p K := hf
      subst hf
      exact rtl_l (b := [e]) (t := [_]) (k := 1) rfl (Nat.le_refl _) q
abbrev N__law_alike : List Str := ["_law_found", "_law_due"]
abbrev rd__law_alike : DTS :=
    (dRet (dBin (gEq false) (dCB gRepr (dCons (dVar 0) dNil)) (dCB gRepr (dCons (dVar 1) dNil))))
def sp__law_alike : DSpec := fun xs m Q E => ∃ (x y : DV) (d : PyData) (B D : Nat), xs = [x, y] ∧ dat m deep x = some d ∧ dat m deep y = some d ∧ SB B D d ∧ B ≤ 16777216 ∧ D ≤ 50 ∧ Q (.sh (.bool true)) m
theorem ln__law_alike : ∀ xs m Q E, sp__law_alike xs m Q E → xs.length = 2 := fun _ _ _ _ h => by obtain ⟨_, _, _, _, _, rfl, _⟩ := h; rfl
theorem pl__law_alike : Promise N__law_alike rd__law_alike sp__law_alike := by
  intro xs m Qd Ed sc h
  obtain ⟨x, y, d, B, D, rfl, hx, hy, s, hB, hD, q⟩ := h
  show rd__law_alike _ [some x, some y] m
  dsimp only [rd__law_alike, dSeq, dAsg, hName, dBin, dVar, dC, dCall, dCons, dNil, dCB, dTup, dLst, dRet, dTst, tstQ, dIf, dIfS, dPar, dNext, dUn, dNeg, dNotT, dAndT, dOrT, dChain, hTup, hCons, hNil, int2, dCutF, dPart, dNoPart, dLstF, dDrop, dML, dListRg1, dListRg2, dListRg1F, dListRg2F, dNewK, dNewT, dGetD, List.map_cons, List.map_nil, lstF, allSh, mkTup, List.set, List.getElem?_cons_zero, List.getElem?_cons_succ]
  refine gRepr_ok hx s hB hD (gRepr_ok hy s hB hD ?_)
  show RtQ _ _ (.sh (.bool (decide (d.shown = d.shown)))) m
  rw [decide_eq_true rfl]
  exact .inl q
abbrev N_law : List Str := ["_law_script", "_law_drawing", "_law_turn", "_law_place", "_law_kernel", "_law_before", "_law_time", "_law_found", "_law_value"]
def sp_law : DSpec := fun xs m Q E => ∃ ns : List Int, xs = [.sh (.list (ns.map .int))] ∧ ns.length ≤ 63 ∧ m = [] ∧ ∀ m', Q (.sh (.bool true)) m'
theorem ln_law : ∀ xs m Q E, sp_law xs m Q E → xs.length = 1 := fun _ _ _ _ h => by obtain ⟨_, rfl, _⟩ := h; rfl
theorem sp_in : ∀ ns : List Int, ns.length ≤ 63 → sp_law [.sh (.list (ns.map .int))] [] (fun x _ => x = .sh (.bool true)) (fun _ _ => False) := fun ns h => ⟨ns, rfl, h, rfl, fun _ => rfl⟩
theorem sb_100 {i : Int} (h : -100 ≤ i ∧ i ≤ 100) : SB 4 0 (.int i) := SB.int (k := 3) (by decide) (by omega) (by decide)
theorem sb_state {p : Nat} {s : List Int} (hp : p < 4) (h : StOk p s) : SB 27 1 (stI s) := by
  refine SB.tuple (B := 4) (n := 4) (fun d hd => ?_) (by rw [List.length_map, h.1]; omega)
  obtain ⟨i, hi, rfl⟩ := List.mem_map.mp hd
  exact sb_100 (h.2 i hi)
theorem sb_row {p : Nat} {row : Row} (hp : p < 4) (h1 : row.length ≤ 3) (h2 : ∀ r ∈ row, FB 20 r.2 ∧ StOk p r.1) : SB 192 3 (rowD row) := by
  refine (SB.tuple (B := 61) (D := 2) (n := 3) (fun d hd => ?_) (by rw [List.length_map]; exact h1)).mono (by decide) (by decide)
  obtain ⟨r, hr, rfl⟩ := List.mem_map.mp hd
  obtain ⟨f, s⟩ := h2 r hr
  refine (SB.tuple (B := 27) (D := 1) (n := 2) (fun d hd => ?_) (by simp)).mono (by decide) (by decide)
  simp only [List.mem_cons, List.not_mem_nil, or_false] at hd
  rcases hd with rfl | rfl
  · exact sb_state hp s
  · exact (sb_fr (k := 7) f (by decide) (by decide) (by decide)).mono (by decide) (by decide)
def kTxt (K : Kn) : Str := dshow (K.map fun q => .int q.1) (K.map fun q => rowD q.2)
theorem kn_fine {p : Nat} {K : Kn} (hp : p < 4) (ok : KOk p K) (sm : KSm p K) : DFine (K.map fun q => .int q.1) (K.map fun q => rowD q.2) := by
  refine dfine_of (B := 192) (D := 3) (n := 9) (fun d hd => ?_) (fun d hd => ?_) (by rw [List.length_map]; exact ok.2.1) (by rw [List.length_map]; exact ok.2.1) (by decide) (by decide) (by decide)
  · obtain ⟨q, hq, rfl⟩ := List.mem_map.mp hd
    exact (sb_100 (sm q hq).1).mono (by decide) (by decide)
  · obtain ⟨q, hq, rfl⟩ := List.mem_map.mp hd
    have a := (ok.2.2 q hq).1
    exact sb_row hp a.1 fun r hr => ⟨(a.2 r hr).2.2, (sm q hq).2.2 r hr⟩
theorem allSh_rows (K : Kn) : allSh ((knE K).map (·.2)) = some (K.map fun q => rowD q.2) := by
  have e : (knE K).map (·.2) = (K.map fun q => rowD q.2).map .sh := by unfold knE; rw [List.map_map, List.map_map]; rfl
  rw [e, allSh_map]
theorem repr_kn {p : Nat} {e : Ent} {K : Kn} {m : Store} {k : Nat} {Q : DQ} (hp : p < 4) (ok : KOk p K) (sm : KSm p K) (he : KE e K) (hm : m[k]? = some e) (q : Q (.sh (.str (kTxt K))) m) : gReprA [.own k] m Q := by
  have hk : kvD m (.own k) = some (K.map fun q => .int q.1, K.map fun q => rowD q.2) := by
    show (match m[k]? with
      | some (.dK kvs) => (allSh (kvs.map fun (p : Key × DV) => p.2)).map fun vs => (kvs.map fun (p : Key × DV) => keyD p.1, vs)
      | some (.fK kvs) => (allSh (kvs.map fun (p : Key × DV) => p.2)).map fun vs => (kvs.map fun (p : Key × DV) => keyD p.1, vs)
      | some (.dT kvs) => (allSh (kvs.map fun (p : NestedKey × DV) => p.2)).map fun vs => (kvs.map fun (p : NestedKey × DV) => p.1.data, vs)
      | some (.fT kvs) => (allSh (kvs.map fun (p : NestedKey × DV) => p.2)).map fun vs => (kvs.map fun (p : NestedKey × DV) => p.1.data, vs)
      | _ => none) = _
    have e2 : (knE K).map (fun p => keyD p.1) = K.map fun q => PyData.int q.1 := by rw [knE_keys, List.map_map]; rfl
    rw [hm]
    rcases he with rfl | rfl
    · show (allSh ((knE K).map (·.2))).map (fun vs => ((knE K).map fun p => keyD p.1, vs)) = _
      rw [allSh_rows, e2]; rfl
    · show (allSh ((knE K).map (·.2))).map (fun vs => ((knE K).map fun p => keyD p.1, vs)) = _
      rw [allSh_rows, e2]; rfl
  show (match kvD m (.own k) with
    | some (ks, vs) => DFine ks vs ∧ Q (.sh (.str (dshow ks vs))) m
    | none => gRepr [.own k] m Q)
  rw [hk]
  exact ⟨kn_fine hp ok sm, q⟩
theorem sb_reach {p : Nat} {K : Kn} (ok : KOk p K) (sm : KSm p K) (v : Int) : SB 57 1 (rowZ (reachS p K v)) := by
  refine SB.list (B := 4) (D := 0) (n := 9) (fun d hd => ?_) (by rw [List.length_map]; exact Nat.le_trans (reachS_len p K v) ok.2.1)
  obtain ⟨i, hi, rfl⟩ := List.mem_map.mp hd
  obtain ⟨q, hq, rfl⟩ := List.mem_map.mp (reachS_keys hi)
  exact sb_100 (sm q hq).1
theorem fold_stepC {p : Nat} {K : Kn} (B : List Int → Prop) (h : ∀ v, B (reachS p K v)) : ∀ (vs : List Int) (acc : List (List Int)), (∀ s ∈ acc, B s) → (∀ s ∈ vs.foldl (fun acc v => stepC p K acc (reachS p K v) (allC p K v)) acc, B s) ∧ (vs.foldl (fun acc v => stepC p K acc (reachS p K v) (allC p K v)) acc).length ≤ acc.length + vs.length
  | [], acc, ha => ⟨ha, Nat.le_refl _⟩
  | v :: vs, acc, ha => by
    rw [List.foldl_cons, List.length_cons]
    have := fold_stepC B h vs (stepC p K acc (reachS p K v) (allC p K v)) fun s hs => by
      unfold stepC at hs
      split at hs
      · rcases List.mem_append.mp hs with hs | hs
        · exact ha s hs
        · rw [List.mem_singleton.mp hs]; exact h v
      · exact ha s hs
    refine ⟨this.1, Nat.le_trans this.2 ?_⟩
    have : (stepC p K acc (reachS p K v) (allC p K v)).length ≤ acc.length + 1 := by
      unfold stepC
      split
      · simp
      · omega
    omega
theorem sb_closed {p : Nat} {K : Kn} (ok : KOk p K) (sm : KSm p K) : SB 534 2 (.list ((closedS p K).map rowZ)) ∧ (closedS p K).length ≤ 9 := by
  have h := fold_stepC (p := p) (K := K) (fun s => SB 57 1 (rowZ s)) (sb_reach ok sm) (sortZ (K.map (·.1))) [] (fun s hs => absurd hs List.not_mem_nil)
  have hl : (sortZ (K.map (·.1))).length ≤ 9 := by unfold sortZ; rw [List.length_mergeSort, List.length_map]; exact ok.2.1
  have h2 : (closedS p K).length ≤ 9 := Nat.le_trans h.2 (by simpa using hl)
  refine ⟨SB.list (B := 57) (D := 1) (n := 9) (fun d hd => ?_) (by rw [List.length_map]; exact h2), h2⟩
  obtain ⟨s, hs, rfl⟩ := List.mem_map.mp hd
  exact h.1 s hs
theorem any_kn {e : Ent} {K : Kn} {m : Store} {k i : Nat} {δ : DEnv} {Q : List DV → (Store → Prop) → Store → Prop} {E : DXK} (he : KE e K) (h : m[k]? = some e) (q : Q (K.map fun q => .sh (.int q.1)) (fun _ => True) (m.set k (.fK (knE K)))) (hi : δ[i]? = some (some (.own k)) := by rfl) : dIAny (dVar i) δ m Q E := by
  have nl : seqL m (.own k) = none := by
    show (match m[k]? with
      | some (.lst xs) => some xs
      | some (.frz (.list ds)) => some (ds.map .sh)
      | _ => none) = none
    rw [h]
    rcases he with rfl | rfl <;> rfl
  have ek : (knE K).map (fun p => DV.sh (keyD p.1)) = K.map fun q => .sh (.int q.1) := by unfold knE; rw [List.map_map]; rfl
  show (match δ[i]? with
    | some (some x) => (match seqT x with
      | some xs => Q xs (fun _ => True) m
      | none => (match seqL m x with
        | some xs => Q xs (fun m' => seqL m' x = some xs) m
        | none => (match x with
          | .own k => (match m[k]? with
            | some (.dK kvs) => Q (kvs.map fun p => .sh (keyD p.1)) (fun _ => True) (m.set k (.fK kvs))
            | some (.fK kvs) => Q (kvs.map fun p => .sh (keyD p.1)) (fun _ => True) m
            | some (.dT kvs) => Q (kvs.map fun p => .sh p.1.data) (fun _ => True) (m.set k (.fT kvs))
            | some (.fT kvs) => Q (kvs.map fun p => .sh p.1.data) (fun _ => True) m
            | _ => False)
          | _ => False)))
    | _ => False)
  rw [hi]
  show (match seqL m (.own k) with
        | some xs => Q xs (fun m' => seqL m' (.own k) = some xs) m
        | none => (match m[k]? with
            | some (.dK kvs) => Q (kvs.map fun p => .sh (keyD p.1)) (fun _ => True) (m.set k (.fK kvs))
            | some (.fK kvs) => Q (kvs.map fun p => .sh (keyD p.1)) (fun _ => True) m
            | some (.dT kvs) => Q (kvs.map fun p => .sh p.1.data) (fun _ => True) (m.set k (.fT kvs))
            | some (.fT kvs) => Q (kvs.map fun p => .sh p.1.data) (fun _ => True) m
            | _ => False))
  rw [nl, h]
  rcases he with rfl | rfl
  · show Q ((knE K).map fun p => .sh (keyD p.1)) _ _
    rw [ek]; exact q
  · show Q ((knE K).map fun p => .sh (keyD p.1)) _ _
    rw [set_id h] at q
    rw [ek]; exact q
abbrev E0 (s : PyData) : DEnv := [some (.sh s), some (.own 3), none, none, none, none, none, none, none]
abbrev E1 (s : PyData) (p : Nat) (t : Str) : DEnv := [some (.sh s), some (.own 3), none, some (.sh (.int (p : Int))), some (.own 4), some (.sh (.str t)), none, none, none]
abbrev rd_law : DTS :=
    (dSeq (dAsg (dCall sp__law_drawer_of (dCons (dVar 0) dNil)) (hName 1))
    (dSeq (dFor (dIRng1 (dCons (dC (.sh (.int 8))) dNil)) (hName 2) (dSeq (dAsg (dCall sp__law_random_kernel (dCons (dVar 1) dNil)) (hTup 2 (hCons (hName 3) (hCons (hName 4) hNil))))
    (dSeq (dAsg (dCB gReprA (dCons (dVar 4) dNil)) (hName 5))
    (dSeq (dFor (dIRng1 (dCons (dC (.sh (.int 2))) dNil)) (hName 6) (dSeq (dAsg (dCall sp_closed_classes (dCons (dVar 3) (dCons (dVar 4) dNil))) (hName 7))
    (dSeq (dIfS (dNotT (dTst (dCall sp__law_alike (dCons (dVar 7) (dCons (dCall sp__law_closed (dCons (dVar 3) (dCons (dVar 4) dNil))) dNil))))) (dRet (dC (.sh (.bool false)))) dNext)
    (dSeq (dDrop (dML gAppend (dVar 7) (dCons (dLstF dNil) dNil)))
    (dFor (dIAny (dVar 4)) (hName 8) (dSeq (dAsg (dCall sp_reached (dCons (dVar 3) (dCons (dVar 4) (dCons (dVar 8) dNil)))) (hName 7))
    (dSeq (dIfS (dNotT (dTst (dCall sp__law_alike (dCons (dVar 7) (dCons (dCall sp__law_reach (dCons (dVar 3) (dCons (dVar 4) (dCons (dVar 8) dNil)))) dNil))))) (dRet (dC (.sh (.bool false)))) dNext)
    (dDrop (dML gAppend (dVar 7) (dCons (dC (.sh (.str ""))) dNil))))))))))
    (dIfS (dTst (dBin (gEq true) (dCB gReprA (dCons (dVar 4) dNil)) (dVar 5))) (dRet (dC (.sh (.bool false)))) dNext)))))
    (dRet (dC (.sh (.bool true))))))
theorem pl_law : Promise N_law rd_law sp_law := by
  intro xs m Qd Ed sc h
  obtain ⟨ns, rfl, hl, rfl, q⟩ := h
  show rd_law _ [some (.sh (.list (ns.map .int))), none, none, none, none, none, none, none, none] []
  refine Exists.intro ns ⟨rfl, hl, ?_⟩
  dsimp only [rd_law, dSeq, dAsg, hName, dBin, dVar, dC, dCall, dCons, dNil, dCB, dTup, dLst, dRet, dTst, tstQ, dIf, dIfS, dPar, dNext, dUn, dNeg, dNotT, dAndT, dOrT, dChain, hTup, hCons, hNil, int2, dCutF, dPart, dNoPart, dLstF, dDrop, dML, dListRg1, dListRg2, dListRg1F, dListRg2F, dNewK, dNewT, dGetD, List.map_cons, List.map_nil, lstF, allSh, mkTup, List.set, List.getElem?_cons_zero, List.getElem?_cons_succ]
  generalize PyData.list (ns.map .int) = scr
  refine r_loop (fun i : Int => .sh (.int i)) (fun _ : Unit => E0 scr) (fun _ => drB 3) (fun _ _ => True) (s0 := ()) (fun Q' h => it_rng1A (n := 8) (fun Q' h => h) (by decide) fun kp hk => h kp fun _ => hk _) (by (repeat' first | exact Fgt.nil | refine Fgt.keep (by first | exact trivial | exact Nat.zero_lt_one | decide | (show _ < _; decide) | (show _ < _; simp)) ?_ | refine Fgt.drop ?_)) trivial (fun _ => Nat.le_refl _) ?_ ?_
  · rintro a rest s - K0 hK hK2
    dsimp only [dSeq, dAsg, hName, dBin, dVar, dC, dCall, dCons, dNil, dCB, dTup, dLst, dRet, dTst, tstQ, dIf, dIfS, dPar, dNext, dUn, dNeg, dNotT, dAndT, dOrT, dChain, hTup, hCons, hNil, int2, dCutF, dPart, dNoPart, dLstF, dDrop, dML, dListRg1, dListRg2, dListRg1F, dListRg2F, dNewK, dNewT, dGetD, List.map_cons, List.map_nil, lstF, allSh, mkTup, List.set, List.getElem?_cons_zero, List.getElem?_cons_succ]
    refine ⟨3, rfl, rfl, fun p K hp ok sm => ?_⟩
    refine And.intro rfl ?_
    dsimp only [dSeq, dAsg, hName, dBin, dVar, dC, dCall, dCons, dNil, dCB, dTup, dLst, dRet, dTst, tstQ, dIf, dIfS, dPar, dNext, dUn, dNeg, dNotT, dAndT, dOrT, dChain, hTup, hCons, hNil, int2, dCutF, dPart, dNoPart, dLstF, dDrop, dML, dListRg1, dListRg2, dListRg1F, dListRg2F, dNewK, dNewT, dGetD, List.map_cons, List.map_nil, lstF, allSh, mkTup, List.set, List.getElem?_cons_zero, List.getElem?_cons_succ]
    refine repr_kn hp ok sm (.inl rfl) rfl ?_
    refine r_loop (fun i : Int => .sh (.int i)) (fun _ : Ent => E1 scr p (kTxt K)) (fun e => drB 3 ++ [e]) (fun _ e => KE e K) (s0 := .dK (knE K)) (fun Q' h => it_rng1A (n := 2) (fun Q' h => h) (by decide) fun kp hk => h kp fun _ => hk _) (by (repeat' first | exact Fgt.nil | refine Fgt.keep (by first | exact trivial | exact Nat.zero_lt_one | decide | (show _ < _; decide) | (show _ < _; simp)) ?_ | refine Fgt.drop ?_)) (.inl rfl) (fun _ => Nat.le_refl _) ?_ ?_
    · rintro a rest e he K2 hK4 hK3
      dsimp only [dSeq, dAsg, hName, dBin, dVar, dC, dCall, dCons, dNil, dCB, dTup, dLst, dRet, dTst, tstQ, dIf, dIfS, dPar, dNext, dUn, dNeg, dNotT, dAndT, dOrT, dChain, hTup, hCons, hNil, int2, dCutF, dPart, dNoPart, dLstF, dDrop, dML, dListRg1, dListRg2, dListRg1F, dListRg2F, dNewK, dNewT, dGetD, List.map_cons, List.map_nil, lstF, allSh, mkTup, List.set, List.getElem?_cons_zero, List.getElem?_cons_succ]
      refine locS_m2 (k := 4) (e := e) rfl (ke_flat he) ⟨p, e, K, rfl, rfl, he, ok, ?_⟩
      dsimp only [lrQ]
      refine locS_m2 (k := 4) (e := e) rfl (ke_flat he) ⟨p, e, K, rfl, rfl, he, ok, ?_⟩
      dsimp only [lrQ]
      obtain ⟨sb, l9⟩ := sb_closed ok sm
      refine ⟨.own 5, _, _, _, _, rfl, dat_own rfl, dat_sh _ _ _, sb, by decide, by decide, ?_⟩
      refine And.intro ⟨_, rfl⟩ (And.intro rfl (And.intro (by rw [List.length_map, List.length_map, PySem.sizeLine_eq]; omega) ?_))
      have scx : Scp (drB 3 ++ [.fK (knE K), .lst (((closedS p K).map rowZ).map DV.sh ++ [DV.sh (.list [])])]) := scp_add2 (scp_drB 3) (ke_flat (.inr rfl)) ⟨(closedS p K).map rowZ ++ [.list []], by rw [List.map_append]; rfl⟩
      revert scx
      generalize ((closedS p K).map rowZ).map DV.sh ++ [DV.sh (.list [])] = x5
      intro scx
      refine r_loop (as := K.map (·.1)) (fun i : Int => .sh (.int i)) (fun _ : Unit => E1 scr p (kTxt K)) (fun _ => drB 3 ++ [.fK (knE K), .lst x5]) (fun rest _ => ∀ v ∈ rest, v ∈ K.map (·.1)) (s0 := ()) (fun Q' h => ?_) (by (repeat' first | exact Fgt.nil | refine Fgt.keep (by first | exact trivial | exact Nat.zero_lt_one | decide | (show _ < _; decide) | (show _ < _; simp)) ?_ | refine Fgt.drop ?_)) (fun v hv => hv) (fun _ => Nat.le_refl _) ?_ ?_
      · refine any_kn he rfl ?_
        have := h (fun _ => True) fun _ => trivial
        rw [List.map_map] at this
        exact this
      · rintro v rest u hv K4 hK4 hK5
        dsimp only [dSeq, dAsg, hName, dBin, dVar, dC, dCall, dCons, dNil, dCB, dTup, dLst, dRet, dTst, tstQ, dIf, dIfS, dPar, dNext, dUn, dNeg, dNotT, dAndT, dOrT, dChain, hTup, hCons, hNil, int2, dCutF, dPart, dNoPart, dLstF, dDrop, dML, dListRg1, dListRg2, dListRg1F, dListRg2F, dNewK, dNewT, dGetD, List.map_cons, List.map_nil, lstF, allSh, mkTup, List.set, List.getElem?_cons_zero, List.getElem?_cons_succ]
        have hv0 := hv v List.mem_cons_self
        refine locS_m3 (k := 4) (e := .fK (knE K)) rfl (ke_flat (.inr rfl)) ⟨p, _, K, v, rfl, rfl, .inr rfl, ok, hv0, .inr ?_⟩
        dsimp only [lrQ]
        refine locS_m3 (k := 4) (e := .fK (knE K)) rfl (ke_flat (.inr rfl)) ⟨p, _, K, v, rfl, rfl, .inr rfl, ok, hv0, ?_⟩
        dsimp only [lrQ]
        refine ⟨.own 6, _, _, _, _, rfl, dat_own rfl, dat_sh _ _ _, sb_reach ok sm v, by decide, by decide, ?_⟩
        refine And.intro ⟨_, rfl⟩ (And.intro ?_ ?_)
        · rw [List.length_map, List.length_map, PySem.sizeLine_eq]
          have := Nat.le_trans (reachS_len p K v) ok.2.1
          omega
        · exact hK5 () _ [_] (fun w hw => hv w (List.mem_cons_of_mem _ hw)) (by (repeat' first | exact Fgt.nil | refine Fgt.keep (by first | exact trivial | exact Nat.zero_lt_one | decide | (show _ < _; decide) | (show _ < _; simp)) ?_ | refine Fgt.drop ?_)) scx
      · rintro u -
        exact hK3 (.fK (knE K)) _ [.lst x5] (.inr rfl) (by (repeat' first | exact Fgt.nil | refine Fgt.keep (by first | exact trivial | exact Nat.zero_lt_one | decide | (show _ < _; decide) | (show _ < _; simp)) ?_ | refine Fgt.drop ?_)) (scp_add1 (scp_drB 3) (ke_flat (.inr rfl)))
    · rintro e he
      dsimp only [dSeq, dAsg, hName, dBin, dVar, dC, dCall, dCons, dNil, dCB, dTup, dLst, dRet, dTst, tstQ, dIf, dIfS, dPar, dNext, dUn, dNeg, dNotT, dAndT, dOrT, dChain, hTup, hCons, hNil, int2, dCutF, dPart, dNoPart, dLstF, dDrop, dML, dListRg1, dListRg2, dListRg1F, dListRg2F, dNewK, dNewT, dGetD, List.map_cons, List.map_nil, lstF, allSh, mkTup, List.set, List.getElem?_cons_zero, List.getElem?_cons_succ]
      refine repr_kn hp ok sm he rfl ?_
      have e0 : (decide (kTxt K = kTxt K)) = true := decide_eq_true rfl
      show (if (!decide (kTxt K = kTxt K)) = true then _ else _)
      rw [e0]
      exact hK2 () _ [e] trivial (by (repeat' first | exact Fgt.nil | refine Fgt.keep (by first | exact trivial | exact Nat.zero_lt_one | decide | (show _ < _; decide) | (show _ < _; simp)) ?_ | refine Fgt.drop ?_)) (scp_drB 3)
  · rintro s -
    dsimp only [dSeq, dAsg, hName, dBin, dVar, dC, dCall, dCons, dNil, dCB, dTup, dLst, dRet, dTst, tstQ, dIf, dIfS, dPar, dNext, dUn, dNeg, dNotT, dAndT, dOrT, dChain, hTup, hCons, hNil, int2, dCutF, dPart, dNoPart, dLstF, dDrop, dML, dListRg1, dListRg2, dListRg1F, dListRg2F, dNewK, dNewT, dGetD, List.map_cons, List.map_nil, lstF, allSh, mkTup, List.set, List.getElem?_cons_zero, List.getElem?_cons_succ]
    exact .inl (q _)
end Lk20
namespace Lk20
open PySem PySem.Spec PyProof.Rows L2 DL
def topS (i : Nat) : Stmt := PySem.Challenge.pw_sentback_k20_closed_classes.main.body.getD i (.Pass ⟨0, 0, 0, 0⟩)
abbrev s__law_drawer_of : Stmt := topS 13
theorem sc__law_drawer_of : FnScope ["_law_script", "_law_numbers", "_law_place", "_law_number"] ["_law_script"] (defScope s__law_drawer_of) := ⟨rfl, rfl, rfl, by decide +kernel, rfl, by decide +kernel, by decide +kernel⟩
abbrev s__law_scrambled : Stmt := topS 12
theorem sc__law_scrambled : FnScope ["_law_number", "_law_place", "_law_modulus", "_law_value", "_law_turn"] ["_law_number", "_law_place"] (defScope s__law_scrambled) := ⟨rfl, rfl, rfl, by decide +kernel, rfl, by decide +kernel, by decide +kernel⟩
abbrev s__law_below : Stmt := topS 14
theorem sc__law_below : FnScope ["_law_drawing", "_law_bound", "_law_found", "_law_numbers", "_law_place", "_law_number"] ["_law_drawing", "_law_bound"] (defScope s__law_below) := ⟨rfl, rfl, rfl, by decide +kernel, rfl, by decide +kernel, by decide +kernel⟩
abbrev s__law_one_of : Stmt := topS 15
theorem sc__law_one_of : FnScope ["_law_drawing", "_law_items"] ["_law_drawing", "_law_items"] (defScope s__law_one_of) := ⟨rfl, rfl, rfl, by decide +kernel, rfl, by decide +kernel, by decide +kernel⟩
abbrev s__law_ratio : Stmt := topS 17
theorem sc__law_ratio : FnScope ["_law_top", "_law_bottom", "_law_one", "_law_other", "_law_sign"] ["_law_top", "_law_bottom"] (defScope s__law_ratio) := ⟨rfl, rfl, rfl, by decide +kernel, rfl, by decide +kernel, by decide +kernel⟩
abbrev s__law_random_kernel : Stmt := topS 24
theorem sc__law_random_kernel : FnScope ["_law_drawing", "_law_place", "_law_many", "_law_low", "_law_step", "_law_values", "_law_kernel", "_law_value", "_law_counts", "_law_index", "_law_whole", "_law_other", "_law_rest", "_law_state", "_law_spot"] ["_law_drawing"] (defScope s__law_random_kernel) := ⟨rfl, rfl, rfl, by decide +kernel, rfl, by decide +kernel, by decide +kernel⟩
abbrev s_reduced : Stmt := topS 5
theorem sc_reduced : FnScope ["numerator", "denominator", "first", "second"] ["numerator", "denominator"] (defScope s_reduced) := ⟨rfl, rfl, rfl, by decide +kernel, rfl, by decide +kernel, by decide +kernel⟩
abbrev s_plus : Stmt := topS 6
theorem sc_plus : FnScope ["first", "second"] ["first", "second"] (defScope s_plus) := ⟨rfl, rfl, rfl, by decide +kernel, rfl, by decide +kernel, by decide +kernel⟩
abbrev s_final_chances : Stmt := topS 8
theorem sc_final_chances : FnScope ["place", "one", "found", "state", "chance"] ["place", "one"] (defScope s_final_chances) := ⟨rfl, rfl, rfl, by decide +kernel, rfl, by decide +kernel, by decide +kernel⟩
abbrev s_reached : Stmt := topS 9
theorem sc_reached : FnScope ["place", "kernel", "start", "found", "waiting", "other"] ["place", "kernel", "start"] (defScope s_reached) := ⟨rfl, rfl, rfl, by decide +kernel, rfl, by decide +kernel, by decide +kernel⟩
abbrev s_closed_classes : Stmt := topS 10
theorem sc_closed_classes : FnScope ["place", "kernel", "found", "value", "some", "other"] ["place", "kernel"] (defScope s_closed_classes) := ⟨rfl, rfl, rfl, by decide +kernel, rfl, by decide +kernel, by decide +kernel⟩
abbrev s__law_add : Stmt := topS 18
theorem sc__law_add : FnScope ["_law_one", "_law_other"] ["_law_one", "_law_other"] (defScope s__law_add) := ⟨rfl, rfl, rfl, by decide +kernel, rfl, by decide +kernel, by decide +kernel⟩
abbrev s__law_next_values : Stmt := topS 25
theorem sc__law_next_values : FnScope ["_law_place", "_law_kernel", "_law_value", "_law_found", "_law_state", "_law_chance"] ["_law_place", "_law_kernel", "_law_value"] (defScope s__law_next_values) := ⟨rfl, rfl, rfl, by decide +kernel, rfl, by decide +kernel, by decide +kernel⟩
abbrev s__law_reach : Stmt := topS 26
theorem sc__law_reach : FnScope ["_law_place", "_law_kernel", "_law_start", "_law_found", "_law_waiting", "_law_fresh", "_law_other"] ["_law_place", "_law_kernel", "_law_start"] (defScope s__law_reach) := ⟨rfl, rfl, rfl, by decide +kernel, rfl, by decide +kernel, by decide +kernel⟩
abbrev s__law_closed : Stmt := topS 27
theorem sc__law_closed : FnScope ["_law_place", "_law_kernel", "_law_found", "_law_value", "_law_some", "_law_apart", "_law_other"] ["_law_place", "_law_kernel"] (defScope s__law_closed) := ⟨rfl, rfl, rfl, by decide +kernel, rfl, by decide +kernel, by decide +kernel⟩
abbrev s__law_alike : Stmt := topS 16
theorem sc__law_alike : FnScope ["_law_found", "_law_due"] ["_law_found", "_law_due"] (defScope s__law_alike) := ⟨rfl, rfl, rfl, by decide +kernel, rfl, by decide +kernel, by decide +kernel⟩
abbrev s_law : Stmt := topS 28
theorem sc_law : FnScope ["_law_script", "_law_drawing", "_law_turn", "_law_place", "_law_kernel", "_law_before", "_law_time", "_law_found", "_law_value"] ["_law_script"] (defScope s_law) := ⟨rfl, rfl, rfl, by decide +kernel, rfl, by decide +kernel, by decide +kernel⟩
structure TX (K : PySem.W.Frag) (mg : Str → Option Value) : Prop where
  nd : NoDig K
  n_abs : mg "abs" = none
  n_all : mg "all" = none
  n_enumerate : mg "enumerate" = none
  n_len : mg "len" = none
  n_max : mg "max" = none
  n_range : mg "range" = none
  n_repr : mg "repr" = none
  n_sorted : mg "sorted" = none
  n_sum : mg "sum" = none
  n_tuple : mg "tuple" = none
  g_ZERO : GC K mg "ZERO" c_ZERO
  f__law_drawer_of : FT K mg "_law_drawer_of" s__law_drawer_of ["_law_script"]
  f__law_scrambled : FT K mg "_law_scrambled" s__law_scrambled ["_law_number", "_law_place"]
  f__law_below : FT K mg "_law_below" s__law_below ["_law_drawing", "_law_bound"]
  f__law_one_of : FT K mg "_law_one_of" s__law_one_of ["_law_drawing", "_law_items"]
  f__law_ratio : FT K mg "_law_ratio" s__law_ratio ["_law_top", "_law_bottom"]
  f__law_random_kernel : FT K mg "_law_random_kernel" s__law_random_kernel ["_law_drawing"]
  f_reduced : FT K mg "reduced" s_reduced ["numerator", "denominator"]
  f_plus : FT K mg "plus" s_plus ["first", "second"]
  f_final_chances : FT K mg "final_chances" s_final_chances ["place", "one"]
  f_reached : FT K mg "reached" s_reached ["place", "kernel", "start"]
  f_closed_classes : FT K mg "closed_classes" s_closed_classes ["place", "kernel"]
  f__law_add : FT K mg "_law_add" s__law_add ["_law_one", "_law_other"]
  f__law_next_values : FT K mg "_law_next_values" s__law_next_values ["_law_place", "_law_kernel", "_law_value"]
  f__law_reach : FT K mg "_law_reach" s__law_reach ["_law_place", "_law_kernel", "_law_start"]
  f__law_closed : FT K mg "_law_closed" s__law_closed ["_law_place", "_law_kernel"]
  f__law_alike : FT K mg "_law_alike" s__law_alike ["_law_found", "_law_due"]
  f_law : FT K mg "law" s_law ["_law_script"]
section
variable {P : Program} {w : World} {K : PySem.W.Frag} {mg : Str → Option Value} {base : Heap}
theorem ok__law_drawer_of (T : TX K mg)  : Ok P w K mg base 1 "_law_drawer_of" ["_law_script"] sp__law_drawer_of := by
  refine Ok.imp (ok_of T.f__law_drawer_of sc__law_drawer_of ln__law_drawer_of fun f cdv A outer s H E hr => ⟨rd__law_drawer_of, ?_, pl__law_drawer_of⟩) conv__law_drawer_of
  have nd := sc__law_drawer_of.nd
  exact (dss_cons (ds_setLc 1 [("_law_number", 3)] rfl nd (di_seq (de_cut (de_var 0) do_none (do_some de_int))) (blkOk_by (N := N__law_drawer_of) (sc := defScope s__law_drawer_of) (own := [("_law_number", 3)]) (by decide +kernel)) (fun _ _ _ _ _ => (dn_name 3 nd)) (fun _ _ _ _ _ => dbs_nil) (fun _ _ _ _ _ => (de_callB call_abs ll_abs (by rfl) T.n_abs (by decide +kernel) (da_cons (de_var 3) da_nil))))
    (dss_cons (ds_for (passes_of rfl) rfl (di_enum (by rfl) T.n_enumerate (da_cons (de_cut (de_var 0) (do_some de_int) (do_some de_int)) da_nil)) (dg_tup rfl (dgs_cons (dg_name 2 nd) (dgs_cons (dg_name 3 nd) dgs_nil))) (dss_one (ds_asg (de_add (de_ix (de_var 1) (de_mod (de_var 2) de_int)) (de_callB call_abs ll_abs (by rfl) T.n_abs (by decide +kernel) (da_cons (de_var 3) da_nil))) (dg_sub (W0 := W0) (de_var 1) (de_mod (de_var 2) de_int) set_list ll_setL))))
    (dss_one (ds_ret (de_lst (da_cons (de_var 1) (da_cons de_int (da_cons de_int (da_cons de_int da_nil)))))))))
theorem ok__law_scrambled (T : TX K mg)  : Ok P w K mg base 1 "_law_scrambled" ["_law_number", "_law_place"] sp__law_scrambled := by
  refine ok_of T.f__law_scrambled sc__law_scrambled ln__law_scrambled fun f cdv A outer s H E hr => ⟨rd__law_scrambled, ?_, pl__law_scrambled⟩
  have nd := sc__law_scrambled.nd
  exact (dss_cons (ds_set 2 de_int nd)
    (dss_cons (ds_set 3 (de_mod (de_add (de_add (de_mul (de_var 0) de_int) (de_mul (de_var 1) de_int)) de_int) (de_var 2)) nd)
    (dss_cons (ds_for (passes_of rfl) rfl (di_range1 (by rfl) T.n_range (da_cons de_int da_nil)) (dg_name 4 nd) (dss_one (ds_set 3 (de_mod (de_add (de_add (de_add (de_mul (de_var 3) (de_var 3)) (de_mul de_int (de_var 3))) (de_mul de_int (de_var 4))) (de_var 1)) (de_var 2)) nd)))
    (dss_one (ds_ret (de_add (de_mul (de_var 3) (de_var 2)) (de_mod (de_add (de_mul (de_var 3) de_int) (de_var 1)) (de_var 2))))))))
theorem ok__law_below (T : TX K mg) (G__law_scrambled : Ok P w K mg base 1 "_law_scrambled" ["_law_number", "_law_place"] sp__law_scrambled) : Ok P w K mg base 2 "_law_below" ["_law_drawing", "_law_bound"] sp__law_below := by
  refine Ok.imp (ok_of T.f__law_below sc__law_below ln__law_below fun f cdv A outer s H E hr => ⟨rd__law_below, ?_, pl__law_below⟩) conv__law_below
  have nd := sc__law_below.nd
  exact (dss_cons (ds_if (db_cmp lo_lt ll_lt (de_ix (de_var 0) de_int) (de_var 1) (nomark _)) (dss_cons (ds_par 3 4 rfl nd (da_cons (de_ix (de_var 0) de_int) (da_cons (de_ix (de_var 0) de_int) da_nil)))
    (dss_cons (ds_set 5 (de_ifExp (db_cmp (lo_ne hr) ll_ne (de_var 3) (de_lst da_nil) (nomark _)) (de_ix (de_var 3) (de_mod (de_var 4) (de_callB call_len ll_len (by rfl) T.n_len PySem.boot_len (da_cons (de_var 3) da_nil)))) de_int) nd)
    (dss_cons (ds_if (dbw (dw_or (db_cmp lo_ge ll_ge (de_var 4) (de_callB call_len ll_len (by rfl) T.n_len PySem.boot_len (da_cons (de_var 3) da_nil)) (nomark _)) (dw_or1 (db_cmp lo_lt ll_lt (de_var 5) (de_pow de_int de_int) (nomark _))))) (dss_one (ds_set 5 (de_callN G__law_scrambled (takes_of rfl rfl rfl rfl) (hr.mono (by decide)) (da_cons (de_mod (de_var 5) de_int) (da_cons (de_var 4) da_nil))) nd)) dss_nil)
    (dss_cons (ds_asg (de_add (de_var 4) de_int) (dg_sub (W0 := W0) (de_var 0) de_int set_list ll_setL))
    (dss_cons (ds_asg (de_var 5) (dg_sub (W0 := W0) (de_var 0) de_int set_list ll_setL))
    (dss_one (ds_asg (de_var 5) (dg_sub (W0 := W0) (de_var 0) de_int set_list ll_setL)))))))) dss_nil)
    (dss_cons (ds_set 2 (de_mod (de_ix (de_var 0) de_int) (de_var 1)) nd)
    (dss_cons (ds_asg (de_fdiv (de_ix (de_var 0) de_int) (de_var 1)) (dg_sub (W0 := W0) (de_var 0) de_int set_list ll_setL))
    (dss_cons (ds_asg (de_fdiv (de_ix (de_var 0) de_int) (de_var 1)) (dg_sub (W0 := W0) (de_var 0) de_int set_list ll_setL))
    (dss_one (ds_ret (de_var 2)))))))
theorem ok__law_one_of (T : TX K mg) (G__law_below : Ok P w K mg base 2 "_law_below" ["_law_drawing", "_law_bound"] sp__law_below) : Ok P w K mg base 3 "_law_one_of" ["_law_drawing", "_law_items"] sp__law_one_of := by
  refine ok_of T.f__law_one_of sc__law_one_of ln__law_one_of fun f cdv A outer s H E hr => ⟨rd__law_one_of, ?_, pl__law_one_of⟩
  have nd := sc__law_one_of.nd
  exact (dss_one (ds_ret (de_ix (de_var 1) (de_callN G__law_below (takes_of rfl rfl rfl rfl) (hr.mono (by decide)) (da_cons (de_var 0) (da_cons (de_callB call_len ll_len (by rfl) T.n_len PySem.boot_len (da_cons (de_var 1) da_nil)) da_nil))))))
theorem ok__law_ratio (T : TX K mg)  : Ok P w K mg base 1 "_law_ratio" ["_law_top", "_law_bottom"] sp__law_ratio := by
  refine ok_of T.f__law_ratio sc__law_ratio ln__law_ratio fun f cdv A outer s H E hr => ⟨rd__law_ratio, ?_, pl__law_ratio⟩
  have nd := sc__law_ratio.nd
  exact (dss_cons (ds_par 2 3 rfl nd (da_cons (de_callB call_abs ll_abs (by rfl) T.n_abs (by decide +kernel) (da_cons (de_var 0) da_nil)) (da_cons (de_callB call_abs ll_abs (by rfl) T.n_abs (by decide +kernel) (da_cons (de_var 1) da_nil)) da_nil)))
    (dss_cons (ds_while (passes_of rfl) (db_cmp (lo_ne hr) ll_ne (de_var 3) de_int (nomark _)) (dss_one (ds_par 2 3 rfl nd (da_cons (de_var 3) (da_cons (de_mod (de_var 2) (de_var 3)) da_nil)))))
    (dss_cons (ds_set 4 (de_ifExp (db_cmp lo_gt ll_gt (de_var 1) de_int (nomark _)) de_int (de_neg de_int)) nd)
    (dss_one (ds_ret (de_tup (da_cons (de_fdiv (de_mul (de_var 4) (de_var 0)) (de_var 2)) (da_cons (de_fdiv (de_mul (de_var 4) (de_var 1)) (de_var 2)) da_nil))))))))
theorem ok__law_random_kernel (T : TX K mg) (G__law_one_of : Ok P w K mg base 3 "_law_one_of" ["_law_drawing", "_law_items"] sp__law_one_of) (G__law_below : Ok P w K mg base 2 "_law_below" ["_law_drawing", "_law_bound"] sp__law_below) (G__law_ratio : Ok P w K mg base 1 "_law_ratio" ["_law_top", "_law_bottom"] sp__law_ratio) : Ok P w K mg base 4 "_law_random_kernel" ["_law_drawing"] sp__law_random_kernel := by
  refine ok_of T.f__law_random_kernel sc__law_random_kernel ln__law_random_kernel fun f cdv A outer s H E hr => ⟨rd__law_random_kernel, ?_, pl__law_random_kernel⟩
  have nd := sc__law_random_kernel.nd
  exact (dss_cons (ds_par 1 2 rfl nd (da_cons (de_callN G__law_below (takes_of rfl rfl rfl rfl) (hr.mono (by decide)) (da_cons (de_var 0) (da_cons de_int da_nil))) (da_cons (de_addF de_int (de_callN G__law_below (takes_of rfl rfl rfl rfl) (hr.mono (by decide)) (da_cons (de_var 0) (da_cons (de_callN G__law_one_of (takes_of rfl rfl rfl rfl) (hr.mono (by decide)) (da_cons (de_var 0) (da_cons (de_lstF (da_cons de_int (da_cons de_int (da_cons de_int da_nil)))) da_nil))) da_nil)))) da_nil)))
    (dss_cons (ds_asg (de_tup (da_cons (de_callN G__law_one_of (takes_of rfl rfl rfl rfl) (hr.mono (by decide)) (da_cons (de_var 0) (da_cons (de_lstF (da_cons (de_neg de_int) (da_cons (de_neg de_int) (da_cons de_int (da_cons de_int da_nil))))) da_nil))) (da_cons (de_callN G__law_one_of (takes_of rfl rfl rfl rfl) (hr.mono (by decide)) (da_cons (de_var 0) (da_cons (de_lstF (da_cons de_int (da_cons de_int (da_cons de_int (da_cons de_int da_nil))))) da_nil))) da_nil))) (dg_tup rfl (dgs_cons (dg_name 3 nd) (dgs_cons (dg_name 4 nd) dgs_nil))))
    (dss_cons (ds_setLcF dFrz fz_D 5 [("_law_index", 9)] rfl nd (di_range1 (by rfl) T.n_range (da_cons (de_var 2) da_nil)) (blkOk_by (N := N__law_random_kernel) (sc := defScope s__law_random_kernel) (own := [("_law_index", 9)]) (by decide +kernel)) (fun _ _ _ _ _ => (dn_name 9 nd)) (fun _ _ _ _ _ => dbs_nil) (fun _ _ _ _ _ => (de_addF (de_var 3) (de_mul (de_var 4) (de_var 9)))))
    (dss_cons (ds_set 6 de_newK nd)
    (dss_cons (ds_for (passes_of rfl) rfl (di_seq (de_ifExp (db_cmp (lo_eq hr) ll_eq (de_callN G__law_below (takes_of rfl rfl rfl rfl) (hr.mono (by decide)) (da_cons (de_var 0) (da_cons de_int da_nil))) de_int (nomark _)) (de_revF (de_var 5)) (de_var 5))) (dg_name 7 nd) (dss_cons (ds_set 8 de_newT nd)
    (dss_cons (ds_for (passes_of rfl) rfl (di_range1 (by rfl) T.n_range (da_cons (de_addF de_int (de_callN G__law_below (takes_of rfl rfl rfl rfl) (hr.mono (by decide)) (da_cons (de_var 0) (da_cons (de_callN G__law_one_of (takes_of rfl rfl rfl rfl) (hr.mono (by decide)) (da_cons (de_var 0) (da_cons (de_lstF (da_cons de_int (da_cons de_int (da_cons de_int da_nil)))) da_nil))) da_nil)))) da_nil)) (dg_name 9 nd) (dss_cons (ds_set 11 (de_callN G__law_one_of (takes_of rfl rfl rfl rfl) (hr.mono (by decide)) (da_cons (de_var 0) (da_cons (de_var 5) da_nil))) nd)
    (dss_cons (ds_setLcF dFrz fz_D 12 [("_law_spot", 14)] rfl nd (di_range1 (by rfl) T.n_range (da_cons (de_callB (call_max2 rfl) ll_max2 (by rfl) T.n_max (by decide +kernel) (da_cons de_int (da_cons (de_var 1) da_nil))) da_nil)) (blkOk_by (N := N__law_random_kernel) (sc := defScope s__law_random_kernel) (own := [("_law_spot", 14)]) (by decide +kernel)) (fun _ _ _ _ _ => (dn_name 14 nd)) (fun _ _ _ _ _ => dbs_nil) (fun _ _ _ _ _ => (de_callN G__law_below takes0 (hr.mono (by decide)) (da_cons (de_var 0) (da_cons de_int da_nil)))))
    (dss_cons (ds_set 13 (de_callTy call_tuple_of ll_tuple (by rfl) T.n_tuple (by decide +kernel) (da_cons (de_addF (de_addF (de_cutF (de_var 12) do_none (do_some (de_var 1))) (de_lstF (da_cons (de_var 11) da_nil))) (de_cutF (de_var 12) (do_some (de_var 1)) do_none)) da_nil)) nd)
    (dss_one (ds_asg (de_addF (de_addF (de_getD hr (de_var 8) (de_var 13) de_int) de_int) (de_callN G__law_below (takes_of rfl rfl rfl rfl) (hr.mono (by decide)) (da_cons (de_var 0) (da_cons de_int da_nil)))) (dg_sub (W0 := W0) (de_var 8) (de_var 13) (set_any hr) ll_put)))))))
    (dss_cons (ds_set 10 (de_callB (cr_sum rfl) ll_sum (by rfl) T.n_sum (by decide +kernel) (da_cons (de_frz (de_lc [("_law_state", 13)] rfl nd (di_any (de_var 8)) (blkOk_by (N := N__law_random_kernel) (sc := defScope s__law_random_kernel) (own := [("_law_state", 13)]) (by decide +kernel)) (fun _ _ _ _ _ => (dn_name 13 nd)) (fun _ _ _ _ _ => dbs_nil) (fun _ _ _ _ _ => (de_at hr (de_var 8) (de_var 13))))) da_nil)) nd)
    (dss_one (ds_asg (de_callTy call_tuple_of ll_tuple (by rfl) T.n_tuple (by decide +kernel) (da_cons (de_frz (de_lc [("_law_state", 13)] rfl nd (di_seq (de_callB (cr_sortedA hr) ll_sortedA (by rfl) T.n_sorted (by decide +kernel) (da_cons (de_var 8) da_nil))) (blkOk_by (N := N__law_random_kernel) (sc := defScope s__law_random_kernel) (own := [("_law_state", 13)]) (by decide +kernel)) (fun _ _ _ _ _ => (dn_name 13 nd)) (fun _ _ _ _ _ => dbs_nil) (fun _ _ _ _ _ => (de_tup (da_cons (de_var 13) (da_cons (de_callN G__law_ratio takes0 (hr.mono (by decide)) (da_cons (de_at hr (de_var 8) (de_var 13)) (da_cons (de_var 10) da_nil))) da_nil)))))) da_nil)) (dg_sub (W0 := W0) (de_var 6) (de_var 7) (set_any hr) ll_put)))))))
    (dss_one (ds_ret (de_tup (da_cons (de_var 1) (da_cons (de_var 6) da_nil))))))))))
theorem ok_reduced (T : TX K mg)  : Ok P w K mg base 1 "reduced" ["numerator", "denominator"] sp_reduced := by
  refine ok_of T.f_reduced sc_reduced ln_reduced fun f cdv A outer s H E hr => ⟨rd_reduced, ?_, pl_reduced⟩
  have nd := sc_reduced.nd
  exact (dss_cons (ds_if (db_cmp (lo_eq hr) ll_eq (de_var 1) de_int (nomark _)) (dss_one ds_never) dss_nil)
    (dss_cons (ds_par 2 3 rfl nd (da_cons (de_callB call_abs ll_abs (by rfl) T.n_abs (by decide +kernel) (da_cons (de_var 0) da_nil)) (da_cons (de_callB call_abs ll_abs (by rfl) T.n_abs (by decide +kernel) (da_cons (de_var 1) da_nil)) da_nil)))
    (dss_cons (ds_while (passes_of rfl) (db_cmp (lo_ne hr) ll_ne (de_var 3) de_int (nomark _)) (dss_one (ds_par 2 3 rfl nd (da_cons (de_var 3) (da_cons (de_mod (de_var 2) (de_var 3)) da_nil)))))
    (dss_cons (ds_if (db_cmp lo_lt ll_lt (de_var 1) de_int (nomark _)) (dss_one (ds_set 2 (de_neg (de_var 2)) nd)) dss_nil)
    (dss_one (ds_ret (de_tup (da_cons (de_fdiv (de_var 0) (de_var 2)) (da_cons (de_fdiv (de_var 1) (de_var 2)) da_nil)))))))))
theorem ok_plus (T : TX K mg) (G_reduced : Ok P w K mg base 1 "reduced" ["numerator", "denominator"] sp_reduced) : Ok P w K mg base 2 "plus" ["first", "second"] sp_plus := by
  refine ok_of T.f_plus sc_plus ln_plus fun f cdv A outer s H E hr => ⟨rd_plus, ?_, pl_plus⟩
  have nd := sc_plus.nd
  exact (dss_cons (ds_if (db_chain (lo_eq hr) ll_eq (lo_eq hr) ll_eq (de_ix (de_var 0) de_int) (de_ix (de_var 1) de_int) de_int) (dss_one (ds_ret (de_tup (da_cons (de_add (de_ix (de_var 0) de_int) (de_ix (de_var 1) de_int)) (da_cons de_int da_nil))))) dss_nil)
    (dss_one (ds_ret (de_callN G_reduced (takes_of rfl rfl rfl rfl) (hr.mono (by decide)) (da_cons (de_add (de_mul (de_ix (de_var 0) de_int) (de_ix (de_var 1) de_int)) (de_mul (de_ix (de_var 1) de_int) (de_ix (de_var 0) de_int))) (da_cons (de_mul (de_ix (de_var 0) de_int) (de_ix (de_var 1) de_int)) da_nil))))))
theorem ok_final_chances (T : TX K mg) (G_plus : Ok P w K mg base 2 "plus" ["first", "second"] sp_plus) : Ok P w K mg base 3 "final_chances" ["place", "one"] sp_final_chances := by
  refine Ok.imp (ok_of T.f_final_chances sc_final_chances (fun _ _ _ _ ⟨_, _, h, _⟩ => ln_final_chances _ _ _ _ h) fun f cdv A outer s H E hr => ⟨rd_final_chances, ?_, pl_final_chances.go⟩) fun _ _ _ _ => conv_loc
  have nd := sc_final_chances.nd
  exact (dss_cons (ds_set 2 de_newK nd)
    (dss_cons (ds_for (passes_of rfl) rfl (di_seq (de_var 1)) (dg_tup rfl (dgs_cons (dg_name 3 nd) (dgs_cons (dg_name 4 nd) dgs_nil))) (dss_one (ds_asg (de_callN G_plus (takes_of rfl rfl rfl rfl) (hr.mono (by decide)) (da_cons (de_getD hr (de_var 2) (de_ix (de_var 3) (de_var 0)) (de_globC rfl T.g_ZERO)) (da_cons (de_var 4) da_nil))) (dg_sub (W0 := W0) (de_var 2) (de_ix (de_var 3) (de_var 0)) (set_any hr) ll_put))))
    (dss_one (ds_ret (de_var 2)))))
theorem ok_reached (T : TX K mg) (G_final_chances : Ok P w K mg base 3 "final_chances" ["place", "one"] sp_final_chances) : Ok P w K mg base 4 "reached" ["place", "kernel", "start"] sp_reached := by
  refine Ok.imp (ok_of T.f_reached sc_reached (fun _ _ _ _ ⟨_, _, h, _⟩ => ln_reached _ _ _ _ h) fun f cdv A outer s H E hr => ⟨rd_reached, ?_, pl_reached.go⟩) fun _ _ _ _ => conv_loc
  have nd := sc_reached.nd
  exact (dss_cons (ds_set 3 (de_lst (da_cons (de_var 2) da_nil)) nd)
    (dss_cons (ds_set 4 (de_lst (da_cons (de_var 2) da_nil)) nd)
    (dss_cons (ds_while (passes_of rfl) (db_cmp (lo_ne hr) ll_ne (de_var 4) (de_lstF da_nil) (nomark _)) (dss_one (ds_for (passes_of rfl) rfl (di_any (de_callN G_final_chances (takes_of rfl rfl rfl rfl) (hr.mono (by decide)) (da_cons (de_var 0) (da_cons (de_at hr (de_var 1) (de_pop (de_var 4))) da_nil)))) (dg_name 5 nd) (dss_one (ds_if (db_cmp (lo_dNotIn hr) ll_dNotIn (de_var 5) (de_var 3) (by rfl)) (dss_cons (ds_expr (de_append (de_var 3) (de_var 5)))
    (dss_one (ds_expr (de_append (de_var 4) (de_var 5))))) dss_nil)))))
    (dss_one (ds_ret (de_callB (cr_sortedD hr) ll_sorted (by rfl) T.n_sorted (by decide +kernel) (da_cons (de_var 3) da_nil)))))))
theorem ok_closed_classes (T : TX K mg) (G_reached : Ok P w K mg base 4 "reached" ["place", "kernel", "start"] sp_reached) : Ok P w K mg base 5 "closed_classes" ["place", "kernel"] sp_closed_classes := by
  refine Ok.imp (ok_of T.f_closed_classes sc_closed_classes (fun _ _ _ _ ⟨_, _, h, _⟩ => ln_closed_classes _ _ _ _ h) fun f cdv A outer s H E hr => ⟨rd_closed_classes, ?_, pl_closed_classes.go⟩) fun _ _ _ _ => conv_loc
  have nd := sc_closed_classes.nd
  exact (dss_cons (ds_set 2 (de_lst da_nil) nd)
    (dss_cons (ds_for (passes_of rfl) rfl (di_seq (de_callB (cr_sortedA hr) ll_sortedA (by rfl) T.n_sorted (by decide +kernel) (da_cons (de_var 1) da_nil))) (dg_name 3 nd) (dss_cons (ds_set 4 (de_callN G_reached (takes_of rfl rfl rfl rfl) (hr.mono (by decide)) (da_cons (de_var 0) (da_cons (de_var 1) (da_cons (de_var 3) da_nil)))) nd)
    (dss_one (ds_if (dbw (dw_and (db_val (de_callB (cr_all rfl) ll_all (by rfl) T.n_all (by decide +kernel) (da_cons (de_frz (de_lc [("other", 5)] rfl nd (di_seq (de_var 4)) (blkOk_by (N := N_closed_classes) (sc := defScope s_closed_classes) (own := [("other", 5)]) (by decide +kernel)) (fun _ _ _ _ _ => (dn_name 5 nd)) (fun _ _ _ _ _ => dbs_nil) (fun _ _ _ _ _ => (de_cmp (lo_eq hr) ll_eq (de_callN G_reached takes0 (hr.mono (by decide)) (da_cons (de_var 0) (da_cons (de_var 1) (da_cons (de_var 5) da_nil)))) (de_var 4) (nomark _))))) da_nil))) (dw_and1 (db_cmp (lo_dNotIn hr) ll_dNotIn (de_var 4) (de_var 2) (by rfl))))) (dss_one (ds_expr (de_append (de_var 2) (de_var 4)))) dss_nil))))
    (dss_one (ds_ret (de_var 2)))))
theorem ok__law_add (T : TX K mg) (G__law_ratio : Ok P w K mg base 1 "_law_ratio" ["_law_top", "_law_bottom"] sp__law_ratio) : Ok P w K mg base 2 "_law_add" ["_law_one", "_law_other"] sp__law_add := by
  refine ok_of T.f__law_add sc__law_add ln__law_add fun f cdv A outer s H E hr => ⟨rd__law_add, ?_, pl__law_add⟩
  have nd := sc__law_add.nd
  exact (dss_one (ds_ret (de_callN G__law_ratio (takes_of rfl rfl rfl rfl) (hr.mono (by decide)) (da_cons (de_add (de_mul (de_ix (de_var 0) de_int) (de_ix (de_var 1) de_int)) (de_mul (de_ix (de_var 1) de_int) (de_ix (de_var 0) de_int))) (da_cons (de_mul (de_ix (de_var 0) de_int) (de_ix (de_var 1) de_int)) da_nil)))))
theorem ok__law_next_values (T : TX K mg) (G__law_add : Ok P w K mg base 2 "_law_add" ["_law_one", "_law_other"] sp__law_add) : Ok P w K mg base 3 "_law_next_values" ["_law_place", "_law_kernel", "_law_value"] sp__law_next_values := by
  refine Ok.imp (ok_of T.f__law_next_values sc__law_next_values (fun _ _ _ _ ⟨_, _, h, _⟩ => ln__law_next_values _ _ _ _ h) fun f cdv A outer s H E hr => ⟨rd__law_next_values, ?_, pl__law_next_values.go⟩) fun _ _ _ _ => conv_loc
  have nd := sc__law_next_values.nd
  exact (dss_cons (ds_set 3 de_newK nd)
    (dss_cons (ds_for (passes_of rfl) rfl (di_seq (de_at hr (de_var 1) (de_var 2))) (dg_tup rfl (dgs_cons (dg_name 4 nd) (dgs_cons (dg_name 5 nd) dgs_nil))) (dss_one (ds_asg (de_callN G__law_add (takes_of rfl rfl rfl rfl) (hr.mono (by decide)) (da_cons (de_getD hr (de_var 3) (de_ix (de_var 4) (de_var 0)) (de_tup (da_cons de_int (da_cons de_int da_nil)))) (da_cons (de_var 5) da_nil))) (dg_sub (W0 := W0) (de_var 3) (de_ix (de_var 4) (de_var 0)) (set_any hr) ll_put))))
    (dss_one (ds_ret (de_var 3)))))
theorem ok__law_reach (T : TX K mg) (G__law_next_values : Ok P w K mg base 3 "_law_next_values" ["_law_place", "_law_kernel", "_law_value"] sp__law_next_values) : Ok P w K mg base 4 "_law_reach" ["_law_place", "_law_kernel", "_law_start"] sp__law_reach := by
  refine Ok.imp (ok_of T.f__law_reach sc__law_reach (fun _ _ _ _ ⟨_, _, h, _⟩ => ln__law_reach _ _ _ _ h) fun f cdv A outer s H E hr => ⟨rd__law_reach, ?_, pl__law_reach.go⟩) fun _ _ _ _ => conv_loc
  have nd := sc__law_reach.nd
  exact (dss_cons (ds_asg (de_tup (da_cons (de_lstF (da_cons (de_var 2) da_nil)) (da_cons (de_lst (da_cons (de_var 2) da_nil)) da_nil))) (dg_tup rfl (dgs_cons (dg_name 3 nd) (dgs_cons (dg_name 4 nd) dgs_nil))))
    (dss_cons (ds_while (passes_of rfl) (db_cmp (lo_ne hr) ll_ne (de_var 4) (de_lstF da_nil) (nomark _)) (dss_cons (ds_setLcF dFrz fz_D 5 [("_law_other", 6)] rfl nd (di_any (de_callN G__law_next_values (takes_of rfl rfl rfl rfl) (hr.mono (by decide)) (da_cons (de_var 0) (da_cons (de_var 1) (da_cons (de_pop (de_var 4)) da_nil))))) (blkOk_by (N := N__law_reach) (sc := defScope s__law_reach) (own := [("_law_other", 6)]) (by decide +kernel)) (fun _ _ _ _ _ => (dn_name 6 nd)) (fun _ _ _ _ _ => (dbs_one (db_cmp (lo_dNotIn hr) ll_dNotIn (de_var 6) (de_var 3) (by rfl)))) (fun _ _ _ _ _ => (de_var 6)))
    (dss_cons (ds_set 3 (de_addF (de_var 3) (de_var 5)) nd)
    (dss_one (ds_set 4 (de_addO (de_var 4) (de_var 5)) nd)))))
    (dss_one (ds_ret (de_callB (cr_sortedD hr) ll_sorted (by rfl) T.n_sorted (by decide +kernel) (da_cons (de_var 3) da_nil))))))
theorem ok__law_closed (T : TX K mg) (G__law_reach : Ok P w K mg base 4 "_law_reach" ["_law_place", "_law_kernel", "_law_start"] sp__law_reach) : Ok P w K mg base 5 "_law_closed" ["_law_place", "_law_kernel"] sp__law_closed := by
  refine Ok.imp (ok_of T.f__law_closed sc__law_closed (fun _ _ _ _ ⟨_, _, h, _⟩ => ln__law_closed _ _ _ _ h) fun f cdv A outer s H E hr => ⟨rd__law_closed, ?_, pl__law_closed.go⟩) fun _ _ _ _ => conv_loc
  have nd := sc__law_closed.nd
  exact (dss_cons (ds_set 2 (de_lst da_nil) nd)
    (dss_cons (ds_for (passes_of rfl) rfl (di_seq (de_callB (cr_sortedA hr) ll_sortedA (by rfl) T.n_sorted (by decide +kernel) (da_cons (de_var 1) da_nil))) (dg_name 3 nd) (dss_cons (ds_set 4 (de_callN G__law_reach (takes_of rfl rfl rfl rfl) (hr.mono (by decide)) (da_cons (de_var 0) (da_cons (de_var 1) (da_cons (de_var 3) da_nil)))) nd)
    (dss_cons (ds_setLcF dFrz fz_D 5 [("_law_other", 6)] rfl nd (di_seq (de_var 4)) (blkOk_by (N := N__law_closed) (sc := defScope s__law_closed) (own := [("_law_other", 6)]) (by decide +kernel)) (fun _ _ _ _ _ => (dn_name 6 nd)) (fun _ _ _ _ _ => (dbs_one (db_cmp (lo_ne hr) ll_ne (de_callN G__law_reach takes0 (hr.mono (by decide)) (da_cons (de_var 0) (da_cons (de_var 1) (da_cons (de_var 6) da_nil)))) (de_var 4) (nomark _)))) (fun _ _ _ _ _ => (de_var 6)))
    (dss_one (ds_if (dbw (dw_and (db_cmp (lo_eq hr) ll_eq (de_var 5) (de_lstF da_nil) (nomark _)) (dw_and1 (db_cmp (lo_dNotIn hr) ll_dNotIn (de_var 4) (de_var 2) (by rfl))))) (dss_one (ds_expr (de_append (de_var 2) (de_var 4)))) dss_nil)))))
    (dss_one (ds_ret (de_var 2)))))
theorem ok__law_alike (T : TX K mg)  : Ok P w K mg base 1 "_law_alike" ["_law_found", "_law_due"] sp__law_alike := by
  refine ok_of T.f__law_alike sc__law_alike ln__law_alike fun f cdv A outer s H E hr => ⟨rd__law_alike, ?_, pl__law_alike⟩
  have nd := sc__law_alike.nd
  exact (dss_one (ds_ret (de_cmp (lo_eq hr) ll_eq (de_callB (call_repr T.nd hr) ll_repr (by rfl) T.n_repr (by decide +kernel) (da_cons (de_var 0) da_nil)) (de_callB (call_repr T.nd hr) ll_repr (by rfl) T.n_repr (by decide +kernel) (da_cons (de_var 1) da_nil)) (nomark _))))
theorem ok_law (T : TX K mg) (G__law_drawer_of : Ok P w K mg base 1 "_law_drawer_of" ["_law_script"] sp__law_drawer_of) (G__law_random_kernel : Ok P w K mg base 4 "_law_random_kernel" ["_law_drawing"] sp__law_random_kernel) (G_closed_classes : Ok P w K mg base 5 "closed_classes" ["place", "kernel"] sp_closed_classes) (G__law_closed : Ok P w K mg base 5 "_law_closed" ["_law_place", "_law_kernel"] sp__law_closed) (G__law_alike : Ok P w K mg base 1 "_law_alike" ["_law_found", "_law_due"] sp__law_alike) (G_reached : Ok P w K mg base 4 "reached" ["place", "kernel", "start"] sp_reached) (G__law_reach : Ok P w K mg base 4 "_law_reach" ["_law_place", "_law_kernel", "_law_start"] sp__law_reach) : Ok P w K mg base 6 "law" ["_law_script"] sp_law := by
  refine ok_of T.f_law sc_law ln_law fun f cdv A outer s H E hr => ⟨rd_law, ?_, pl_law⟩
  have nd := sc_law.nd
  exact (dss_cons (ds_set 1 (de_callN G__law_drawer_of (takes_of rfl rfl rfl rfl) (hr.mono (by decide)) (da_cons (de_var 0) da_nil)) nd)
    (dss_cons (ds_for (passes_of rfl) rfl (di_range1 (by rfl) T.n_range (da_cons de_int da_nil)) (dg_name 2 nd) (dss_cons (ds_asg (de_callN G__law_random_kernel (takes_of rfl rfl rfl rfl) (hr.mono (by decide)) (da_cons (de_var 1) da_nil)) (dg_tup rfl (dgs_cons (dg_name 3 nd) (dgs_cons (dg_name 4 nd) dgs_nil))))
    (dss_cons (ds_set 5 (de_callB (call_reprA T.nd hr) ll_reprA (by rfl) T.n_repr (by decide +kernel) (da_cons (de_var 4) da_nil)) nd)
    (dss_cons (ds_for (passes_of rfl) rfl (di_range1 (by rfl) T.n_range (da_cons de_int da_nil)) (dg_name 6 nd) (dss_cons (ds_set 7 (de_callN G_closed_classes (takes_of rfl rfl rfl rfl) (hr.mono (by decide)) (da_cons (de_var 3) (da_cons (de_var 4) da_nil))) nd)
    (dss_cons (ds_if (db_not (db_val (de_callN G__law_alike (takes_of rfl rfl rfl rfl) (hr.mono (by decide)) (da_cons (de_var 7) (da_cons (de_callN G__law_closed (takes_of rfl rfl rfl rfl) (hr.mono (by decide)) (da_cons (de_var 3) (da_cons (de_var 4) da_nil))) da_nil))))) (dss_one (ds_ret de_bl)) dss_nil)
    (dss_cons (ds_expr (de_append (de_var 7) (de_lstF da_nil)))
    (dss_one (ds_for (passes_of rfl) rfl (di_any (de_var 4)) (dg_name 8 nd) (dss_cons (ds_set 7 (de_callN G_reached (takes_of rfl rfl rfl rfl) (hr.mono (by decide)) (da_cons (de_var 3) (da_cons (de_var 4) (da_cons (de_var 8) da_nil)))) nd)
    (dss_cons (ds_if (db_not (db_val (de_callN G__law_alike (takes_of rfl rfl rfl rfl) (hr.mono (by decide)) (da_cons (de_var 7) (da_cons (de_callN G__law_reach (takes_of rfl rfl rfl rfl) (hr.mono (by decide)) (da_cons (de_var 3) (da_cons (de_var 4) (da_cons (de_var 8) da_nil)))) da_nil))))) (dss_one (ds_ret de_bl)) dss_nil)
    (dss_one (ds_expr (de_append (de_var 7) de_str)))))))))))
    (dss_one (ds_if (db_cmp (lo_ne hr) ll_ne (de_callB (call_reprA T.nd hr) ll_reprA (by rfl) T.n_repr (by decide +kernel) (da_cons (de_var 4) da_nil)) (de_var 5) (nomark _)) (dss_one (ds_ret de_bl)) dss_nil))))))
    (dss_one (ds_ret de_bl))))
theorem all (T : TX K mg) : Ok P w K mg base 6 "law" ["_law_script"] sp_law := by
  have G__law_drawer_of := ok__law_drawer_of (P := P) (w := w) (base := base) T
  have G__law_scrambled := ok__law_scrambled (P := P) (w := w) (base := base) T
  have G__law_below := ok__law_below (P := P) (w := w) (base := base) T G__law_scrambled
  have G__law_one_of := ok__law_one_of (P := P) (w := w) (base := base) T G__law_below
  have G__law_ratio := ok__law_ratio (P := P) (w := w) (base := base) T
  have G__law_random_kernel := ok__law_random_kernel (P := P) (w := w) (base := base) T G__law_one_of G__law_below G__law_ratio
  have G_reduced := ok_reduced (P := P) (w := w) (base := base) T
  have G_plus := ok_plus (P := P) (w := w) (base := base) T G_reduced
  have G_final_chances := ok_final_chances (P := P) (w := w) (base := base) T G_plus
  have G_reached := ok_reached (P := P) (w := w) (base := base) T G_final_chances
  have G_closed_classes := ok_closed_classes (P := P) (w := w) (base := base) T G_reached
  have G__law_add := ok__law_add (P := P) (w := w) (base := base) T G__law_ratio
  have G__law_next_values := ok__law_next_values (P := P) (w := w) (base := base) T G__law_add
  have G__law_reach := ok__law_reach (P := P) (w := w) (base := base) T G__law_next_values
  have G__law_closed := ok__law_closed (P := P) (w := w) (base := base) T G__law_reach
  have G__law_alike := ok__law_alike (P := P) (w := w) (base := base) T
  exact ok_law T G__law_drawer_of G__law_random_kernel G_closed_classes G__law_closed G__law_alike G_reached G__law_reach
end
theorem all_mk {l : PySem.W.OpenLaw} {w : World} {K : PySem.W.Frag} {h : Heap} {mg : Str → Option Value} {fa f0 f1 f2 f3 f4 f5 f6 f7 f8 f9 f10 f11 f12 f13 f14 f15 f16 : Addr} (X : K.In h) (G : h.Ns mainGlobals mg) (hfa : mg "law" = some (.ref fa))
    {od0 an0 od1 an1 od2 an2 od3 an3 od4 an4 od5 an5 od6 an6 od7 an7 od8 an8 od9 an9 od10 an10 od11 an11 od12 an12 od13 an13 od14 an14 od15 an15 od16 an16 : Option Addr} {sl0 sl1 sl2 sl3 sl4 sl5 sl6 sl7 sl8 sl9 sl10 sl11 sl12 sl13 sl14 sl15 sl16 : Array (Option Value)} {oc0 kV0 dc0 pm0 cd0 ct0 oc1 kV1 dc1 pm1 cd1 ct1 oc2 kV2 dc2 pm2 cd2 ct2 oc3 kV3 dc3 pm3 cd3 ct3 oc4 kV4 dc4 pm4 cd4 ct4 oc5 kV5 dc5 pm5 cd5 ct5 oc6 kV6 dc6 pm6 cd6 ct6 oc7 kV7 dc7 pm7 cd7 ct7 oc8 kV8 dc8 pm8 cd8 ct8 oc9 kV9 dc9 pm9 cd9 ct9 oc10 kV10 dc10 pm10 cd10 ct10 oc11 kV11 dc11 pm11 cd11 ct11 oc12 kV12 dc12 pm12 cd12 ct12 oc13 kV13 dc13 pm13 cd13 ct13 oc14 kV14 dc14 pm14 cd14 ct14 oc15 kV15 dc15 pm15 cd15 ct15 oc16 kV16 dc16 pm16 cd16 ct16 : Value}
    (a0 : PySem.W.nsIn K mainGlobals "_law_drawer_of" = some (some (.ref f0))) (l0 : K.lookup f0 = some ⟨oc0, od0, .func (PySem.W.fnOf "_law_drawer_of" "_law_drawer_of" (defArgs s__law_drawer_of) (defBody s__law_drawer_of) (defScope s__law_drawer_of) .none kV0 dc0 pm0 an0 cd0 ct0), sl0⟩) (c0 : PySem.W.codeIn K cd0 "_law_drawer_of" = true) (k0 : PySem.W.keepIn K (.ref f0) = true)
    (a1 : PySem.W.nsIn K mainGlobals "_law_scrambled" = some (some (.ref f1))) (l1 : K.lookup f1 = some ⟨oc1, od1, .func (PySem.W.fnOf "_law_scrambled" "_law_scrambled" (defArgs s__law_scrambled) (defBody s__law_scrambled) (defScope s__law_scrambled) .none kV1 dc1 pm1 an1 cd1 ct1), sl1⟩) (c1 : PySem.W.codeIn K cd1 "_law_scrambled" = true) (k1 : PySem.W.keepIn K (.ref f1) = true)
    (a2 : PySem.W.nsIn K mainGlobals "_law_below" = some (some (.ref f2))) (l2 : K.lookup f2 = some ⟨oc2, od2, .func (PySem.W.fnOf "_law_below" "_law_below" (defArgs s__law_below) (defBody s__law_below) (defScope s__law_below) .none kV2 dc2 pm2 an2 cd2 ct2), sl2⟩) (c2 : PySem.W.codeIn K cd2 "_law_below" = true) (k2 : PySem.W.keepIn K (.ref f2) = true)
    (a3 : PySem.W.nsIn K mainGlobals "_law_one_of" = some (some (.ref f3))) (l3 : K.lookup f3 = some ⟨oc3, od3, .func (PySem.W.fnOf "_law_one_of" "_law_one_of" (defArgs s__law_one_of) (defBody s__law_one_of) (defScope s__law_one_of) .none kV3 dc3 pm3 an3 cd3 ct3), sl3⟩) (c3 : PySem.W.codeIn K cd3 "_law_one_of" = true) (k3 : PySem.W.keepIn K (.ref f3) = true)
    (a4 : PySem.W.nsIn K mainGlobals "_law_ratio" = some (some (.ref f4))) (l4 : K.lookup f4 = some ⟨oc4, od4, .func (PySem.W.fnOf "_law_ratio" "_law_ratio" (defArgs s__law_ratio) (defBody s__law_ratio) (defScope s__law_ratio) .none kV4 dc4 pm4 an4 cd4 ct4), sl4⟩) (c4 : PySem.W.codeIn K cd4 "_law_ratio" = true) (k4 : PySem.W.keepIn K (.ref f4) = true)
    (a5 : PySem.W.nsIn K mainGlobals "_law_random_kernel" = some (some (.ref f5))) (l5 : K.lookup f5 = some ⟨oc5, od5, .func (PySem.W.fnOf "_law_random_kernel" "_law_random_kernel" (defArgs s__law_random_kernel) (defBody s__law_random_kernel) (defScope s__law_random_kernel) .none kV5 dc5 pm5 an5 cd5 ct5), sl5⟩) (c5 : PySem.W.codeIn K cd5 "_law_random_kernel" = true) (k5 : PySem.W.keepIn K (.ref f5) = true)
    (a6 : PySem.W.nsIn K mainGlobals "reduced" = some (some (.ref f6))) (l6 : K.lookup f6 = some ⟨oc6, od6, .func (PySem.W.fnOf "reduced" "reduced" (defArgs s_reduced) (defBody s_reduced) (defScope s_reduced) .none kV6 dc6 pm6 an6 cd6 ct6), sl6⟩) (c6 : PySem.W.codeIn K cd6 "reduced" = true) (k6 : PySem.W.keepIn K (.ref f6) = true)
    (a7 : PySem.W.nsIn K mainGlobals "plus" = some (some (.ref f7))) (l7 : K.lookup f7 = some ⟨oc7, od7, .func (PySem.W.fnOf "plus" "plus" (defArgs s_plus) (defBody s_plus) (defScope s_plus) .none kV7 dc7 pm7 an7 cd7 ct7), sl7⟩) (c7 : PySem.W.codeIn K cd7 "plus" = true) (k7 : PySem.W.keepIn K (.ref f7) = true)
    (a8 : PySem.W.nsIn K mainGlobals "final_chances" = some (some (.ref f8))) (l8 : K.lookup f8 = some ⟨oc8, od8, .func (PySem.W.fnOf "final_chances" "final_chances" (defArgs s_final_chances) (defBody s_final_chances) (defScope s_final_chances) .none kV8 dc8 pm8 an8 cd8 ct8), sl8⟩) (c8 : PySem.W.codeIn K cd8 "final_chances" = true) (k8 : PySem.W.keepIn K (.ref f8) = true)
    (a9 : PySem.W.nsIn K mainGlobals "reached" = some (some (.ref f9))) (l9 : K.lookup f9 = some ⟨oc9, od9, .func (PySem.W.fnOf "reached" "reached" (defArgs s_reached) (defBody s_reached) (defScope s_reached) .none kV9 dc9 pm9 an9 cd9 ct9), sl9⟩) (c9 : PySem.W.codeIn K cd9 "reached" = true) (k9 : PySem.W.keepIn K (.ref f9) = true)
    (a10 : PySem.W.nsIn K mainGlobals "closed_classes" = some (some (.ref f10))) (l10 : K.lookup f10 = some ⟨oc10, od10, .func (PySem.W.fnOf "closed_classes" "closed_classes" (defArgs s_closed_classes) (defBody s_closed_classes) (defScope s_closed_classes) .none kV10 dc10 pm10 an10 cd10 ct10), sl10⟩) (c10 : PySem.W.codeIn K cd10 "closed_classes" = true) (k10 : PySem.W.keepIn K (.ref f10) = true)
    (a11 : PySem.W.nsIn K mainGlobals "_law_add" = some (some (.ref f11))) (l11 : K.lookup f11 = some ⟨oc11, od11, .func (PySem.W.fnOf "_law_add" "_law_add" (defArgs s__law_add) (defBody s__law_add) (defScope s__law_add) .none kV11 dc11 pm11 an11 cd11 ct11), sl11⟩) (c11 : PySem.W.codeIn K cd11 "_law_add" = true) (k11 : PySem.W.keepIn K (.ref f11) = true)
    (a12 : PySem.W.nsIn K mainGlobals "_law_next_values" = some (some (.ref f12))) (l12 : K.lookup f12 = some ⟨oc12, od12, .func (PySem.W.fnOf "_law_next_values" "_law_next_values" (defArgs s__law_next_values) (defBody s__law_next_values) (defScope s__law_next_values) .none kV12 dc12 pm12 an12 cd12 ct12), sl12⟩) (c12 : PySem.W.codeIn K cd12 "_law_next_values" = true) (k12 : PySem.W.keepIn K (.ref f12) = true)
    (a13 : PySem.W.nsIn K mainGlobals "_law_reach" = some (some (.ref f13))) (l13 : K.lookup f13 = some ⟨oc13, od13, .func (PySem.W.fnOf "_law_reach" "_law_reach" (defArgs s__law_reach) (defBody s__law_reach) (defScope s__law_reach) .none kV13 dc13 pm13 an13 cd13 ct13), sl13⟩) (c13 : PySem.W.codeIn K cd13 "_law_reach" = true) (k13 : PySem.W.keepIn K (.ref f13) = true)
    (a14 : PySem.W.nsIn K mainGlobals "_law_closed" = some (some (.ref f14))) (l14 : K.lookup f14 = some ⟨oc14, od14, .func (PySem.W.fnOf "_law_closed" "_law_closed" (defArgs s__law_closed) (defBody s__law_closed) (defScope s__law_closed) .none kV14 dc14 pm14 an14 cd14 ct14), sl14⟩) (c14 : PySem.W.codeIn K cd14 "_law_closed" = true) (k14 : PySem.W.keepIn K (.ref f14) = true)
    (a15 : PySem.W.nsIn K mainGlobals "_law_alike" = some (some (.ref f15))) (l15 : K.lookup f15 = some ⟨oc15, od15, .func (PySem.W.fnOf "_law_alike" "_law_alike" (defArgs s__law_alike) (defBody s__law_alike) (defScope s__law_alike) .none kV15 dc15 pm15 an15 cd15 ct15), sl15⟩) (c15 : PySem.W.codeIn K cd15 "_law_alike" = true) (k15 : PySem.W.keepIn K (.ref f15) = true)
    (a16 : PySem.W.nsIn K mainGlobals "law" = some (some (.ref f16))) (l16 : K.lookup f16 = some ⟨oc16, od16, .func (PySem.W.fnOf "law" "law" (defArgs s_law) (defBody s_law) (defScope s_law) .none kV16 dc16 pm16 an16 cd16 ct16), sl16⟩) (c16 : PySem.W.codeIn K cd16 "law" = true) (k16 : PySem.W.keepIn K (.ref f16) = true)
    (z_abs : PySem.W.nsIn K mainGlobals "abs" = some none)
    (z_all : PySem.W.nsIn K mainGlobals "all" = some none)
    (z_enumerate : PySem.W.nsIn K mainGlobals "enumerate" = some none)
    (z_len : PySem.W.nsIn K mainGlobals "len" = some none)
    (z_max : PySem.W.nsIn K mainGlobals "max" = some none)
    (z_range : PySem.W.nsIn K mainGlobals "range" = some none)
    (z_repr : PySem.W.nsIn K mainGlobals "repr" = some none)
    (z_sorted : PySem.W.nsIn K mainGlobals "sorted" = some none)
    (z_sum : PySem.W.nsIn K mainGlobals "sum" = some none)
    (z_tuple : PySem.W.nsIn K mainGlobals "tuple" = some none)
    (q_ZERO : GCK K "ZERO" c_ZERO)
    (z_dig : PySem.W.nsIn K cStatics "sys.int_max_str_digits" = some none) :
    ∃ fd : FuncData, (∀ (s : Shared) (v : Value), BindsTo s fd ⟨[v], []⟩ [("_law_script", v)]) ∧ ∀ base : Heap, K.In base → base.Ns mainGlobals mg → FnG l.prog w K mg base 6 fa fd ["_law_script"] (dsp K sp_law) := by
  have T : TX K mg := ⟨z_dig, PySem.W.mg_none_of X G z_abs, PySem.W.mg_none_of X G z_all, PySem.W.mg_none_of X G z_enumerate, PySem.W.mg_none_of X G z_len, PySem.W.mg_none_of X G z_max, PySem.W.mg_none_of X G z_range, PySem.W.mg_none_of X G z_repr, PySem.W.mg_none_of X G z_sorted, PySem.W.mg_none_of X G z_sum, PySem.W.mg_none_of X G z_tuple, q_ZERO.of X G, ⟨f0, _, fun_mk (st := s__law_drawer_of) l0 c0 k0, PySem.W.mg_of X G a0, (fun_mk (st := s__law_drawer_of) l0 c0 k0).binds (ps := ["_law_script"]) fun _ _ _ _ _ _ us hl => match us, hl with | [_], _ => rfl⟩, ⟨f1, _, fun_mk (st := s__law_scrambled) l1 c1 k1, PySem.W.mg_of X G a1, (fun_mk (st := s__law_scrambled) l1 c1 k1).binds (ps := ["_law_number", "_law_place"]) fun _ _ _ _ _ _ us hl => match us, hl with | [_, _], _ => rfl⟩, ⟨f2, _, fun_mk (st := s__law_below) l2 c2 k2, PySem.W.mg_of X G a2, (fun_mk (st := s__law_below) l2 c2 k2).binds (ps := ["_law_drawing", "_law_bound"]) fun _ _ _ _ _ _ us hl => match us, hl with | [_, _], _ => rfl⟩, ⟨f3, _, fun_mk (st := s__law_one_of) l3 c3 k3, PySem.W.mg_of X G a3, (fun_mk (st := s__law_one_of) l3 c3 k3).binds (ps := ["_law_drawing", "_law_items"]) fun _ _ _ _ _ _ us hl => match us, hl with | [_, _], _ => rfl⟩, ⟨f4, _, fun_mk (st := s__law_ratio) l4 c4 k4, PySem.W.mg_of X G a4, (fun_mk (st := s__law_ratio) l4 c4 k4).binds (ps := ["_law_top", "_law_bottom"]) fun _ _ _ _ _ _ us hl => match us, hl with | [_, _], _ => rfl⟩, ⟨f5, _, fun_mk (st := s__law_random_kernel) l5 c5 k5, PySem.W.mg_of X G a5, (fun_mk (st := s__law_random_kernel) l5 c5 k5).binds (ps := ["_law_drawing"]) fun _ _ _ _ _ _ us hl => match us, hl with | [_], _ => rfl⟩, ⟨f6, _, fun_mk (st := s_reduced) l6 c6 k6, PySem.W.mg_of X G a6, (fun_mk (st := s_reduced) l6 c6 k6).binds (ps := ["numerator", "denominator"]) fun _ _ _ _ _ _ us hl => match us, hl with | [_, _], _ => rfl⟩, ⟨f7, _, fun_mk (st := s_plus) l7 c7 k7, PySem.W.mg_of X G a7, (fun_mk (st := s_plus) l7 c7 k7).binds (ps := ["first", "second"]) fun _ _ _ _ _ _ us hl => match us, hl with | [_, _], _ => rfl⟩, ⟨f8, _, fun_mk (st := s_final_chances) l8 c8 k8, PySem.W.mg_of X G a8, (fun_mk (st := s_final_chances) l8 c8 k8).binds (ps := ["place", "one"]) fun _ _ _ _ _ _ us hl => match us, hl with | [_, _], _ => rfl⟩, ⟨f9, _, fun_mk (st := s_reached) l9 c9 k9, PySem.W.mg_of X G a9, (fun_mk (st := s_reached) l9 c9 k9).binds (ps := ["place", "kernel", "start"]) fun _ _ _ _ _ _ us hl => match us, hl with | [_, _, _], _ => rfl⟩, ⟨f10, _, fun_mk (st := s_closed_classes) l10 c10 k10, PySem.W.mg_of X G a10, (fun_mk (st := s_closed_classes) l10 c10 k10).binds (ps := ["place", "kernel"]) fun _ _ _ _ _ _ us hl => match us, hl with | [_, _], _ => rfl⟩, ⟨f11, _, fun_mk (st := s__law_add) l11 c11 k11, PySem.W.mg_of X G a11, (fun_mk (st := s__law_add) l11 c11 k11).binds (ps := ["_law_one", "_law_other"]) fun _ _ _ _ _ _ us hl => match us, hl with | [_, _], _ => rfl⟩, ⟨f12, _, fun_mk (st := s__law_next_values) l12 c12 k12, PySem.W.mg_of X G a12, (fun_mk (st := s__law_next_values) l12 c12 k12).binds (ps := ["_law_place", "_law_kernel", "_law_value"]) fun _ _ _ _ _ _ us hl => match us, hl with | [_, _, _], _ => rfl⟩, ⟨f13, _, fun_mk (st := s__law_reach) l13 c13 k13, PySem.W.mg_of X G a13, (fun_mk (st := s__law_reach) l13 c13 k13).binds (ps := ["_law_place", "_law_kernel", "_law_start"]) fun _ _ _ _ _ _ us hl => match us, hl with | [_, _, _], _ => rfl⟩, ⟨f14, _, fun_mk (st := s__law_closed) l14 c14 k14, PySem.W.mg_of X G a14, (fun_mk (st := s__law_closed) l14 c14 k14).binds (ps := ["_law_place", "_law_kernel"]) fun _ _ _ _ _ _ us hl => match us, hl with | [_, _], _ => rfl⟩, ⟨f15, _, fun_mk (st := s__law_alike) l15 c15 k15, PySem.W.mg_of X G a15, (fun_mk (st := s__law_alike) l15 c15 k15).binds (ps := ["_law_found", "_law_due"]) fun _ _ _ _ _ _ us hl => match us, hl with | [_, _], _ => rfl⟩, ⟨f16, _, fun_mk (st := s_law) l16 c16 k16, PySem.W.mg_of X G a16, (fun_mk (st := s_law) l16 c16 k16).binds (ps := ["_law_script"]) fun _ _ _ _ _ _ us hl => match us, hl with | [_], _ => rfl⟩⟩
  have e := hfa.symm.trans (PySem.W.mg_of X G a16)
  cases e
  refine ⟨PySem.W.fnOf "law" "law" (defArgs s_law) (defBody s_law) (defScope s_law) .none kV16 dc16 pm16 an16 cd16 ct16, fun s v => .of_eq rfl, fun base _ _ => ?_⟩
  exact FnG_same (all T) (PySem.W.mg_of X G a16) l16
end Lk20
open PySem PySem.W PyProof.Rows
set_option maxHeartbeats 0 in
theorem PySem.Challenge.cw_sentback_k20_closed_classes_holds : PySem.Challenge.rw_sentback_k20_closed_classes.Holds := by
  w_on; o_law; k_head; (case hw => w_witness2)
  k_fill
  refine DL.walkG (l := PySem.Challenge.rw_sentback_k20_closed_classes) (n := 63) (k := 6) (x := "_law_script") (sp := fun w => DL.dsp _ Lk20.sp_law) rfl (by decide) rfl ⟨⟨rfl, by decide, by decide⟩, rfl⟩ (fun w h Y => PySem.W.kIn_of Y) ?F (fun _ H a ns hl hO hS => DL.law_inG Lk20.sp_in hl hS)
  case F =>
    intro w mg fa h KX G hmg
    refine' Lk20.all_mk KX G hmg ?a0 ?l0 ?c0 ?k0 ?a1 ?l1 ?c1 ?k1 ?a2 ?l2 ?c2 ?k2 ?a3 ?l3 ?c3 ?k3 ?a4 ?l4 ?c4 ?k4 ?a5 ?l5 ?c5 ?k5 ?a6 ?l6 ?c6 ?k6 ?a7 ?l7 ?c7 ?k7 ?a8 ?l8 ?c8 ?k8 ?a9 ?l9 ?c9 ?k9 ?a10 ?l10 ?c10 ?k10 ?a11 ?l11 ?c11 ?k11 ?a12 ?l12 ?c12 ?k12 ?a13 ?l13 ?c13 ?k13 ?a14 ?l14 ?c14 ?k14 ?a15 ?l15 ?c15 ?k15 ?a16 ?l16 ?c16 ?k16 ?z_abs ?z_all ?z_enumerate ?z_len ?z_max ?z_range ?z_repr ?z_sorted ?z_sum ?z_tuple ?q_ZERO ?z_dig
    (case a0 => k_is); (case l0 => k_is); (case c0 => k_is); (case k0 => k_is); (case a1 => k_is); (case l1 => k_is); (case c1 => k_is); (case k1 => k_is); (case a2 => k_is); (case l2 => k_is); (case c2 => k_is); (case k2 => k_is); (case a3 => k_is); (case l3 => k_is); (case c3 => k_is); (case k3 => k_is); (case a4 => k_is); (case l4 => k_is); (case c4 => k_is); (case k4 => k_is); (case a5 => k_is); (case l5 => k_is); (case c5 => k_is); (case k5 => k_is); (case a6 => k_is); (case l6 => k_is); (case c6 => k_is); (case k6 => k_is); (case a7 => k_is); (case l7 => k_is); (case c7 => k_is); (case k7 => k_is); (case a8 => k_is); (case l8 => k_is); (case c8 => k_is); (case k8 => k_is); (case a9 => k_is); (case l9 => k_is); (case c9 => k_is); (case k9 => k_is); (case a10 => k_is); (case l10 => k_is); (case c10 => k_is); (case k10 => k_is); (case a11 => k_is); (case l11 => k_is); (case c11 => k_is); (case k11 => k_is); (case a12 => k_is); (case l12 => k_is); (case c12 => k_is); (case k12 => k_is); (case a13 => k_is); (case l13 => k_is); (case c13 => k_is); (case k13 => k_is); (case a14 => k_is); (case l14 => k_is); (case c14 => k_is); (case k14 => k_is); (case a15 => k_is); (case l15 => k_is); (case c15 => k_is); (case k15 => k_is); (case a16 => k_is); (case l16 => k_is); (case c16 => k_is); (case k16 => k_is); (case z_abs => k_is); (case z_all => k_is); (case z_enumerate => k_is); (case z_len => k_is); (case z_max => k_is); (case z_range => k_is); (case z_repr => k_is); (case z_sorted => k_is); (case z_sum => k_is); (case z_tuple => k_is); (case z_dig => k_is)
    case q_ZERO => exact DL.GCK.tup2 (by k_is) (by k_is)
