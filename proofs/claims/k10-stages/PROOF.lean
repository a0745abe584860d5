import PyProof.Rows.All
import HandS.ForMost
import HandS.ForExc
import HandS.Defaults
import HandS.Deep
import HandS.IsInst
import HandS.Style
import HandS.Flow
import HandS.Conv
import HandS.CallSlots
import HandS.HeadHook2
import HandS.TupAny
import HandS.DictComp
import HandS.More
import HandS.RaiseMore
import HandS.Text
import KE.DataEq
import HandS.Ends
import HandS.Head0
import HandS.Head1
import HandS.Head2
import HandS.HeadEnd
import KE.KStateDown
import Lean
import PySem.Challenge.RW_pourparler_k10_stages
set_option Elab.async false
set_option linter.all false
set_option maxRecDepth 100000
set_option maxHeartbeats 4000000
section
/-! F2: a layer of plain functions over HandS: tuples are values, lists, dicts and instances stand in a list of objects, an expression is a function of the slots and the objects. -/
namespace F2
open PySem PySem.Spec PyProof.Rows L2

abbrev Frag := PySem.W.Frag
/-- a value: tuples by value (ktup: one of the written part; scr: a list that never changes, the script), a changing object by its number -/
inductive D where
  | non | bl (b : Bool) | int (i : Int) | str (x : Str) | tup (xs : List D) | ref (i : Nat) | ktup (xs : List D) | scr (xs : List D)
/-- a changing object; fro, fK, fT: locked, read alone; xd: an exception's fields -/
inductive GO where
  | lst (xs : List D) | fro (xs : List D) | dK (kvs : List (Key × D)) | dT (kvs : List (List Key × D)) | fK (kvs : List (Key × D)) | fT (kvs : List (List Key × D))
  | ins (c : Str) (fs : List (Str × D)) | xd (fs : List (Str × D))
abbrev GH := List GO
abbrev Rho := List (Option D)
def strF (x : Str) : Bool := x.cps.all (· < 0x110000) && decide (x.length ≤ 16777216)

/-- a tuple of the written part -/
def KTup (K : Frag) (a : Addr) (xs : List V) : Prop := ∃ (o : Obj) (its : Array Value) (n : Nat), K.lookup a = some o ∧ o.cls = .type "tuple" ∧ o.data = .seq its n ∧ its.size ≤ sizeLine ∧ Vals xs its.toList
/-- a list that is read alone for ever -/
def FroL (K : Frag) (H : Hp) (a : Addr) (vs : List V) : Prop := (∃ o, H a = some (.frz o (.lst vs))) ∨
  ∃ (o : Obj) (its : Array Value) (n : Nat), K.lookup a = some o ∧ o.cls = .type "list" ∧ o.dict = none ∧ o.data = .seq its n ∧ its.size ≤ sizeLine ∧ Vals vs its.toList
theorem FroL.sq {K : Frag} {H : Hp} {a : Addr} {vs : List V} (h : FroL K H a vs) : SqL K H a vs := h.elim (fun ⟨o, q⟩ => .inl (.inr ⟨o, q⟩)) .inr
mutual
def DV (K : Frag) (ι : List Addr) (H : Hp) : D → V → Prop
  | .non, v => v = .non
  | .bl b, v => v = .bl b
  | .int i, v => v = .int i
  | .str x, v => v = .str x ∧ strF x = true
  | .tup xs, v => ∃ a vs, v = .ref a ∧ H a = some (.tup vs) ∧ DVs K ι H xs vs
  | .ref i, v => ∃ a, ι[i]? = some a ∧ v = .ref a
  | .ktup xs, v => ∃ a vs, v = .ref a ∧ KTup K a vs ∧ DVs K ι H xs vs
  | .scr xs, v => ∃ a vs, v = .ref a ∧ FroL K H a vs ∧ DVs K ι H xs vs
def DVs (K : Frag) (ι : List Addr) (H : Hp) : List D → List V → Prop
  | [], vs => vs = []
  | d :: ds, vs => ∃ v r, vs = v :: r ∧ DV K ι H d v ∧ DVs K ι H ds r
end

/-- the heap grows: numbers keep their addresses, tuples stand -/
structure Ext (K : Frag) (ι : List Addr) (H : Hp) (ι' : List Addr) (H' : Hp) : Prop where
  pre : ∃ m, ι' = ι ++ m
  tup : ∀ a xs, H a = some (.tup xs) → H' a = some (.tup xs)
  frz : ∀ a o u, H a = some (.frz o u) → H' a = some (.frz o u)
theorem Ext.refl {K : Frag} {ι : List Addr} {H : Hp} : Ext K ι H ι H := ⟨⟨[], by simp⟩, fun _ _ h => h, fun _ _ _ h => h⟩
theorem Ext.trans {K : Frag} {ι ι1 ι2 : List Addr} {H H1 H2 : Hp} (a : Ext K ι H ι1 H1) (b : Ext K ι1 H1 ι2 H2) : Ext K ι H ι2 H2 := by
  obtain ⟨m, rfl⟩ := a.pre
  obtain ⟨n, rfl⟩ := b.pre
  exact ⟨⟨m ++ n, by simp⟩, fun c xs h => b.tup c xs (a.tup c xs h), fun c o u h => b.frz c o u (a.frz c o u h)⟩
theorem Ext.at {K : Frag} {ι ι' : List Addr} {H H' : Hp} (e : Ext K ι H ι' H') {i : Nat} {a : Addr} (h : ι[i]? = some a) : ι'[i]? = some a := by
  obtain ⟨m, rfl⟩ := e.pre
  rw [List.getElem?_append_left (List.getElem?_eq_some_iff.mp h).1]
  exact h
/-- .. where a dict may have been unlocked -/
structure ExtW (K : Frag) (ι : List Addr) (H : Hp) (ι' : List Addr) (H' : Hp) : Prop where
  pre : ∃ m, ι' = ι ++ m
  tup : ∀ a xs, H a = some (.tup xs) → H' a = some (.tup xs)
  frl : ∀ a o xs, H a = some (.frz o (.lst xs)) → H' a = some (.frz o (.lst xs))
theorem Ext.w {K : Frag} {ι ι' : List Addr} {H H' : Hp} (e : Ext K ι H ι' H') : ExtW K ι H ι' H' := ⟨e.pre, e.tup, fun a o xs h => e.frz a o _ h⟩
theorem ExtW.at {K : Frag} {ι ι' : List Addr} {H H' : Hp} (e : ExtW K ι H ι' H') {i : Nat} {a : Addr} (h : ι[i]? = some a) : ι'[i]? = some a := by
  obtain ⟨m, rfl⟩ := e.pre
  rw [List.getElem?_append_left (List.getElem?_eq_some_iff.mp h).1]
  exact h
mutual
theorem DV.extW {K : Frag} {ι ι' : List Addr} {H H' : Hp} (e : ExtW K ι H ι' H') : ∀ {d : D} {v : V}, DV K ι H d v → DV K ι' H' d v
  | .non, _, h => by simpa only [DV] using h
  | .bl _, _, h => by simpa only [DV] using h
  | .int _, _, h => by simpa only [DV] using h
  | .str _, _, h => by simpa only [DV] using h
  | .tup xs, _, h => by
    simp only [DV] at h ⊢
    obtain ⟨a, vs, rfl, q, r⟩ := h
    exact ⟨a, vs, rfl, e.tup _ _ q, DVs.extW e r⟩
  | .ref i, _, h => by
    simp only [DV] at h ⊢
    obtain ⟨a, q, rfl⟩ := h
    exact ⟨a, e.at q, rfl⟩
  | .ktup xs, _, h => by
    simp only [DV] at h ⊢
    obtain ⟨a, vs, rfl, q, r⟩ := h
    exact ⟨a, vs, rfl, q, DVs.extW e r⟩
  | .scr xs, _, h => by
    simp only [DV] at h ⊢
    obtain ⟨a, vs, rfl, q, r⟩ := h
    exact ⟨a, vs, rfl, q.elim (fun ⟨o, q⟩ => .inl ⟨o, e.frl _ _ _ q⟩) .inr, DVs.extW e r⟩
theorem DVs.extW {K : Frag} {ι ι' : List Addr} {H H' : Hp} (e : ExtW K ι H ι' H') : ∀ {ds : List D} {vs : List V}, DVs K ι H ds vs → DVs K ι' H' ds vs
  | [], _, h => by simpa only [DVs] using h
  | d :: ds, _, h => by
    simp only [DVs] at h ⊢
    obtain ⟨v, r, rfl, h1, h2⟩ := h
    exact ⟨v, r, rfl, DV.extW e h1, DVs.extW e h2⟩
end
theorem DV.ext {K : Frag} {ι ι' : List Addr} {H H' : Hp} (e : Ext K ι H ι' H') {d : D} {v : V} (h : DV K ι H d v) : DV K ι' H' d v := DV.extW e.w h
theorem DVs.ext {K : Frag} {ι ι' : List Addr} {H H' : Hp} (e : Ext K ι H ι' H') {ds : List D} {vs : List V} (h : DVs K ι H ds vs) : DVs K ι' H' ds vs := DVs.extW e.w h
theorem DVs.length {K : Frag} {ι : List Addr} {H : Hp} : ∀ {ds : List D} {vs : List V}, DVs K ι H ds vs → ds.length = vs.length
  | [], _, h => by simp only [DVs] at h; subst h; rfl
  | d :: ds, _, h => by
    simp only [DVs] at h
    obtain ⟨v, r, rfl, _, h2⟩ := h
    simp [DVs.length h2]
theorem DVs.cons {K : Frag} {ι : List Addr} {H : Hp} {d : D} {ds : List D} {v : V} {vs : List V} (h : DV K ι H d v) (r : DVs K ι H ds vs) : DVs K ι H (d :: ds) (v :: vs) := by
  simp only [DVs]; exact ⟨v, vs, rfl, h, r⟩
theorem DVs.nil {K : Frag} {ι : List Addr} {H : Hp} : DVs K ι H [] [] := by simp only [DVs]
theorem DVs.nil_inv {K : Frag} {ι : List Addr} {H : Hp} {vs : List V} (h : DVs K ι H [] vs) : vs = [] := by simpa only [DVs] using h
theorem DVs.cons_inv {K : Frag} {ι : List Addr} {H : Hp} {d : D} {ds : List D} {vs : List V} (h : DVs K ι H (d :: ds) vs) : ∃ v r, vs = v :: r ∧ DV K ι H d v ∧ DVs K ι H ds r := by simpa only [DVs] using h
theorem DVs.append {K : Frag} {ι : List Addr} {H : Hp} : ∀ {ds es : List D} {vs ws : List V}, DVs K ι H ds vs → DVs K ι H es ws → DVs K ι H (ds ++ es) (vs ++ ws)
  | [], _, _, _, h, r => by rw [DVs.nil_inv h]; exact r
  | d :: ds, _, _, _, h, r => by
    obtain ⟨v, q, rfl, h1, h2⟩ := h.cons_inv
    exact DVs.cons h1 (DVs.append h2 r)
theorem DVs.get {K : Frag} {ι : List Addr} {H : Hp} : ∀ {ds : List D} {vs : List V} {i : Nat} {d : D}, DVs K ι H ds vs → ds[i]? = some d → ∃ v, vs[i]? = some v ∧ DV K ι H d v
  | [], _, _, _, _, e => by simp at e
  | d :: ds, _, 0, _, h, e => by
    obtain ⟨v, q, rfl, h1, h2⟩ := h.cons_inv
    simp at e; subst e
    exact ⟨v, by simp, h1⟩
  | d :: ds, _, i + 1, _, h, e => by
    obtain ⟨v, q, rfl, h1, h2⟩ := h.cons_inv
    obtain ⟨w, e1, e2⟩ := DVs.get (i := i) h2 (by simpa using e)
    exact ⟨w, by simpa using e1, e2⟩
theorem DVs.get' {K : Frag} {ι : List Addr} {H : Hp} : ∀ {ds : List D} {vs : List V} {i : Nat} {v : V}, DVs K ι H ds vs → vs[i]? = some v → ∃ d, ds[i]? = some d ∧ DV K ι H d v
  | [], _, _, _, h, e => by rw [DVs.nil_inv h] at e; simp at e
  | d :: ds, _, 0, _, h, e => by
    obtain ⟨v, q, rfl, h1, h2⟩ := h.cons_inv
    simp at e; subst e
    exact ⟨d, by simp, h1⟩
  | d :: ds, _, i + 1, _, h, e => by
    obtain ⟨v, q, rfl, h1, h2⟩ := h.cons_inv
    obtain ⟨w, e1, e2⟩ := DVs.get' (i := i) h2 (by simpa using e)
    exact ⟨w, by simpa using e1, e2⟩
theorem DVs.take {K : Frag} {ι : List Addr} {H : Hp} : ∀ {ds : List D} {vs : List V} (n : Nat), DVs K ι H ds vs → DVs K ι H (ds.take n) (vs.take n)
  | [], _, n, h => by rw [DVs.nil_inv h]; simpa using DVs.nil
  | d :: ds, _, 0, h => by simpa using DVs.nil
  | d :: ds, _, n + 1, h => by
    obtain ⟨v, q, rfl, h1, h2⟩ := h.cons_inv
    simpa using DVs.cons h1 (DVs.take n h2)
theorem DVs.drop {K : Frag} {ι : List Addr} {H : Hp} : ∀ {ds : List D} {vs : List V} (n : Nat), DVs K ι H ds vs → DVs K ι H (ds.drop n) (vs.drop n)
  | [], _, n, h => by rw [DVs.nil_inv h]; simpa using DVs.nil
  | d :: ds, _, 0, h => by simpa using h
  | d :: ds, _, n + 1, h => by
    obtain ⟨v, q, rfl, h1, h2⟩ := h.cons_inv
    simpa using DVs.drop n h2
theorem DVs.set {K : Frag} {ι : List Addr} {H : Hp} {e : D} {w : V} (he : DV K ι H e w) : ∀ {ds : List D} {vs : List V} (n : Nat), DVs K ι H ds vs → DVs K ι H (ds.set n e) (vs.set n w)
  | [], _, n, h => by rw [DVs.nil_inv h]; simpa using DVs.nil
  | d :: ds, _, 0, h => by
    obtain ⟨v, q, rfl, h1, h2⟩ := h.cons_inv
    simpa using DVs.cons he h2
  | d :: ds, _, n + 1, h => by
    obtain ⟨v, q, rfl, h1, h2⟩ := h.cons_inv
    simpa using DVs.cons h1 (DVs.set he n h2)
theorem DVs.dropLast {K : Frag} {ι : List Addr} {H : Hp} {ds : List D} {vs : List V} (h : DVs K ι H ds vs) : DVs K ι H ds.dropLast vs.dropLast := by
  rw [List.dropLast_eq_take, List.dropLast_eq_take, h.length]
  exact h.take _
theorem DVs.eraseIdx {K : Frag} {ι : List Addr} {H : Hp} : ∀ {ds : List D} {vs : List V} (n : Nat), DVs K ι H ds vs → DVs K ι H (ds.eraseIdx n) (vs.eraseIdx n)
  | [], _, n, h => by rw [DVs.nil_inv h]; simpa using DVs.nil
  | d :: ds, _, 0, h => by
    obtain ⟨v, q, rfl, h1, h2⟩ := h.cons_inv
    simpa using h2
  | d :: ds, _, n + 1, h => by
    obtain ⟨v, q, rfl, h1, h2⟩ := h.cons_inv
    simpa using DVs.cons h1 (DVs.eraseIdx n h2)
theorem DVs.reverse {K : Frag} {ι : List Addr} {H : Hp} : ∀ {ds : List D} {vs : List V}, DVs K ι H ds vs → DVs K ι H ds.reverse vs.reverse
  | [], _, h => by rw [DVs.nil_inv h]; simpa using DVs.nil
  | d :: ds, _, h => by
    obtain ⟨v, q, rfl, h1, h2⟩ := h.cons_inv
    simpa using DVs.append (DVs.reverse h2) (DVs.cons h1 DVs.nil)

/-- what keys must be -/
class KOk (κ : Type) where
  ok : κ → Bool
def keyOk : Key → Bool
  | .inl _ => true
  | .inr x => strF x
instance : KOk Key := ⟨keyOk⟩
instance : KOk (List Key) := ⟨fun l => l.all keyOk⟩
instance : KOk Str := ⟨fun _ => true⟩
/-- pairs: the same key, related values -/
def DKs (K : Frag) (ι : List Addr) (H : Hp) {κ : Type} [KOk κ] : List (κ × D) → List (κ × V) → Prop := Paired fun p q => p.1 = q.1 ∧ DV K ι H p.2 q.2 ∧ KOk.ok p.1 = true
theorem Paired.mapQ {α β : Type} {F G : α → β → Prop} : ∀ {l₁ : List α} {l₂ : List β}, Paired F l₁ l₂ → (∀ a b, F a b → G a b) → Paired G l₁ l₂
  | _, _, .nil, _ => .nil
  | _, _, .cons r t, f => .cons (f _ _ r) (Paired.mapQ t f)
theorem DKs.extW {K : Frag} {ι ι' : List Addr} {H H' : Hp} (e : ExtW K ι H ι' H') {κ : Type} [KOk κ] {a : List (κ × D)} {b : List (κ × V)} (h : DKs K ι H a b) : DKs K ι' H' a b :=
  Paired.mapQ h fun _ _ q => ⟨q.1, q.2.1.extW e, q.2.2⟩
theorem DKs.ext {K : Frag} {ι ι' : List Addr} {H H' : Hp} (e : Ext K ι H ι' H') {κ : Type} [KOk κ] {a : List (κ × D)} {b : List (κ × V)} (h : DKs K ι H a b) : DKs K ι' H' a b := DKs.extW e.w h

/-- what stands at a number -/
def ObjR (K : Frag) (ι : List Addr) (H : Hp) (a : Addr) : GO → Prop
  | .lst xs => ∃ vs, H a = some (.lst vs) ∧ DVs K ι H xs vs
  | .fro xs => ∃ o vs, H a = some (.frz o (.lst vs)) ∧ DVs K ι H xs vs
  | .dK kvs => ∃ vs, H a = some (.dK vs) ∧ DKs K ι H kvs vs
  | .dT kvs => ∃ vs, H a = some (.dT vs) ∧ DKs K ι H kvs vs
  | .fK kvs => ∃ o vs, H a = some (.frz o (.dK vs)) ∧ DKs K ι H kvs vs
  | .fT kvs => ∃ o vs, H a = some (.frz o (.dT vs)) ∧ DKs K ι H kvs vs
  | .ins c fs => ∃ dx vs, H a = some (.ins (He.ga K c) dx vs) ∧ DKs K ι H fs vs
  | .xd fs => ∃ vs, H a = some (.xd vs) ∧ DKs K ι H fs vs
structure Rz (K : Frag) (ι : List Addr) (H : Hp) (G : GH) : Prop where
  len : ι.length = G.length
  nd : ∀ (i j : Nat) (a : Addr), ι[i]? = some a → ι[j]? = some a → i = j
  at_ : ∀ (i : Nat) (a : Addr) (o : GO), ι[i]? = some a → G[i]? = some o → ObjR K ι H a o
theorem Rz.get {K : Frag} {ι : List Addr} {H : Hp} {G : GH} (r : Rz K ι H G) {i : Nat} {o : GO} (h : G[i]? = some o) : ∃ a, ι[i]? = some a ∧ ObjR K ι H a o := by
  have hl := (List.getElem?_eq_some_iff.mp h).1
  have hi : i < ι.length := by rw [r.len]; exact hl
  exact ⟨ι[i], by simp [hi], r.at_ i _ o (by simp [hi]) h⟩
theorem ObjR.isThere {K : Frag} {ι : List Addr} {H : Hp} {a : Addr} {o : GO} (r : ObjR K ι H a o) : ∃ u, H a = some u ∧ ∀ xs, u ≠ .tup xs := by
  cases o with
  | lst xs => obtain ⟨vs, q, r⟩ := r; exact ⟨_, q, fun _ h => nomatch h⟩
  | fro xs => obtain ⟨o, vs, q, r⟩ := r; exact ⟨_, q, fun _ h => nomatch h⟩
  | dK xs => obtain ⟨vs, q, r⟩ := r; exact ⟨_, q, fun _ h => nomatch h⟩
  | dT xs => obtain ⟨vs, q, r⟩ := r; exact ⟨_, q, fun _ h => nomatch h⟩
  | fK xs => obtain ⟨o, vs, q, r⟩ := r; exact ⟨_, q, fun _ h => nomatch h⟩
  | fT xs => obtain ⟨o, vs, q, r⟩ := r; exact ⟨_, q, fun _ h => nomatch h⟩
  | ins c fs => obtain ⟨dx, vs, q, r⟩ := r; exact ⟨_, q, fun _ h => nomatch h⟩
  | xd fs => obtain ⟨vs, q, r⟩ := r; exact ⟨_, q, fun _ h => nomatch h⟩
theorem Rz.there {K : Frag} {ι : List Addr} {H : Hp} {G : GH} (r : Rz K ι H G) {i : Nat} {a : Addr} (h : ι[i]? = some a) : ∃ u, H a = some u ∧ ∀ xs, u ≠ .tup xs := by
  have hl := (List.getElem?_eq_some_iff.mp h).1
  have hg : i < G.length := by rw [← r.len]; exact hl
  exact (r.at_ i a G[i] h (by simp [hg])).isThere
/-- an object stands where the heap keeps its place -/
theorem ObjR.keepW {K : Frag} {ι ι' : List Addr} {H H' : Hp} {a : Addr} {o : GO} (r : ObjR K ι H a o) (e : ExtW K ι H ι' H') (k : ∀ z, H a = some z → H' a = some z) : ObjR K ι' H' a o := by
  cases o with
  | lst xs => obtain ⟨vs, q, r⟩ := r; exact ⟨vs, k _ q, r.extW e⟩
  | fro xs => obtain ⟨o, vs, q, r⟩ := r; exact ⟨o, vs, k _ q, r.extW e⟩
  | dK xs => obtain ⟨vs, q, r⟩ := r; exact ⟨vs, k _ q, r.extW e⟩
  | dT xs => obtain ⟨vs, q, r⟩ := r; exact ⟨vs, k _ q, r.extW e⟩
  | fK xs => obtain ⟨o, vs, q, r⟩ := r; exact ⟨o, vs, k _ q, r.extW e⟩
  | fT xs => obtain ⟨o, vs, q, r⟩ := r; exact ⟨o, vs, k _ q, r.extW e⟩
  | ins c fs => obtain ⟨dx, vs, q, r⟩ := r; exact ⟨dx, vs, k _ q, r.extW e⟩
  | xd fs => obtain ⟨vs, q, r⟩ := r; exact ⟨vs, k _ q, r.extW e⟩
theorem ObjR.keep {K : Frag} {ι ι' : List Addr} {H H' : Hp} {a : Addr} {o : GO} (r : ObjR K ι H a o) (e : Ext K ι H ι' H') (k : ∀ z, H a = some z → H' a = some z) : ObjR K ι' H' a o := r.keepW e.w k
/-- a tuple, of either kind -/
def asTup : D → Option (List D)
  | .tup xs => some xs
  | .ktup xs => some xs
  | _ => none
theorem asTup_dv {K : Frag} {ι : List Addr} {H : Hp} {d : D} {xs : List D} {v : V} (e : asTup d = some xs) (h : DV K ι H d v) : ∃ a vs, v = .ref a ∧ SqT K H a vs ∧ DVs K ι H xs vs := by
  cases d with
  | tup ys =>
    cases e
    simp only [DV] at h
    obtain ⟨a, vs, rfl, q, r⟩ := h
    exact ⟨a, vs, rfl, SqT.of q, r⟩
  | ktup ys =>
    cases e
    simp only [DV] at h
    obtain ⟨a, vs, rfl, q, r⟩ := h
    exact ⟨a, vs, rfl, .inr q, r⟩
  | _ => cases e
/-- an object that may be rewritten: not a tuple, not locked -/
def Wr (u : HO) : Prop := (∀ xs, u ≠ .tup xs) ∧ ∀ o x, u ≠ .frz o x
theorem Ext.wr {K : Frag} {ι : List Addr} {H : Hp} {b : Addr} {o : HO} {m : List Addr} (hn : ∀ u, H b = some u → Wr u) : Ext K ι H (ι ++ m) (upd H b o) :=
  ⟨⟨m, rfl⟩, fun a xs h => by rw [L2.upd_ne (fun e => by subst e; exact (hn _ h).1 _ rfl)]; exact h, fun a ob u h => by rw [L2.upd_ne (fun e => by subst e; exact (hn _ h).2 _ _ rfl)]; exact h⟩
theorem Ext.wr0 {K : Frag} {ι : List Addr} {H : Hp} {b : Addr} {o : HO} (hn : ∀ u, H b = some u → Wr u) : Ext K ι H ι (upd H b o) := by
  have := Ext.wr (K := K) (ι := ι) (m := []) (o := o) hn
  rwa [List.append_nil] at this
/-- a new object beside -/
theorem Rz.side {K : Frag} {ι : List Addr} {H : Hp} {G : GH} (r : Rz K ι H G) {p : Addr} {o : HO} (hp : H p = none) : Ext K ι H ι (upd H p o) ∧ Rz K ι (upd H p o) G := by
  have e : Ext K ι H ι (upd H p o) := Ext.wr0 fun u h => by rw [hp] at h; cases h
  exact ⟨e, r.len, r.nd, fun i a u h1 h2 => (r.at_ i a u h1 h2).keep e fun z q => by rw [L2.upd_ne (fun w => by subst w; rw [hp] at q; cases q)]; exact q⟩
/-- .. that becomes the next number -/
theorem Rz.new {K : Frag} {ι : List Addr} {H : Hp} {G : GH} (r : Rz K ι H G) {p : Addr} {u : HO} {o : GO} (hp : H p = none) (ho : Ext K ι H (ι ++ [p]) (upd H p u) → ObjR K (ι ++ [p]) (upd H p u) p o) :
    Ext K ι H (ι ++ [p]) (upd H p u) ∧ Rz K (ι ++ [p]) (upd H p u) (G ++ [o]) ∧ (ι ++ [p])[G.length]? = some p := by
  have e : Ext K ι H (ι ++ [p]) (upd H p u) := Ext.wr fun u h => by rw [hp] at h; cases h
  have hlast : (ι ++ [p])[G.length]? = some p := by rw [← r.len]; simp
  have old : ∀ (i : Nat), i < ι.length → (ι ++ [p])[i]? ≠ some p := by
    intro i hi h
    rw [List.getElem?_append_left hi] at h
    obtain ⟨u, q, _⟩ := r.there h
    rw [hp] at q; cases q
  refine ⟨e, ⟨by simp [r.len], fun i j a hi hj => ?_, fun i a z hi hz => ?_⟩, hlast⟩
  · have li : i < ι.length + 1 := by have := (List.getElem?_eq_some_iff.mp hi).1; simpa using this
    have lj : j < ι.length + 1 := by have := (List.getElem?_eq_some_iff.mp hj).1; simpa using this
    by_cases h1 : i < ι.length
    · by_cases h2 : j < ι.length
      · rw [List.getElem?_append_left h1] at hi
        rw [List.getElem?_append_left h2] at hj
        exact r.nd i j a hi hj
      · have ej : j = ι.length := by omega
        have ea : a = p := by rw [ej] at hj; simpa using hj.symm
        subst ea
        exact absurd hi (old i h1)
    · have ei : i = ι.length := by omega
      have ea : a = p := by rw [ei] at hi; simpa using hi.symm
      subst ea
      by_cases h2 : j < ι.length
      · exact absurd hj (old j h2)
      · omega
  · by_cases h1 : i < ι.length
    · rw [List.getElem?_append_left h1] at hi
      rw [List.getElem?_append_left (by rw [← r.len]; exact h1)] at hz
      exact (r.at_ i a z hi hz).keep e fun z q => by rw [L2.upd_ne (fun w => by subst w; rw [hp] at q; cases q)]; exact q
    · have li : i < ι.length + 1 := by have := (List.getElem?_eq_some_iff.mp hi).1; simpa using this
      have ei : i = ι.length := by omega
      subst ei
      have ea : a = p := by simpa using hi.symm
      have ez : z = o := by rw [r.len] at hz; simpa using hz.symm
      subst ea
      subst ez
      exact ho e
/-- an object of ours is rewritten -/
theorem Rz.write {K : Frag} {ι : List Addr} {H : Hp} {G : GH} (r : Rz K ι H G) {i : Nat} {a : Addr} {w u : HO} {o o' : GO} (hi : ι[i]? = some a) (ho : G[i]? = some o) (hw : H a = some w) (wr : Wr w)
    (hu : Ext K ι H ι (upd H a u) → ObjR K ι (upd H a u) a o') : Ext K ι H ι (upd H a u) ∧ Rz K ι (upd H a u) (G.set i o') := by
  have e : Ext K ι H ι (upd H a u) := Ext.wr0 fun z h => by rw [hw] at h; cases h; exact wr
  have hil : i < G.length := (List.getElem?_eq_some_iff.mp ho).1
  refine ⟨e, by simp [r.len], r.nd, fun j b z hj hz => ?_⟩
  by_cases hji : j = i
  · subst hji
    rw [hi] at hj
    cases hj
    rw [List.getElem?_set_self hil] at hz
    cases hz
    exact hu e
  · rw [List.getElem?_set_ne (Ne.symm hji)] at hz
    exact (r.at_ j b z hj hz).keep e fun y q => by rw [L2.upd_ne (fun w => by subst w; exact hji (r.nd _ _ _ hj hi))]; exact q
end F2
end
section
namespace F2
open PySem PySem.Spec PyProof.Rows L2

/-! ### results -/
/-- of an expression: a value and the objects behind it; an exception (its class's name, the number of its fields); no answer -/
inductive R (α : Type) where
  | ok (a : α) (G : GH) | er (c : Str) (j : Nat) (G : GH) | st
def R.bind {α β : Type} (r : R α) (k : α → GH → R β) : R β := match r with
  | .ok a G => k a G
  | .er c j G => .er c j G
  | .st => .st
@[simp] theorem R.bind_ok {α β : Type} (a : α) (G : GH) (k : α → GH → R β) : (R.ok a G).bind k = k a G := rfl
@[simp] theorem R.bind_er {α β : Type} (c : Str) (j : Nat) (G : GH) (k : α → GH → R β) : (R.er c j G).bind k = .er c j G := rfl
@[simp] theorem R.bind_st {α β : Type} (k : α → GH → R β) : (R.st : R α).bind k = .st := rfl
/-- of a statement -/
inductive RS where
  | nx (ρ : Rho) (G : GH) | rt (d : D) (G : GH) | bk (ρ : Rho) (G : GH) | ct (ρ : Rho) (G : GH) | er (c : Str) (j : Nat) (ρ : Rho) (G : GH) | st
def R.toS {α : Type} (r : R α) (ρ : Rho) (k : α → GH → RS) : RS := match r with
  | .ok a G => k a G
  | .er c j G => .er c j ρ G
  | .st => .st
@[simp] theorem R.toS_ok {α : Type} (a : α) (G : GH) (ρ : Rho) (k : α → GH → RS) : (R.ok a G).toS ρ k = k a G := rfl
@[simp] theorem R.toS_er {α : Type} (c : Str) (j : Nat) (G : GH) (ρ : Rho) (k : α → GH → RS) : (R.er c j G : R α).toS ρ k = .er c j ρ G := rfl
@[simp] theorem R.toS_st {α : Type} (ρ : Rho) (k : α → GH → RS) : (R.st : R α).toS ρ k = .st := rfl
abbrev FE := Rho → GH → R D
abbrev FT := Rho → GH → R Bool
abbrev FA := Rho → GH → R (List D)
abbrev FS := Rho → GH → RS

/-! ### the configuration -/
structure EnvR (K : Frag) (ι : List Addr) (H : Hp) (ρ : Rho) (σ : L2.St) : Prop where
  len : ρ.length = σ.length
  at_ : ∀ (i : Nat) (d : D), ρ[i]? = some (some d) → ∃ v, σ[i]? = some (some v) ∧ DV K ι H d v
/-- the exception at hand (in an except suite): its slot, its address, its fields' address and number -/
abbrev XA := Option (Nat × Addr × Addr × Nat)
def XaR (xa : XA) (ι : List Addr) (σ : L2.St) : Prop := match xa with
  | none => True
  | some (i, a, dd, j) => σ[i]? = some (some (.ref a)) ∧ ι[j]? = some dd
def XaNo (xa : XA) (i : Nat) : Prop := match xa with
  | none => True
  | some (k, _) => k ≠ i
structure Cfg (K : Frag) (xa : XA) (ι : List Addr) (H : Hp) (ρ : Rho) (σ : L2.St) (G : GH) : Prop where
  env : EnvR K ι H ρ σ
  rz : Rz K ι H G
  xr : XaR xa ι σ
theorem EnvR.ext {K : Frag} {ι ι' : List Addr} {H H' : Hp} {ρ : Rho} {σ : L2.St} (e : EnvR K ι H ρ σ) (x : Ext K ι H ι' H') : EnvR K ι' H' ρ σ :=
  ⟨e.len, fun i d h => let ⟨v, h1, h2⟩ := e.at_ i d h; ⟨v, h1, h2.ext x⟩⟩
theorem XaR.ext {xa : XA} {K : Frag} {ι ι' : List Addr} {H H' : Hp} {σ : L2.St} (h : XaR xa ι σ) (x : Ext K ι H ι' H') : XaR xa ι' σ := by
  cases xa with
  | none => trivial
  | some p => obtain ⟨i, a, dd, j⟩ := p; exact ⟨h.1, x.at h.2⟩
theorem Cfg.ext {K : Frag} {xa : XA} {ι ι' : List Addr} {H H' : Hp} {ρ : Rho} {σ : L2.St} {G G' : GH} (c : Cfg K xa ι H ρ σ G) (x : Ext K ι H ι' H') (r : Rz K ι' H' G') : Cfg K xa ι' H' ρ σ G' :=
  ⟨c.env.ext x, r, c.xr.ext x⟩
theorem EnvR.set {K : Frag} {ι : List Addr} {H : Hp} {ρ : Rho} {σ : L2.St} {i : Nat} {d : D} {v : V} (e : EnvR K ι H ρ σ) (h : DV K ι H d v) : EnvR K ι H (ρ.set i (some d)) (σ.set i (some v)) := by
  refine ⟨by simp [e.len], fun j x q => ?_⟩
  by_cases hj : i = j
  · subst hj
    have hl : i < ρ.length := by have := (List.getElem?_eq_some_iff.mp q).1; simpa using this
    rw [List.getElem?_set_self hl] at q
    cases q
    exact ⟨v, by rw [List.getElem?_set_self (by rw [← e.len]; exact hl)], h⟩
  · rw [List.getElem?_set_ne hj] at q ⊢
    exact e.at_ j x q
theorem XaR.set {xa : XA} {ι : List Addr} {σ : L2.St} {i : Nat} {v : Option V} (h : XaR xa ι σ) (hn : XaNo xa i) : XaR xa ι (σ.set i v) := by
  cases xa with
  | none => trivial
  | some p =>
    obtain ⟨k, a, dd, j⟩ := p
    have hn' : k ≠ i := hn
    exact ⟨by rw [List.getElem?_set_ne (Ne.symm hn')]; exact h.1, h.2⟩
theorem Cfg.set {K : Frag} {xa : XA} {ι : List Addr} {H : Hp} {ρ : Rho} {σ : L2.St} {G : GH} {i : Nat} {d : D} {v : V} (c : Cfg K xa ι H ρ σ G) (h : DV K ι H d v) (hn : XaNo xa i) : Cfg K xa ι H (ρ.set i (some d)) (σ.set i (some v)) G :=
  ⟨c.env.set h, c.rz, c.xr.set hn⟩

/-! ### what a result promises -/
def Post {α β : Type} (K : Frag) (W : WX) (σ : L2.St) (ι : List Addr) (H : Hp) (rel : List Addr → Hp → α → β → Prop) (r : R α) (Q : β → Hp → Prop) : Prop := match r with
  | .ok a G => ∀ ι' H' v, Ext K ι H ι' H' → Rz K ι' H' G → rel ι' H' a v → Q v H'
  | .er c j G => ∀ ι' H' d, Ext K ι H ι' H' → Rz K ι' H' G → ι'[j]? = some d → W (.ref (He.ga K c)) (some d) σ H'
  | .st => False
theorem Post.shift {α β : Type} {K : Frag} {W : WX} {σ : L2.St} {ι ι1 : List Addr} {H H1 : Hp} {rel : List Addr → Hp → α → β → Prop} {r : R α} {Q : β → Hp → Prop} (p : Post K W σ ι H rel r Q) (x : Ext K ι H ι1 H1) : Post K W σ ι1 H1 rel r Q := by
  cases r with
  | ok a G => exact fun ι' H' v e => p ι' H' v (x.trans e)
  | er c j G => exact fun ι' H' d e => p ι' H' d (x.trans e)
  | st => exact p
theorem Post.mono {α β : Type} {K : Frag} {W : WX} {σ : L2.St} {ι : List Addr} {H : Hp} {rel : List Addr → Hp → α → β → Prop} {r : R α} {Q Q' : β → Hp → Prop} (p : Post K W σ ι H rel r Q) (h : ∀ v H', Q v H' → Q' v H') : Post K W σ ι H rel r Q' := by
  cases r with
  | ok a G => exact fun ι' H' v e r q => h _ _ (p ι' H' v e r q)
  | er c j G => exact p
  | st => exact p
theorem Post.bind {α α' β β' : Type} {K : Frag} {W : WX} {σ : L2.St} {ι : List Addr} {H : Hp} {rel : List Addr → Hp → α → β → Prop} {rel' : List Addr → Hp → α' → β' → Prop} {r : R α} {k : α → GH → R α'} {Q : β' → Hp → Prop} (p : Post K W σ ι H rel' (r.bind k) Q) :
    Post K W σ ι H rel r (fun v H1 => ∃ ι1 a G1, Ext K ι H ι1 H1 ∧ Rz K ι1 H1 G1 ∧ rel ι1 H1 a v ∧ Post K W σ ι1 H1 rel' (k a G1) Q) := by
  cases r with
  | ok a G => exact fun ι' H' v e r q => ⟨ι', a, G, e, r, q, Post.shift (show Post K W σ ι H rel' (k a G) Q from p) e⟩
  | er c j G => exact p
  | st => exact p
theorem Post.ok {α β : Type} {K : Frag} {W : WX} {σ : L2.St} {ι ι' : List Addr} {H H' : Hp} {rel : List Addr → Hp → α → β → Prop} {a : α} {G : GH} {Q : β → Hp → Prop} {v : β} (p : Post K W σ ι H rel (.ok a G) Q) (e : Ext K ι H ι' H') (r : Rz K ι' H' G) (q : rel ι' H' a v) : Q v H' := p ι' H' v e r q
abbrev PostE (K : Frag) (W : WX) (σ : L2.St) (ι : List Addr) (H : Hp) (r : R D) (Q : VK) : Prop := Post K W σ ι H (DV K) r Q
abbrev PostT (K : Frag) (W : WX) (σ : L2.St) (ι : List Addr) (H : Hp) (r : R Bool) (Q : Bool → Hp → Prop) : Prop := Post K W σ ι H (fun _ _ a v => v = a) r Q
abbrev PostA (K : Frag) (W : WX) (σ : L2.St) (ι : List Addr) (H : Hp) (r : R (List D)) (Q : List V → Hp → Prop) : Prop := Post K W σ ι H (DVs K) r Q
def PostS (K : Frag) (xa : XA) (W : WX) (σ₀ : L2.St) (ι : List Addr) (H : Hp) (r : RS) (N : Ends) : Prop := match r with
  | .nx ρ G => ∀ ι' H' σ', Ext K ι H ι' H' → Cfg K xa ι' H' ρ σ' G → N.nx σ' H'
  | .bk ρ G => ∀ ι' H' σ', Ext K ι H ι' H' → Cfg K xa ι' H' ρ σ' G → N.bk σ' H'
  | .ct ρ G => ∀ ι' H' σ', Ext K ι H ι' H' → Cfg K xa ι' H' ρ σ' G → N.ct σ' H'
  | .rt d G => ∀ ι' H' v, Ext K ι H ι' H' → Rz K ι' H' G → DV K ι' H' d v → N.rt v H'
  | .er c j ρ G => ∀ ι' H' σ' d, Ext K ι H ι' H' → Cfg K xa ι' H' ρ σ' G → ι'[j]? = some d → W (.ref (He.ga K c)) (some d) σ' H'
  | .st => False
theorem PostS.shift {K : Frag} {xa : XA} {W : WX} {σ : L2.St} {ι ι1 : List Addr} {H H1 : Hp} {r : RS} {N : Ends} (p : PostS K xa W σ ι H r N) (x : Ext K ι H ι1 H1) : PostS K xa W σ ι1 H1 r N := by
  cases r with
  | nx ρ G => exact fun ι' H' v e => p ι' H' v (x.trans e)
  | bk ρ G => exact fun ι' H' v e => p ι' H' v (x.trans e)
  | ct ρ G => exact fun ι' H' v e => p ι' H' v (x.trans e)
  | rt d G => exact fun ι' H' v e => p ι' H' v (x.trans e)
  | er c j ρ G => exact fun ι' H' σ' d e => p ι' H' σ' d (x.trans e)
  | st => exact p
/-- an expression's result, then a statement's -/
theorem PostS.bind {α β : Type} {K : Frag} {xa : XA} {W : WX} {ι : List Addr} {H : Hp} {ρ : Rho} {σ : L2.St} {G : GH} {rel : List Addr → Hp → α → β → Prop} {r : R α} {k : α → GH → RS} {N : Ends} (c : Cfg K xa ι H ρ σ G) (p : PostS K xa W σ ι H (r.toS ρ k) N) :
    Post K W σ ι H rel r (fun v H1 => ∃ ι1 a G1, Ext K ι H ι1 H1 ∧ Cfg K xa ι1 H1 ρ σ G1 ∧ rel ι1 H1 a v ∧ PostS K xa W σ ι1 H1 (k a G1) N) := by
  cases r with
  | ok a G => exact fun ι' H' v e r q => ⟨ι', a, G, e, c.ext e r, q, PostS.shift (show PostS K xa W σ ι H (k a G) N from p) e⟩
  | er cc j G => exact fun ι' H' d e r q => (show PostS K xa W σ ι H (.er cc j ρ G) N from p) ι' H' σ d e (c.ext e r) q
  | st => exact p

/-! ### readings and judgements -/
def tE (K : Frag) (xa : XA) (W : WX) (f : FE) : TE := fun σ H Q => ∃ ι ρ G, Cfg K xa ι H ρ σ G ∧ PostE K W σ ι H (f ρ G) Q
def tT (K : Frag) (xa : XA) (W : WX) (f : FT) : TT := fun σ H Q => ∃ ι ρ G, Cfg K xa ι H ρ σ G ∧ PostT K W σ ι H (f ρ G) Q
def tA (K : Frag) (xa : XA) (W : WX) (f : FA) : TA := fun σ H Q => ∃ ι ρ G, Cfg K xa ι H ρ σ G ∧ PostA K W σ ι H (f ρ G) Q
def tS (K : Frag) (xa : XA) (W : WX) (f : FS) : TS := fun N σ H => ∃ ι ρ G, Cfg K xa ι H ρ σ G ∧ PostS K xa W σ ι H (f ρ G) N
def DE (X : Cx) (xa : XA) (W : WX) (e : Expr) (f : FE) : Prop := PE X e (tE X.K xa W f)
def DT (X : Cx) (xa : XA) (W : WX) (e : Expr) (f : FT) : Prop := PT X e (tT X.K xa W f)
def DW (X : Cx) (xa : XA) (W : WX) (e : Expr) (f : FT) : Prop := PW X e (tT X.K xa W f)
def DA (X : Cx) (xa : XA) (W : WX) (es : List Expr) (f : FA) : Prop := PA X es (tA X.K xa W f)
def DS (X : Cx) (xa : XA) (W : WX) (st : Stmt) (f : FS) : Prop := PS X st (tS X.K xa W f)
def DSs (X : Cx) (xa : XA) (W : WX) (st : List Stmt) (f : FS) : Prop := PSs X st (tS X.K xa W f)
theorem PEm {X : Cx} {e : Expr} {t u : TE} (h : PE X e t) (m : ∀ σ H Q, u σ H Q → t σ H Q) : PE X e u := ⟨fun pins s σ H Q I q => h.run pins s σ H Q I (m _ _ _ q)⟩
theorem PTm {X : Cx} {e : Expr} {t u : TT} (h : PT X e t) (m : ∀ σ H Q, u σ H Q → t σ H Q) : PT X e u := ⟨fun pins s σ H Q I q => h.run pins s σ H Q I (m _ _ _ q)⟩
theorem PWm {X : Cx} {e : Expr} {t u : TT} (h : PW X e t) (m : ∀ σ H Q, u σ H Q → t σ H Q) : PW X e u := ⟨fun w pins s σ H Q I q => h.run w pins s σ H Q I (m _ _ _ q)⟩
theorem PAm {X : Cx} {e : List Expr} {t u : TA} (h : PA X e t) (m : ∀ σ H Q, u σ H Q → t σ H Q) : PA X e u := ⟨fun p pins s σ H Q I q => h.run p pins s σ H Q I (m _ _ _ q)⟩
theorem PSm {X : Cx} {e : Stmt} {t u : TS} (h : PS X e t) (m : ∀ N σ H, u N σ H → t N σ H) : PS X e u := ⟨fun pins s σ H N I q => h.run pins s σ H N I (m _ _ _ q)⟩
theorem PSsm {X : Cx} {e : List Stmt} {t u : TS} (h : PSs X e t) (m : ∀ N σ H, u N σ H → t N σ H) : PSs X e u := ⟨fun pins s σ H N I q => h.run pins s σ H N I (m _ _ _ q)⟩

/-! ### operations by values -/
/-- the operation g on the values, by the rule r -/
def Op2 (K : Frag) (g : D → D → GH → R D) (r : R2) : Prop :=
  ∀ (W : WX) (σ : L2.St) (ι : List Addr) (H : Hp) (G : GH) (x y : D) (v u : V) (Q : VK), Rz K ι H G → DV K ι H x v → DV K ι H y u → PostE K W σ ι H (g x y G) Q → r v u H Q
def f2 (g : D → D → GH → R D) (f h : FE) : FE := fun ρ G => (f ρ G).bind fun x G1 => (h ρ G1).bind fun y G2 => g x y G2
def f1 (g : D → GH → R D) (f : FE) : FE := fun ρ G => (f ρ G).bind fun x G1 => g x G1
section
variable {X : Cx} {xa : XA} {W : WX} {a b : Expr} {f h : FE} {pos : Pos}
theorem tE_op {K : Frag} {g : D → D → GH → R D} {r : R2} (ho : Op2 K g r) (σ : L2.St) (H : Hp) (Q : VK) (q : tE K xa W (f2 g f h) σ H Q) : tOp r (tE K xa W f) (tE K xa W h) σ H Q := by
  obtain ⟨ι, ρ, G, c, p⟩ := q
  refine ⟨ι, ρ, G, c, (Post.bind (rel := DV K) p).mono fun v H1 ⟨ι1, x, G1, e1, r1, d1, p1⟩ => ?_⟩
  refine ⟨ι1, ρ, G1, c.ext e1 r1, (Post.bind (rel := DV K) p1).mono fun u H2 ⟨ι2, y, G2, e2, r2, d2, p2⟩ => ?_⟩
  exact ho W σ ι2 H2 G2 x y v u Q r2 (d1.ext e2) d2 p2
theorem de_bin {op : Operator} {g : D → D → GH → R D} {r : R2} (hr : OpR X (binaryOp op) r) (ho : Op2 X.K g r) (ha : DE X xa W a f) (hb : DE X xa W b h) : DE X xa W (.BinOp a op b pos) (f2 g f h) :=
  PEm (pe_op hr ha hb) (tE_op ho)
theorem de_cmp {op : CmpOp} {g : D → D → GH → R D} {r : R2} (hr : OpR X (compareOp op) r) (ho : Op2 X.K g r) (ha : DE X xa W a f) (hb : DE X xa W b h) (hm : behindInMarks op b = false) : DE X xa W (.Compare a [op] [b] pos) (f2 g f h) :=
  PEm (pe_cmpR hr ha hb hm) (tE_op ho)
/-- a test of an expression's bool -/
def fB (f : FE) : FT := fun ρ G => (f ρ G).bind fun x G1 => match x with
  | .bl b => .ok b G1
  | _ => .st
theorem tT_b {K : Frag} {t : TE} (m : ∀ σ H Q, tE K xa W f σ H Q → t σ H Q) (σ : L2.St) (H : Hp) (Q : Bool → Hp → Prop) (q : tT K xa W (fB f) σ H Q) : t σ H (fun x H' => ∃ k, x = .bl k ∧ Q k H') := by
  obtain ⟨ι, ρ, G, c, p⟩ := q
  refine m _ _ _ ⟨ι, ρ, G, c, (Post.bind (rel := DV K) p).mono fun v H1 ⟨ι1, x, G1, e1, r1, d1, p1⟩ => ?_⟩
  cases x with
  | bl b =>
    simp only [DV] at d1
    exact ⟨b, d1, p1.ok Ext.refl r1 rfl⟩
  | _ => exact False.elim p1
theorem dt_cmp {op : CmpOp} {g : D → D → GH → R D} {r : R2} (hr : OpR X (compareOp op) r) (ho : Op2 X.K g r) (ha : DE X xa W a f) (hb : DE X xa W b h) (hm : behindInMarks op b = false) : DT X xa W (.Compare a [op] [b] pos) (fB (f2 g f h)) :=
  PTm (pt_cmpR hr ha hb hm) fun σ H Q q => tT_b (fun _ _ _ z => tE_op ho _ _ _ z) σ H Q q
end

/-! ### names, constants -/
def fV (i : Nat) : FE := fun ρ G => match ρ[i]? with
  | some (some d) => .ok d G
  | _ => .st
def fC (d : D) : FE := fun _ G => .ok d G
section
variable {X : Cx} {xa : XA} {W : WX}
theorem de_var (i : Nat) {x : Str} {pos : Pos} (hN : X.N[i]? = some x := by rfl) (hv : Vis X.env.scope x := by first | exact Or.inl rfl | exact Or.inr (Or.inl rfl) | exact Or.inr (Or.inr rfl)) (hd : (x == ("__debug__" : Str)) = false := by decide)
    (hcd : (x == ("__classdict__" : Str)) = false := by decide) : DE X xa W (.Name x pos) (fV i) := by
  refine PEm (pe_var hN hv hd hcd) fun σ H Q ⟨ι, ρ, G, c, p⟩ => ?_
  unfold fV at p
  cases e : ρ[i]? with
  | none => rw [e] at p; exact False.elim p
  | some o =>
    rw [e] at p
    cases o with
    | none => exact False.elim p
    | some d =>
      obtain ⟨v, h1, h2⟩ := c.env.at_ i d e
      exact ⟨v, h1, p.ok Ext.refl c.rz h2⟩
theorem de_int {i j pos} : DE X xa W (.Constant (.int i) j pos) (fC (.int i)) := PEm pe_int fun σ H Q ⟨ι, ρ, G, c, p⟩ => p.ok Ext.refl c.rz (by simp only [DV])
theorem de_bl {i j pos} : DE X xa W (.Constant (.bool i) j pos) (fC (.bl i)) := PEm pe_bl fun σ H Q ⟨ι, ρ, G, c, p⟩ => p.ok Ext.refl c.rz (by simp only [DV])
theorem de_non {j pos} : DE X xa W (.Constant .none j pos) (fC .non) := PEm pe_non fun σ H Q ⟨ι, ρ, G, c, p⟩ => p.ok Ext.refl c.rz (by simp only [DV])
theorem de_str {x j pos} (h : strF x = true := by decide +kernel) : DE X xa W (.Constant (.str x) j pos) (fC (.str x)) := PEm pe_str fun σ H Q ⟨ι, ρ, G, c, p⟩ => p.ok Ext.refl c.rz (by simp only [DV]; exact ⟨trivial, h⟩)
/-- a module's constant: an int, a text -/
theorem de_gint {x : Str} {i : Int} {pos : Pos} (hg : Gl X x) (hm : ∃ t, X.mg x = some (.int i t)) (hd : (x == ("__debug__" : Str)) = false := by decide) : DE X xa W (.Name x pos) (fC (.int i)) := by
  obtain ⟨t, hm⟩ := hm
  exact PEm (pe_glob hg hm (v := .int i) ⟨t, rfl⟩ hd) fun σ H Q ⟨ι, ρ, G, c, p⟩ => p.ok Ext.refl c.rz (by simp only [DV])
/-- a module's tuple of plain things -/
def atomV : D → Option V
  | .non => some .non
  | .bl b => some (.bl b)
  | .int i => some (.int i)
  | .str x => if strF x = true then some (.str x) else none
  | _ => none
theorem atomV_dv {K : Frag} {ι : List Addr} {H : Hp} {d : D} {v : V} (h : atomV d = some v) : DV K ι H d v := by
  cases d with
  | non => simp only [atomV, Option.some.injEq] at h; subst h; simp only [DV]
  | bl b => simp only [atomV, Option.some.injEq] at h; subst h; simp only [DV]
  | int i => simp only [atomV, Option.some.injEq] at h; subst h; simp only [DV]
  | str x =>
    have h' : (if strF x = true then some (V.str x) else none) = some v := h
    by_cases hx : strF x = true
    · rw [if_pos hx] at h'; cases h'; simp only [DV]; exact ⟨trivial, hx⟩
    · rw [if_neg hx] at h'; cases h'
  | _ => cases h
def atomsV : List D → Option (List V)
  | [] => some []
  | d :: ds => match atomV d, atomsV ds with
    | some v, some vs => some (v :: vs)
    | _, _ => none
theorem atomsV_dv {K : Frag} {ι : List Addr} {H : Hp} : ∀ {ds : List D} {vs : List V}, atomsV ds = some vs → DVs K ι H ds vs
  | [], _, h => by cases h; exact DVs.nil
  | d :: ds, _, h => by
    unfold atomsV at h
    split at h
    · cases h
      rename_i e1 e2
      exact DVs.cons (atomV_dv e1) (atomsV_dv e2)
    · cases h
theorem de_gtup {x : Str} {ds : List D} {vs : List V} {pos : Pos} (hg : Gl X x) (hm : X.mg x = some (.ref (He.ga X.K x))) (ht : KTup X.K (He.ga X.K x) vs) (hd : atomsV ds = some vs) (hdb : (x == ("__debug__" : Str)) = false := by decide) : DE X xa W (.Name x pos) (fC (.ktup ds)) :=
  PEm (pe_glob hg hm (v := .ref (He.ga X.K x)) rfl hdb) fun σ H Q ⟨ι, ρ, G, c, p⟩ => p.ok Ext.refl c.rz (by simp only [DV]; exact ⟨_, vs, rfl, ht, atomsV_dv hd⟩)
end

/-! ### argument lists, displays -/
def fA0 : FA := fun _ G => .ok [] G
def fAc (f : FE) (g : FA) : FA := fun ρ G => (f ρ G).bind fun x G1 => (g ρ G1).bind fun xs G2 => .ok (x :: xs) G2
def fTup (g : FA) : FE := fun ρ G => (g ρ G).bind fun xs G1 => if xs.length ≤ 16777216 then .ok (.tup xs) G1 else .st
def fLst (g : FA) : FE := fun ρ G => (g ρ G).bind fun xs G1 => if xs.length ≤ 16777216 then .ok (.ref G1.length) (G1 ++ [.lst xs]) else .st
theorem szl : sizeLine = 16777216 := sizeLine_eq
section
variable {X : Cx} {xa : XA} {W : WX} {e : Expr} {es : List Expr} {f : FE} {g : FA} {pos : Pos}
theorem da_nil : DA X xa W [] fA0 := PAm pa_nil fun σ H Q ⟨ι, ρ, G, c, p⟩ => p.ok Ext.refl c.rz DVs.nil
theorem da_cons (he : DE X xa W e f) (hr : DA X xa W es g) (hs : starEach (e :: es) X.env = (false, eval e X.env) :: starEach es X.env := by rfl) : DA X xa W (e :: es) (fAc f g) := by
  refine PAm (pa_cons he hr hs) fun σ H Q ⟨ι, ρ, G, c, p⟩ => ?_
  refine ⟨ι, ρ, G, c, (Post.bind (rel := DV X.K) p).mono fun v H1 ⟨ι1, x, G1, e1, r1, d1, p1⟩ => ?_⟩
  refine ⟨ι1, ρ, G1, c.ext e1 r1, (Post.bind (rel := DVs X.K) p1).mono fun u H2 ⟨ι2, y, G2, e2, r2, d2, p2⟩ => ?_⟩
  exact p2.ok Ext.refl r2 (DVs.cons (d1.ext e2) d2)
theorem de_tup {x1} (h : DA X xa W es g) : DE X xa W (.Tuple es x1 pos) (fTup g) := by
  refine PEm (pe_tup h) fun σ H Q ⟨ι, ρ, G, c, p⟩ => ?_
  refine ⟨ι, ρ, G, c, (Post.bind (rel := DVs X.K) p).mono fun vs H1 ⟨ι1, xs, G1, e1, r1, d1, p1⟩ => ?_⟩
  by_cases hl : xs.length ≤ 16777216
  · rw [if_pos hl] at p1
    refine ⟨by rw [← d1.length, szl]; exact hl, fun q hq => ?_⟩
    obtain ⟨e2, r2⟩ := r1.side (o := .tup vs) hq
    exact p1.ok e2 r2 (by simp only [DV]; exact ⟨q, vs, rfl, upd_same, d1.ext e2⟩)
  · rw [if_neg hl] at p1
    exact False.elim p1
theorem de_lst (h : DA X xa W es g) : DE X xa W (.List es pos) (fLst g) := by
  refine PEm (pe_lst h) fun σ H Q ⟨ι, ρ, G, c, p⟩ => ?_
  refine ⟨ι, ρ, G, c, (Post.bind (rel := DVs X.K) p).mono fun vs H1 ⟨ι1, xs, G1, e1, r1, d1, p1⟩ => ?_⟩
  by_cases hl : xs.length ≤ 16777216
  · rw [if_pos hl] at p1
    refine ⟨by rw [← d1.length, szl]; exact hl, fun q hq => ?_⟩
    obtain ⟨e2, r2, hat⟩ := r1.new (u := .lst vs) (o := .lst xs) hq fun e => ⟨vs, upd_same, d1.ext e⟩
    exact p1.ok e2 r2 (by simp only [DV]; exact ⟨q, hat, rfl⟩)
  · rw [if_neg hl] at p1
    exact False.elim p1
end
end F2
end
section
namespace F2
open PySem PySem.Spec PyProof.Rows L2

/-! ### data as a whole: what == reads -/
def pys (f : D → Option PyData) : List D → Option (List PyData)
  | [] => some []
  | d :: ds => match f d, pys f ds with
    | some p, some ps => some (p :: ps)
    | _, _ => none
def py (G : GH) : Nat → D → Option PyData
  | 0, _ => none
  | _ + 1, .non => some .none
  | _ + 1, .bl b => some (.bool b)
  | _ + 1, .int i => some (.int i)
  | _ + 1, .str x => some (.str x)
  | n + 1, .tup xs => (pys (py G n) xs).map .tuple
  | n + 1, .ktup xs => (pys (py G n) xs).map .tuple
  | n + 1, .scr xs => (pys (py G n) xs).map .list
  | n + 1, .ref i => match G[i]? with
    | some (.lst xs) => (pys (py G n) xs).map .list
    | some (.fro xs) => (pys (py G n) xs).map .list
    | _ => none
structure PyOk (K : Frag) (H : Hp) (n : Nat) (v : V) (p : PyData) : Prop where
  dp : Dp K H v p
  lay : p.canLay0 = true
  dep : p.depth ≤ n
structure PysOk (K : Frag) (H : Hp) (n : Nat) (vs : List V) (ps : List PyData) : Prop where
  dp : DpAll K H vs ps
  lay : PyData.canLayAll0 ps = true
  dep : PyData.depthAll ps ≤ n
theorem pys_ok {K : Frag} {ι : List Addr} {H : Hp} {n : Nat} {f : D → Option PyData} (hf : ∀ d v p, f d = some p → DV K ι H d v → PyOk K H n v p) : ∀ {ds : List D} {vs : List V} {ps : List PyData}, pys f ds = some ps → DVs K ι H ds vs → PysOk K H n vs ps
  | [], _, _, e, h => by
    cases e
    rw [DVs.nil_inv h]
    exact ⟨.nil, by simp [PyData.canLayAll0], by simp [PyData.depthAll]⟩
  | d :: ds, _, _, e, h => by
    obtain ⟨v, r, rfl, h1, h2⟩ := h.cons_inv
    unfold pys at e
    split at e
    · rename_i p ps e1 e2
      cases e
      have a := hf _ _ _ e1 h1
      have b := pys_ok hf e2 h2
      refine ⟨.cons a.dp b.dp, ?_, ?_⟩
      · simp only [PyData.canLayAll0, a.lay, b.lay, Bool.and_self]
      · simp only [PyData.depthAll]
        have := a.dep
        have := b.dep
        omega
    · cases e
theorem py_ok {K : Frag} {ι : List Addr} {H : Hp} {G : GH} (r : Rz K ι H G) : ∀ (n : Nat) (d : D) (v : V) (p : PyData), py G n d = some p → DV K ι H d v → PyOk K H n v p
  | 0, _, _, _, e, _ => by simp [py] at e
  | n + 1, d, v, p, e, h => by
    have ih := fun d v p e h => py_ok r n d v p e h
    have tupC : ∀ xs a vs, (pys (py G n) xs).map PyData.tuple = some p → SqT K H a vs → DVs K ι H xs vs → PyOk K H (n + 1) (.ref a) p := fun xs a vs e q h => by
      obtain ⟨ps, e1, rfl⟩ := Option.map_eq_some_iff.mp e
      have z := pys_ok ih e1 h
      exact ⟨.tup q z.dp, by simpa [PyData.canLay0] using z.lay, by simp only [PyData.depth]; have := z.dep; omega⟩
    have lstC : ∀ xs a vs, (pys (py G n) xs).map PyData.list = some p → SqL K H a vs → DVs K ι H xs vs → PyOk K H (n + 1) (.ref a) p := fun xs a vs e q h => by
      obtain ⟨ps, e1, rfl⟩ := Option.map_eq_some_iff.mp e
      have z := pys_ok ih e1 h
      exact ⟨.lst q z.dp, by simpa [PyData.canLay0] using z.lay, by simp only [PyData.depth]; have := z.dep; omega⟩
    cases d with
    | non => simp only [py, Option.some.injEq] at e; simp only [DV] at h; subst e; subst h; exact ⟨.non, by simp [PyData.canLay0], by simp [PyData.depth]⟩
    | bl b => simp only [py, Option.some.injEq] at e; simp only [DV] at h; subst e; subst h; exact ⟨.bl b, by simp [PyData.canLay0], by simp [PyData.depth]⟩
    | int i => simp only [py, Option.some.injEq] at e; simp only [DV] at h; subst e; subst h; exact ⟨.int i, by simp [PyData.canLay0], by simp [PyData.depth]⟩
    | str x =>
      simp only [py, Option.some.injEq] at e
      simp only [DV] at h
      obtain ⟨rfl, hx⟩ := h
      subst e
      refine ⟨.str x, ?_, by simp [PyData.depth]⟩
      unfold strF at hx
      rw [Bool.and_eq_true] at hx
      have h1 := hx.1
      simp only [PyData.canLay0]
      exact h1
    | tup xs =>
      simp only [py] at e
      simp only [DV] at h
      obtain ⟨a, vs, rfl, q, h⟩ := h
      exact tupC xs a vs e (SqT.of q) h
    | ktup xs =>
      simp only [py] at e
      simp only [DV] at h
      obtain ⟨a, vs, rfl, q, h⟩ := h
      exact tupC xs a vs e (.inr q) h
    | scr xs =>
      simp only [py] at e
      simp only [DV] at h
      obtain ⟨a, vs, rfl, q, h⟩ := h
      exact lstC xs a vs e q.sq h
    | ref i =>
      simp only [DV] at h
      obtain ⟨a, hi, rfl⟩ := h
      simp only [py] at e
      cases g : G[i]? with
      | none => rw [g] at e; cases e
      | some o =>
        rw [g] at e
        have w := r.at_ i a o hi g
        cases o with
        | lst xs => obtain ⟨vs, q, h⟩ := w; exact lstC xs a vs e (SqL.of q) h
        | fro xs => obtain ⟨o, vs, q, h⟩ := w; exact lstC xs a vs e (.inl (.inr ⟨o, q⟩)) h
        | _ => cases e
theorem PyOk.shaped {K : Frag} {H : Hp} {v : V} {p : PyData} (h : PyOk K H 64 v p) : SeqAt.shaped p = true := by
  unfold SeqAt.shaped
  rw [Bool.and_eq_true]
  exact ⟨h.lay, decide_eq_true h.dep⟩

/-! ### arithmetic -/
def gAdd (x y : D) (G : GH) : R D := match x, y with
  | .int i, .int j => .ok (.int (i + j)) G
  | .str a, .str b => if a.length + b.length ≤ 16777216 then .ok (.str (a ++ b)) G else .st
  | .tup a, .tup b => if a.length + b.length ≤ 16777216 then .ok (.tup (a ++ b)) G else .st
  | .ref i, .ref j => match G[i]?, G[j]? with
    | some (.lst a), some (.lst b) => if a.length + b.length ≤ 16777216 then .ok (.ref G.length) (G ++ [.lst (a ++ b)]) else .st
    | _, _ => .st
  | _, _ => .st
def rAddD (K : Frag) : R2 := fun x y H Q => rI0 (fun i j => .int (i + j)) x y H Q ∨ (∃ i j, x = .str i ∧ y = .str j ∧ i.length + j.length ≤ sizeLine ∧ Q (.str (i ++ j)) H) ∨ rCatA K x y H Q ∨ rCat x y H Q
theorem opr_add {X : Cx} : OpR X (binaryOp .Add) (rAddD X.K) := op_add.or (op_add_str.or (op_catA.or op_cat))
theorem strF_append {a b : Str} (ha : strF a = true) (hb : strF b = true) (h : a.length + b.length ≤ 16777216) : strF (a ++ b) = true := by
  unfold strF at ha hb ⊢
  rw [Bool.and_eq_true] at ha hb ⊢
  obtain ⟨a1, a2⟩ := ha
  obtain ⟨b1, b2⟩ := hb
  have e : (a ++ b).cps = a.cps ++ b.cps := rfl
  refine ⟨?_, decide_eq_true ?_⟩
  · rw [e, Array.all_append, a1, b1]; rfl
  · show (a ++ b).cps.size ≤ _
    rw [e, Array.size_append]
    exact h
theorem o2_add {K : Frag} : Op2 K gAdd (rAddD K) := by
  intro W σ ι H G x y v u Q r hx hy p
  unfold gAdd at p
  split at p
  · simp only [DV] at hx hy
    exact .inl ⟨_, _, hx, hy, p.ok Ext.refl r (by simp only [DV])⟩
  · rename_i a b
    simp only [DV] at hx hy
    split at p
    · rename_i hl
      exact .inr (.inl ⟨_, _, hx.1, hy.1, by rw [szl]; exact hl, p.ok Ext.refl r (by simp only [DV]; exact ⟨trivial, strF_append hx.2 hy.2 hl⟩)⟩)
    · exact False.elim p
  · rename_i a b
    simp only [DV] at hx hy
    obtain ⟨p1, vs, rfl, q1, h1⟩ := hx
    obtain ⟨p2, ws, rfl, q2, h2⟩ := hy
    split at p
    · rename_i hl
      refine .inr (.inr (.inl ⟨p1, p2, vs, ws, rfl, rfl, SqT.of q1, SqT.of q2, by rw [szl, ← h1.length, ← h2.length]; exact hl, fun e => ?_, fun e1 e2 => ?_, fun e1 e2 q hq => ?_⟩))
      · subst e
        have e : a = [] := by have := h1.length; simpa using this
        subst e
        exact p.ok Ext.refl r (by simp only [DV]; exact ⟨p2, ws, rfl, q2, by simpa using h2⟩)
      · subst e2
        have e : b = [] := by have := h2.length; simpa using this
        subst e
        exact p.ok Ext.refl r (by simp only [DV]; exact ⟨p1, vs, rfl, q1, by simpa using h1⟩)
      · obtain ⟨e2, r2⟩ := r.side (o := .tup (vs ++ ws)) hq
        exact p.ok e2 r2 (by simp only [DV]; exact ⟨q, _, rfl, upd_same, (h1.append h2).ext e2⟩)
    · exact False.elim p
  · rename_i i j
    simp only [DV] at hx hy
    obtain ⟨p1, k1, rfl⟩ := hx
    obtain ⟨p2, k2, rfl⟩ := hy
    split at p
    · rename_i a b g1 g2
      obtain ⟨vs, q1, h1⟩ := r.at_ _ _ _ k1 g1
      obtain ⟨ws, q2, h2⟩ := r.at_ _ _ _ k2 g2
      split at p
      · rename_i hl
        refine .inr (.inr (.inr ⟨p1, p2, vs, ws, rfl, rfl, q1, q2, by rw [szl, ← h1.length, ← h2.length]; exact hl, fun q hq => ?_⟩))
        obtain ⟨e2, r2, hat⟩ := r.new (u := .lst (vs ++ ws)) (o := .lst (a ++ b)) hq fun e => ⟨_, upd_same, (h1.append h2).ext e⟩
        exact p.ok e2 r2 (by simp only [DV]; exact ⟨q, hat, rfl⟩)
      · exact False.elim p
    · exact False.elim p
  · exact False.elim p
def gI (C : Int → Int → Bool) (g : Int → Int → D) (x y : D) (G : GH) : R D := match x, y with
  | .int i, .int j => if C i j = true then .ok (g i j) G else .st
  | _, _ => .st
def gI0 (g : Int → Int → D) (x y : D) (G : GH) : R D := match x, y with
  | .int i, .int j => .ok (g i j) G
  | _, _ => .st
theorem o2_I {K : Frag} {C : Int → Int → Bool} {C' : Int → Int → Prop} {g : Int → Int → D} {g' : Int → Int → V} (hC : ∀ i j, C i j = true → C' i j) (hg : ∀ ι H i j, DV K ι H (g i j) (g' i j)) : Op2 K (gI C g) (rI C' g') := by
  intro W σ ι H G x y v u Q r hx hy p
  unfold gI at p
  split at p
  · simp only [DV] at hx hy
    split at p
    · rename_i hc
      exact ⟨_, _, hx, hy, hC _ _ hc, p.ok Ext.refl r (hg _ _ _ _)⟩
    · exact False.elim p
  · exact False.elim p
theorem o2_I0 {K : Frag} {g : Int → Int → D} {g' : Int → Int → V} (hg : ∀ ι H i j, DV K ι H (g i j) (g' i j)) : Op2 K (gI0 g) (rI0 g') := by
  intro W σ ι H G x y v u Q r hx hy p
  unfold gI0 at p
  split at p
  · simp only [DV] at hx hy
    exact ⟨_, _, hx, hy, p.ok Ext.refl r (hg _ _ _ _)⟩
  · exact False.elim p
def gSub : D → D → GH → R D := gI0 fun i j => .int (i - j)
def gMul : D → D → GH → R D := gI (fun i j => decide ((-(2 ^ 64) < i ∧ i < 2 ^ 64) ∨ (-(2 ^ 64) < j ∧ j < 2 ^ 64))) fun i j => .int (i * j)
def gDiv : D → D → GH → R D := gI (fun i j => decide (0 < j ∧ j < 1073741824)) fun i j => .int (i / j)
def gMod : D → D → GH → R D := gI (fun i j => decide (0 < j)) fun i j => .int (i % j)
section
variable {X : Cx} {xa : XA} {W : WX} {a b : Expr} {f h : FE} {pos : Pos}
theorem de_add (ha : DE X xa W a f) (hb : DE X xa W b h) : DE X xa W (.BinOp a .Add b pos) (f2 gAdd f h) := de_bin opr_add o2_add ha hb
theorem de_sub (ha : DE X xa W a f) (hb : DE X xa W b h) : DE X xa W (.BinOp a .Sub b pos) (f2 gSub f h) := de_bin op_sub (o2_I0 fun _ _ _ _ => by simp only [DV]) ha hb
theorem de_mul (ha : DE X xa W a f) (hb : DE X xa W b h) : DE X xa W (.BinOp a .Mult b pos) (f2 gMul f h) := de_bin op_mul (o2_I (C' := CMul) (fun i j q => show CMul i j from (of_decide_eq_true q : (-(2 ^ 64) < i ∧ i < 2 ^ 64) ∨ (-(2 ^ 64) < j ∧ j < 2 ^ 64))) fun _ _ _ _ => by simp only [DV]) ha hb
theorem de_div (ha : DE X xa W a f) (hb : DE X xa W b h) : DE X xa W (.BinOp a .FloorDiv b pos) (f2 gDiv f h) := de_bin op_fdiv (o2_I (C' := CDiv) (fun i j q => show CDiv i j from (of_decide_eq_true q : 0 < j ∧ j < 1073741824)) fun _ _ _ _ => by simp only [DV]) ha hb
theorem de_mod (ha : DE X xa W a f) (hb : DE X xa W b h) : DE X xa W (.BinOp a .Mod b pos) (f2 gMod f h) := de_bin op_mod (o2_I (fun _ _ q => of_decide_eq_true q) fun _ _ _ _ => by simp only [DV]) ha hb
end
/-- -x -/
def gNeg (x : D) (G : GH) : R D := match x with
  | .int i => .ok (.int (-i)) G
  | _ => .st
theorem tE_un {K : Frag} {xa : XA} {W : WX} {f : FE} {g : D → GH → R D} {r : V → Hp → VK → Prop} (ho : ∀ (W : WX) (σ : L2.St) (ι : List Addr) (H : Hp) (G : GH) (x : D) (v : V) (Q : VK), Rz K ι H G → DV K ι H x v → PostE K W σ ι H (g x G) Q → r v H Q)
    (σ : L2.St) (H : Hp) (Q : VK) (q : tE K xa W (f1 g f) σ H Q) : tE K xa W f σ H fun v H1 => r v H1 Q := by
  obtain ⟨ι, ρ, G, c, p⟩ := q
  exact ⟨ι, ρ, G, c, (Post.bind (rel := DV K) p).mono fun v H1 ⟨ι1, x, G1, e1, r1, d1, p1⟩ => ho W σ ι1 H1 G1 x v Q r1 d1 p1⟩
theorem de_neg {X : Cx} {xa : XA} {W : WX} {a : Expr} {f : FE} {pos : Pos} (ha : DE X xa W a f) : DE X xa W (.UnaryOp .USub a pos) (f1 gNeg f) := by
  refine PEm (pe_un un_neg ha) (tE_un fun W σ ι H G x v Q r d p => ?_)
  unfold gNeg at p
  split at p
  · simp only [DV] at d
    exact ⟨_, d, p.ok Ext.refl r (by simp only [DV])⟩
  · exact False.elim p

/-! ### comparisons -/
def gLt (x y : D) (G : GH) : R D := match x, y with
  | .int i, .int j => .ok (.bl (decide (i < j))) G
  | .str i, .str j => .ok (.bl (decide (i.cps.toList < j.cps.toList))) G
  | _, _ => .st
def gLe (x y : D) (G : GH) : R D := match x, y with
  | .int i, .int j => .ok (.bl (decide (i ≤ j))) G
  | .str i, .str j => .ok (.bl (!decide (j.cps.toList < i.cps.toList))) G
  | _, _ => .st
def gGt (x y : D) (G : GH) : R D := match x, y with
  | .int i, .int j => .ok (.bl (decide (j < i))) G
  | _, _ => .st
def gGe (x y : D) (G : GH) : R D := match x, y with
  | .int i, .int j => .ok (.bl (decide (j ≤ i))) G
  | _, _ => .st
def rLtD : R2 := fun x y H Q => rI0 (fun i j => .bl (decide (i < j))) x y H Q ∨ ∃ i j, x = .str i ∧ y = .str j ∧ Q (.bl (decide (i.cps.toList < j.cps.toList))) H
def rLeD : R2 := fun x y H Q => rI0 (fun i j => .bl (decide (i ≤ j))) x y H Q ∨ ∃ i j, x = .str i ∧ y = .str j ∧ Q (.bl (!decide (j.cps.toList < i.cps.toList))) H
theorem opr_lt {X : Cx} : OpR X (compareOp .Lt) rLtD := op_lt.or op_lt_str
theorem opr_le {X : Cx} : OpR X (compareOp .LtE) rLeD := op_le.or op_le_str
theorem o2_lt {K : Frag} : Op2 K gLt rLtD := by
  intro W σ ι H G x y v u Q r hx hy p
  unfold gLt at p
  split at p
  · simp only [DV] at hx hy
    exact .inl ⟨_, _, hx, hy, p.ok Ext.refl r (by simp only [DV])⟩
  · simp only [DV] at hx hy
    exact .inr ⟨_, _, hx.1, hy.1, p.ok Ext.refl r (by simp only [DV])⟩
  · exact False.elim p
theorem o2_le {K : Frag} : Op2 K gLe rLeD := by
  intro W σ ι H G x y v u Q r hx hy p
  unfold gLe at p
  split at p
  · simp only [DV] at hx hy
    exact .inl ⟨_, _, hx, hy, p.ok Ext.refl r (by simp only [DV])⟩
  · simp only [DV] at hx hy
    exact .inr ⟨_, _, hx.1, hy.1, p.ok Ext.refl r (by simp only [DV])⟩
  · exact False.elim p
theorem o2_gt {K : Frag} : Op2 K gGt (rI0 fun i j => .bl (decide (j < i))) := by
  intro W σ ι H G x y v u Q r hx hy p
  unfold gGt at p
  split at p
  · simp only [DV] at hx hy
    exact ⟨_, _, hx, hy, p.ok Ext.refl r (by simp only [DV])⟩
  · exact False.elim p
theorem o2_ge {K : Frag} : Op2 K gGe (rI0 fun i j => .bl (decide (j ≤ i))) := by
  intro W σ ι H G x y v u Q r hx hy p
  unfold gGe at p
  split at p
  · simp only [DV] at hx hy
    exact ⟨_, _, hx, hy, p.ok Ext.refl r (by simp only [DV])⟩
  · exact False.elim p
/-- dicts: keys and values -/
def valD {κ : Type} [DecidableEq κ] (kvs : List (κ × D)) (k : κ) : Option D := (kvs.find? fun kv => decide (kv.1 = k)).map (·.2)
theorem DKs.val {K : Frag} {ι : List Addr} {H : Hp} {κ : Type} [KOk κ] [DecidableEq κ] {k : κ} : ∀ {ks : List (κ × D)} {vs : List (κ × V)}, DKs K ι H ks vs → match valD ks k with
    | none => valV vs k = none
    | some d => ∃ v, valV vs k = some v ∧ DV K ι H d v
  | _, _, .nil => by simp [valD, valV]
  | p :: ks, q :: vs, .cons ⟨h1, h2, h3⟩ t => by
    have ih := DKs.val (k := k) t
    by_cases e : p.1 = k
    · have e1 : valD (p :: ks) k = some p.2 := by simp [valD, List.find?_cons, e]
      have e2 : valV (q :: vs) k = some q.2 := valV_pos (by rw [← h1]; exact e)
      rw [e1]
      exact ⟨q.2, e2, h2⟩
    · have e1 : valD (p :: ks) k = valD ks k := by simp [valD, List.find?_cons, e]
      have e2 : valV (q :: vs) k = valV vs k := valV_neg (by rw [← h1]; exact e)
      rw [e1, e2]
      exact ih
theorem DKs.length {K : Frag} {ι : List Addr} {H : Hp} {κ : Type} [KOk κ] {ks : List (κ × D)} {vs : List (κ × V)} (h : DKs K ι H ks vs) : ks.length = vs.length := Paired.length h
def flatSame : D → D → Bool
  | .non, .non => true
  | .bl a, .bl b => a == b
  | .int a, .int b => decide (a = b)
  | .str a, .str b => decide (a = b)
  | _, _ => false
/-- dicts key by key -/
def hitB (G : GH) (ls : List (Key × D)) : List (Key × D) → Option Bool
  | [] => some true
  | p :: ps => match valD ls p.1 with
    | none => some false
    | some d => match py G 64 p.2, py G 64 d, hitB G ls ps with
      | some x, some y, some r => some (PyData.eqv x y && r)
      | _, _, _ => none
def sameDict (ks ls : List (Key × D)) : Bool := decide (ks.length = ls.length) && ks.all fun p => match valD ls p.1 with
  | some d => flatSame p.2 d
  | none => false
def eqDeep (x y : D) (G : GH) : Option Bool := match py G 64 x, py G 64 y with
  | some p, some q => some (PyData.eqv p q)
  | _, _ => none
/-- ==: the answer, where there is one -/
def eqB (x y : D) (G : GH) : Option Bool := match x, y with
  | .int i, .int j => some (decide (i = j))
  | .str i, .str j => some (decide (i = j))
  | .bl i, .bl j => some (decide (i = j))
  | .ref i, .ref j => match G[i]?, G[j]? with
    | some (.dK ks), some (.dK ls) => if ks.length = ls.length then hitB G ls ks else some false
    | _, _ => eqDeep (.ref i) (.ref j) G
  | x, y => eqDeep x y G
def ofB (o : Option Bool) (G : GH) : R D := match o with
  | some b => .ok (.bl b) G
  | none => .st
def gEq (x y : D) (G : GH) : R D := ofB (eqB x y G) G
def gNe (x y : D) (G : GH) : R D := ofB ((eqB x y G).map not) G
/-- two dicts, key by key -/
def DHits (K : Frag) (H : Hp) (ls : List (Key × V)) : List (Key × V) → Bool → Prop
  | [], b => b = true
  | p :: ps, b => (valV ls p.1 = none ∧ b = false) ∨ ∃ v d e r, valV ls p.1 = some v ∧ Dp K H p.2 d ∧ Dp K H v e ∧ d.canLay0 = true ∧ e.canLay0 = true ∧ d.depth ≤ 64 ∧ DHits K H ls ps r ∧ b = (PyData.eqv d e && r)
def rDX (K : Frag) (neg : Bool) : R2 := fun x y H Q => ∃ a c ks ls b, x = .ref a ∧ y = .ref c ∧ H a = some (.dK ks) ∧ H c = some (.dK ls) ∧ (ks.length = ls.length → DHits K H ls ks b) ∧ (ks.length ≠ ls.length → b = false) ∧ Q (.bl (if neg = true then !b else b)) H
theorem hits_dx {X : Cx} {pins : List (Addr × Obj)} {σ : L2.St} {H : Hp} {s : Shared} {A : Around} (I : Inv X pins σ H s) (hu : A.units + 64 < cLine) {ls : List (Key × V)} {vb : List (Key × Value)} (rb : KV ls vb) :
    ∀ {ks : List (Key × V)} {va : List (Key × Value)} {b : Bool}, KV ks va → DHits X.K H ls ks b → PySem.W.KeqHits A s vb va b
  | [], va, b, ra, h => by
    cases ra
    have h' : b = true := h
    subst h'
    exact .nil
  | p :: ps, va, b, ra, h => by
    cases ra with
    | @cons _ q _ qs h1 t =>
      obtain ⟨h1, h2⟩ := h1
      obtain ⟨k, v⟩ := q
      have h1' : p.1 = k := h1
      rcases h with ⟨hn, rfl⟩ | ⟨w, d, e, r, hw, hd, he, ld, le, dd, hr, rfl⟩
      · have rr : RelO (none : Option V) (valueAt vb p.1) := by rw [← hn]; exact rb.val p.1
        rw [h1'] at rr
        refine .miss ?_
        cases z : valueAt vb k with
        | none => rfl
        | some y => rw [z] at rr; exact False.elim rr
      · have rr : RelO (some w) (valueAt vb p.1) := by rw [← hw]; exact rb.val p.1
        obtain ⟨y, hy, ry⟩ := rr.some_of
        rw [h1'] at hy
        obtain ⟨as, r1⟩ := Dp.reads I d _ v hd h2
        obtain ⟨bs, r2⟩ := Dp.reads I e w y he ry
        exact .hit hy (SeqAt.eqAt_reads d e A s v y as bs r1 r2 ld le (by omega)) (hits_dx I hu rb t hr)
theorem op_eqX {X : Cx} (hu : X.A.units + 100 < cLine) : OpR X (compareOp .Eq) (rDX X.K false) := by
  intro pins s σ H x y v u Q I rx ry h
  obtain ⟨a, c, ks, ls, b, rfl, rfl, ea, eb, h1, h2, q⟩ := h
  obtain rfl : v = Value.ref a := rx
  obtain rfl : u = Value.ref c := ry
  obtain ⟨_, ya, va, ra, da⟩ := (show ObjOk X.prog X.w H s.heap a (.dK ks) from I.hok a _ ea)
  obtain ⟨_, yb, vb, rb, db⟩ := (show ObjOk X.prog X.w H s.heap c (.dK ls) from I.hok c _ eb)
  have la : ks.length = va.length := ra.length
  have lb : ls.length = vb.length := rb.length
  have hin : X.A.in1.units + 64 < cLine := by show X.A.units + 1 + 64 < cLine; omega
  refine PySem.W.keq_eq (knd := mixKind X.prog X.w) (r := b) ya yb da db (by omega) (fun hl => hits_dx I hin rb ra (h1 (by rw [la, lb]; exact hl))) (fin_bl I q ?_)
  by_cases hl : va.length = vb.length
  · simp [hl]
  · rw [h2 (by rw [la, lb]; exact hl)]; simp [hl]
theorem op_neX {X : Cx} (hu : X.A.units + 100 < cLine) : OpR X (compareOp .NotEq) (rDX X.K true) := by
  intro pins s σ H x y v u Q I rx ry h
  obtain ⟨a, c, ks, ls, b, rfl, rfl, ea, eb, h1, h2, q⟩ := h
  obtain rfl : v = Value.ref a := rx
  obtain rfl : u = Value.ref c := ry
  obtain ⟨_, ya, va, ra, da⟩ := (show ObjOk X.prog X.w H s.heap a (.dK ks) from I.hok a _ ea)
  obtain ⟨_, yb, vb, rb, db⟩ := (show ObjOk X.prog X.w H s.heap c (.dK ls) from I.hok c _ eb)
  have la : ks.length = va.length := ra.length
  have lb : ls.length = vb.length := rb.length
  have hin : X.A.in1.units + 64 < cLine := by show X.A.units + 1 + 64 < cLine; omega
  refine PySem.W.keq_ne (knd := mixKind X.prog X.w) (r := b) ya yb da db (by omega) (fun hl => hits_dx I hin rb ra (h1 (by rw [la, lb]; exact hl))) (fin_bl I q ?_)
  by_cases hl : va.length = vb.length
  · simp [hl]
  · rw [h2 (by rw [la, lb]; exact hl)]; simp [hl]
def rEqA (K : Frag) : R2 := fun x y H Q => rEq x y H Q ∨ rEqD K x y H Q ∨ rDX K false x y H Q
def rNeA (K : Frag) : R2 := fun x y H Q => rNe x y H Q ∨ rNeD K x y H Q ∨ rDX K true x y H Q
theorem opr_eq {X : Cx} (hu : X.A.units + 100 < cLine) : OpR X (compareOp .Eq) (rEqA X.K) := op_eq.or ((op_eqD (by omega)).or (op_eqX hu))
theorem opr_ne {X : Cx} (hu : X.A.units + 100 < cLine) : OpR X (compareOp .NotEq) (rNeA X.K) := op_ne.or ((op_neD (by omega)).or (op_neX hu))
theorem hit_dv {K : Frag} {ι : List Addr} {H : Hp} {G : GH} (r : Rz K ι H G) {ls : List (Key × D)} {ws : List (Key × V)} (h2 : DKs K ι H ls ws) : ∀ {ks : List (Key × D)} {vs : List (Key × V)} {b : Bool}, DKs K ι H ks vs → hitB G ls ks = some b → DHits K H ws vs b
  | [], _, b, .nil, e => (Option.some.inj e).symm
  | p :: ks, q :: vs, b, .cons ⟨k1, k2, k3⟩ t, e => by
    obtain ⟨kp, vp⟩ := p
    obtain ⟨kq, vq⟩ := q
    have k1' : kp = kq := k1
    subst k1'
    have z := h2.val (k := kp)
    simp only [hitB] at e
    cases hv : valD ls kp with
    | none =>
      rw [hv] at z e
      exact .inl ⟨z, (Option.some.inj e).symm⟩
    | some d =>
      rw [hv] at z e
      obtain ⟨v, q1, q2⟩ := z
      dsimp only at e
      split at e
      · rename_i x y r' e1 e2 e3
        have a1 := py_ok r 64 _ _ _ e1 k2
        have a2 := py_ok r 64 _ _ _ e2 q2
        exact .inr ⟨v, x, y, r', q1, a1.dp, a2.dp, a1.lay, a2.lay, a1.dep, hit_dv r h2 t e3, (Option.some.inj e).symm⟩
      · cases e
/-- the answer of == once, for == and != -/
theorem eq_cases {K : Frag} {ι : List Addr} {H : Hp} {G : GH} {x y : D} {v u : V} {b : Bool} (r : Rz K ι H G) (hx : DV K ι H x v) (hy : DV K ι H y u) (h : eqB x y G = some b) :
    (scal v u = true ∧ b = decide (v = u)) ∨ (∃ d e, Dp K H v d ∧ Dp K H u e ∧ SeqAt.shaped d = true ∧ SeqAt.shaped e = true ∧ b = PyData.eqv d e) ∨
      ∃ a c ks ls, v = .ref a ∧ u = .ref c ∧ H a = some (.dK ks) ∧ H c = some (.dK ls) ∧ (ks.length = ls.length → DHits K H ls ks b) ∧ (ks.length ≠ ls.length → b = false) := by
  have deep : ∀ {x y : D}, DV K ι H x v → DV K ι H y u → eqDeep x y G = some b → ∃ d e, Dp K H v d ∧ Dp K H u e ∧ SeqAt.shaped d = true ∧ SeqAt.shaped e = true ∧ b = PyData.eqv d e := by
    intro x y hx hy h
    unfold eqDeep at h
    split at h
    · rename_i p q e1 e2
      have a := py_ok r 64 x v p e1 hx
      have b := py_ok r 64 y u q e2 hy
      exact ⟨p, q, a.dp, b.dp, a.shaped, b.shaped, (Option.some.inj h).symm⟩
    · cases h
  unfold eqB at h
  split at h
  · simp only [DV] at hx hy
    subst hx; subst hy
    refine .inl ⟨rfl, ?_⟩
    rw [dec_int, Bool.beq_eq_decide_eq]; exact (Option.some.inj h).symm
  · simp only [DV] at hx hy
    obtain ⟨hx, _⟩ := hx
    obtain ⟨hy, _⟩ := hy
    subst hx; subst hy
    refine .inl ⟨rfl, ?_⟩
    rw [dec_str, Bool.beq_eq_decide_eq]; exact (Option.some.inj h).symm
  · simp only [DV] at hx hy
    subst hx; subst hy
    refine .inl ⟨rfl, ?_⟩
    rw [dec_bl, Bool.beq_eq_decide_eq]; exact (Option.some.inj h).symm
  · rename_i i j
    split at h
    · rename_i ks ls g1 g2
      simp only [DV] at hx hy
      obtain ⟨p1, k1, rfl⟩ := hx
      obtain ⟨p2, k2, rfl⟩ := hy
      obtain ⟨vs, q1, h1⟩ := r.at_ _ _ _ k1 g1
      obtain ⟨ws, q2, h2⟩ := r.at_ _ _ _ k2 g2
      split at h
      · rename_i hs
        exact .inr (.inr ⟨p1, p2, vs, ws, rfl, rfl, q1, q2, fun _ => hit_dv r h2 h1 h, fun z => absurd (by rw [← h1.length, ← h2.length]; exact hs) z⟩)
      · rename_i hs
        exact .inr (.inr ⟨p1, p2, vs, ws, rfl, rfl, q1, q2, fun z => absurd (by rw [h1.length, h2.length]; exact z) hs, fun _ => (Option.some.inj h).symm⟩)
    · exact .inr (.inl (deep hx hy h))
  · exact .inr (.inl (deep hx hy h))
theorem ofB_some {K : Frag} {W : WX} {σ : L2.St} {ι : List Addr} {H : Hp} {o : Option Bool} {G : GH} {Q : VK} (r : Rz K ι H G) (p : PostE K W σ ι H (ofB o G) Q) : ∃ b, o = some b ∧ Q (.bl b) H := by
  cases o with
  | none => exact False.elim p
  | some b => exact ⟨b, rfl, (show PostE K W σ ι H (.ok (.bl b) G) Q from p).ok Ext.refl r (by simp only [DV])⟩
theorem o2_eq {K : Frag} : Op2 K gEq (rEqA K) := by
  intro W σ ι H G x y v u Q r hx hy p
  obtain ⟨b, e0, q⟩ := ofB_some r p
  rcases eq_cases r hx hy e0 with ⟨h, rfl⟩ | ⟨d, e, h1, h2, h3, h4, rfl⟩ | ⟨a, c, ks, ls, h1, h2, h3, h4, h5, h6⟩
  · exact .inl ⟨h, q⟩
  · exact .inr (.inl ⟨d, e, h1, h2, h3, h4, q⟩)
  · exact .inr (.inr ⟨a, c, ks, ls, _, h1, h2, h3, h4, h5, h6, q⟩)
theorem o2_ne {K : Frag} : Op2 K gNe (rNeA K) := by
  intro W σ ι H G x y v u Q r hx hy p
  obtain ⟨b, e1, q⟩ := ofB_some r p
  obtain ⟨b', e0, rfl⟩ := Option.map_eq_some_iff.mp e1
  rcases eq_cases r hx hy e0 with ⟨h, rfl⟩ | ⟨d, e, h1, h2, h3, h4, rfl⟩ | ⟨a, c, ks, ls, h1, h2, h3, h4, h5, h6⟩
  · exact .inl ⟨h, q⟩
  · exact .inr (.inl ⟨d, e, h1, h2, h3, h4, q⟩)
  · exact .inr (.inr ⟨a, c, ks, ls, _, h1, h2, h3, h4, h5, h6, q⟩)
end F2
end
section
namespace F2
open PySem PySem.Spec PyProof.Rows L2

/-! ### None, True: is -/
def isNonD : D → Bool
  | .non => true
  | _ => false
def gIsN (x : D) (G : GH) : R D := .ok (.bl (isNonD x)) G
def gNotN (x : D) (G : GH) : R D := .ok (.bl (!isNonD x)) G
theorem isNonD_dv {K : Frag} {ι : List Addr} {H : Hp} {x : D} {v : V} (h : DV K ι H x v) : decide (v = .non) = isNonD x := by
  cases x with
  | non => simp only [DV] at h; subst h; rfl
  | bl b => simp only [DV] at h; subst h; rfl
  | int i => simp only [DV] at h; subst h; rfl
  | str x => simp only [DV] at h; obtain ⟨rfl, _⟩ := h; rfl
  | tup xs => simp only [DV] at h; obtain ⟨a, vs, rfl, _⟩ := h; rfl
  | ktup xs => simp only [DV] at h; obtain ⟨a, vs, rfl, _⟩ := h; rfl
  | scr xs => simp only [DV] at h; obtain ⟨a, vs, rfl, _⟩ := h; rfl
  | ref i => simp only [DV] at h; obtain ⟨a, _, rfl⟩ := h; rfl
/-- is True, is False; is not -/
def gIsB (b : Bool) (x : D) (G : GH) : R D := match x with
  | .bl c => .ok (.bl (decide (c = b))) G
  | _ => .st
def gNotB (b : Bool) (x : D) (G : GH) : R D := match x with
  | .bl c => .ok (.bl (!decide (c = b))) G
  | _ => .st
section
variable {X : Cx} {xa : XA} {W : WX} {a b : Expr} {f h : FE} {pos : Pos}
theorem de_isN {j pos'} (ha : DE X xa W a f) : DE X xa W (.Compare a [.Is] [.Constant .none j pos'] pos) (f1 gIsN f) :=
  PEm (pe_cmp (pc_isN ha)) (tE_un (r := fun v H Q => Q (.bl (decide (v = .non))) H) fun W σ ι H G x v Q r d p => p.ok Ext.refl r (by simp only [DV]; rw [isNonD_dv d]))
theorem de_notN {j pos'} (ha : DE X xa W a f) : DE X xa W (.Compare a [.IsNot] [.Constant .none j pos'] pos) (f1 gNotN f) :=
  PEm (pe_cmp (pc_notN ha)) (tE_un (r := fun v H Q => Q (.bl (!decide (v = .non))) H) fun W σ ι H G x v Q r d p => p.ok Ext.refl r (by simp only [DV]; rw [isNonD_dv d]))
theorem tT_b1 {t : TE} {g : FE} (hg : PE X a t) (m : ∀ σ H Q, tE X.K xa W g σ H Q → t σ H Q) (he : ∀ whole, isTrue a X.env whole = (do let v ← whole; standAt a.pos; holding [v] (truthy v)) := by intro _; rfl) : DT X xa W a (fB g) :=
  PTm (pt_val hg he) fun σ H Q q => tT_b m σ H Q q
theorem dt_isN {j pos'} (ha : DE X xa W a f) : DT X xa W (.Compare a [.Is] [.Constant .none j pos'] pos) (fB (f1 gIsN f)) :=
  PTm (pt_cmp (pc_isN ha)) fun σ H Q q => tT_b (fun _ _ _ z => tE_un (r := fun v H Q => Q (.bl (decide (v = .non))) H) (fun W σ ι H G x v Q r d p => p.ok Ext.refl r (by simp only [DV]; rw [isNonD_dv d])) _ _ _ z) σ H Q q
theorem dt_notN {j pos'} (ha : DE X xa W a f) : DT X xa W (.Compare a [.IsNot] [.Constant .none j pos'] pos) (fB (f1 gNotN f)) :=
  PTm (pt_cmp (pc_notN ha)) fun σ H Q q => tT_b (fun _ _ _ z => tE_un (r := fun v H Q => Q (.bl (!decide (v = .non))) H) (fun W σ ι H G x v Q r d p => p.ok Ext.refl r (by simp only [DV]; rw [isNonD_dv d])) _ _ _ z) σ H Q q
def gIsB2 (x y : D) (G : GH) : R D := match x, y with
  | .bl c, .bl b => .ok (.bl (decide (c = b))) G
  | _, _ => .st
def gNotB2 (x y : D) (G : GH) : R D := match x, y with
  | .bl c, .bl b => .ok (.bl (!decide (c = b))) G
  | _, _ => .st
theorem o2_isB {K : Frag} : Op2 K gIsB2 rIsB := by
  intro W σ ι H G x y v u Q r hx hy p
  unfold gIsB2 at p
  split at p
  · simp only [DV] at hx hy
    exact ⟨_, _, hx, hy, p.ok Ext.refl r (by simp only [DV])⟩
  · exact False.elim p
theorem o2_notB {K : Frag} : Op2 K gNotB2 rNotB := by
  intro W σ ι H G x y v u Q r hx hy p
  unfold gNotB2 at p
  split at p
  · simp only [DV] at hx hy
    exact ⟨_, _, hx, hy, p.ok Ext.refl r (by simp only [DV])⟩
  · exact False.elim p
end

/-! ### membership -/
def keyD : D → Option Key
  | .int i => some (.inl i)
  | .str x => some (.inr x)
  | _ => none
theorem keyD_dv {K : Frag} {ι : List Addr} {H : Hp} {x : D} {v : V} {k : Key} (e : keyD x = some k) (h : DV K ι H x v) : v = kV k := by
  cases x with
  | int i => cases e; simp only [DV] at h; exact h
  | str x => cases e; simp only [DV] at h; exact h.1
  | _ => cases e
def keysD : List D → Option (List Key)
  | [] => some []
  | d :: ds => match keyD d, keysD ds with
    | some k, some ks => some (k :: ks)
    | _, _ => none
theorem keysD_dv {K : Frag} {ι : List Addr} {H : Hp} : ∀ {ds : List D} {vs : List V} {ks : List Key}, keysD ds = some ks → DVs K ι H ds vs → vs = ks.map kV
  | [], _, _, e, h => by cases e; exact DVs.nil_inv h
  | d :: ds, _, _, e, h => by
    obtain ⟨v, r, rfl, h1, h2⟩ := h.cons_inv
    unfold keysD at e
    split at e
    · rename_i k ks e1 e2
      cases e
      rw [keyD_dv e1 h1, keysD_dv e2 h2]
      rfl
    · cases e
theorem keyD_ok {K : Frag} {ι : List Addr} {H : Hp} {x : D} {v : V} {k : Key} (e : keyD x = some k) (h : DV K ι H x v) : KOk.ok k = true := by
  cases x with
  | int i => cases e; rfl
  | str x => cases e; simp only [DV] at h; exact h.2
  | _ => cases e
theorem keysD_ok {K : Frag} {ι : List Addr} {H : Hp} : ∀ {ds : List D} {vs : List V} {ks : List Key}, keysD ds = some ks → DVs K ι H ds vs → KOk.ok ks = true
  | [], _, _, e, h => by cases e; rfl
  | d :: ds, _, _, e, h => by
    obtain ⟨v, r, rfl, h1, h2⟩ := h.cons_inv
    unfold keysD at e
    split at e
    · rename_i k ks e1 e2
      cases e
      have a := keyD_ok e1 h1
      have b := keysD_ok e2 h2
      show (keyOk k && ks.all keyOk) = true
      rw [Bool.and_eq_true]
      exact ⟨a, b⟩
    · cases e
/-- the dict at number i asked for the key d: there is one, and what it holds -/
def askD (G : GH) (i : Nat) (d : D) : Option (Option D) := match G[i]? with
  | some (.dK kvs) => (keyD d).map fun k => valD kvs k
  | some (.fK kvs) => (keyD d).map fun k => valD kvs k
  | some (.dT kvs) => match d with
    | .tup xs => (keysD xs).map fun k => valD kvs k
    | _ => none
  | some (.fT kvs) => match d with
    | .tup xs => (keysD xs).map fun k => valD kvs k
    | _ => none
  | _ => none
def AskR (K : Frag) (ι : List Addr) (H : Hp) (a : Addr) (v : V) : Option D → Prop
  | none => DGet H a v none
  | some z => ∃ w, DGet H a v (some w) ∧ DV K ι H z w
theorem ask_dget {K : Frag} {ι : List Addr} {H : Hp} {G : GH} {i : Nat} {a : Addr} {d : D} {v : V} {o : Option D} (r : Rz K ι H G) (hi : ι[i]? = some a) (hd : DV K ι H d v) (e : askD G i d = some o) :
    AskR K ι H a v o := by
  unfold askD at e
  have kc : ∀ {kvs : List (Key × D)} {vs : List (Key × V)} {k : Key}, DKs K ι H kvs vs → Rd H a (.dK vs) → keyD d = some k → o = valD kvs k → AskR K ι H a v o := by
    intro kvs vs k h rd ek eo
    have q := h.val (k := k)
    have ev := keyD_dv ek hd
    subst eo
    cases z : valD kvs k with
    | none => rw [z] at q; exact .inl ⟨vs, k, rd, ev, q.symm⟩
    | some w => rw [z] at q; obtain ⟨u, q1, q2⟩ := q; exact ⟨u, .inl ⟨vs, k, rd, ev, q1.symm⟩, q2⟩
  have tc : ∀ {kvs : List (List Key × D)} {vs : List (List Key × V)} {k : List Key} {xs : List D}, DKs K ι H kvs vs → Rd H a (.dT vs) → d = .tup xs → keysD xs = some k → o = valD kvs k → AskR K ι H a v o := by
    intro kvs vs k xs h rd ed ek eo
    have q := h.val (k := k)
    subst ed
    simp only [DV] at hd
    obtain ⟨b, ws, rfl, hb, hw⟩ := hd
    rw [keysD_dv ek hw] at hb
    subst eo
    cases z : valD kvs k with
    | none => rw [z] at q; exact .inr ⟨vs, k, b, rd, rfl, hb, q.symm⟩
    | some w => rw [z] at q; obtain ⟨u, q1, q2⟩ := q; exact ⟨u, .inr ⟨vs, k, b, rd, rfl, hb, q1.symm⟩, q2⟩
  cases g : G[i]? with
  | none => rw [g] at e; cases e
  | some ob =>
    rw [g] at e
    have w := r.at_ i a ob hi g
    cases ob with
    | dK kvs =>
      obtain ⟨k, ek, rfl⟩ := Option.map_eq_some_iff.mp e
      obtain ⟨vs, q, h⟩ := w
      exact kc h (.inl q) ek rfl
    | fK kvs =>
      obtain ⟨k, ek, rfl⟩ := Option.map_eq_some_iff.mp e
      obtain ⟨ob, vs, q, h⟩ := w
      exact kc h (.inr ⟨ob, q⟩) ek rfl
    | dT kvs =>
      cases d with
      | tup xs =>
        obtain ⟨k, ek, rfl⟩ := Option.map_eq_some_iff.mp e
        obtain ⟨vs, q, h⟩ := w
        exact tc h (.inl q) rfl ek rfl
      | _ => cases e
    | fT kvs =>
      cases d with
      | tup xs =>
        obtain ⟨k, ek, rfl⟩ := Option.map_eq_some_iff.mp e
        obtain ⟨ob, vs, q, h⟩ := w
        exact tc h (.inr ⟨ob, q⟩) rfl ek rfl
      | _ => cases e
    | _ => cases e
/-- the items of a list or tuple -/
def itemsD (G : GH) (y : D) : Option (List D) := match y with
  | .tup xs => some xs
  | .ktup xs => some xs
  | .scr xs => some xs
  | .ref i => match G[i]? with
    | some (.lst xs) => some xs
    | some (.fro xs) => some xs
    | _ => none
  | _ => none
theorem items_dv {K : Frag} {ι : List Addr} {H : Hp} {G : GH} {y : D} {v : V} {xs : List D} (r : Rz K ι H G) (h : DV K ι H y v) (e : itemsD G y = some xs) : ∃ a vs, v = .ref a ∧ DVs K ι H xs vs ∧ (SqL K H a vs ∨ SqT K H a vs) := by
  cases y with
  | tup ys => cases e; simp only [DV] at h; obtain ⟨a, vs, rfl, q, h⟩ := h; exact ⟨a, vs, rfl, h, .inr (SqT.of q)⟩
  | ktup ys => cases e; simp only [DV] at h; obtain ⟨a, vs, rfl, q, h⟩ := h; exact ⟨a, vs, rfl, h, .inr (.inr q)⟩
  | scr ys => cases e; simp only [DV] at h; obtain ⟨a, vs, rfl, q, h⟩ := h; exact ⟨a, vs, rfl, h, .inl q.sq⟩
  | ref i =>
    simp only [DV] at h
    obtain ⟨a, hi, rfl⟩ := h
    simp only [itemsD] at e
    cases g : G[i]? with
    | none => rw [g] at e; cases e
    | some o =>
      rw [g] at e
      have w := r.at_ i a o hi g
      cases o with
      | lst xs => cases e; obtain ⟨vs, q, h⟩ := w; exact ⟨a, vs, rfl, h, .inl (SqL.of q)⟩
      | fro xs => cases e; obtain ⟨o, vs, q, h⟩ := w; exact ⟨a, vs, rfl, h, .inl (.inl (.inr ⟨o, q⟩))⟩
      | _ => cases e
  | _ => cases e
/-- x in y: the answer -/
def inB (x y : D) (G : GH) : Option Bool := match itemsD G y with
  | some ys => match py G 64 x, pys (py G 64) ys with
    | some p, some ps => some (ps.any fun z => PyData.eqv z p)
    | _, _ => none
  | none => match y with
    | .ref i => (askD G i x).map (·.isSome)
    | _ => none
def gIn (x y : D) (G : GH) : R D := ofB (inB x y G) G
def gNotIn (x y : D) (G : GH) : R D := ofB ((inB x y G).map not) G
def rInX (K : Frag) (neg : Bool) : R2 := fun x y H Q =>
  (∃ p a vs ds, y = .ref a ∧ (SqL K H a vs ∨ SqT K H a vs) ∧ DpAll K H vs ds ∧ PyData.canLayAll0 ds = true ∧ Dp K H x p ∧ SeqAt.shaped p = true ∧ Q (.bl (if neg then !(ds.any fun z => PyData.eqv z p) else ds.any fun z => PyData.eqv z p)) H) ∨
  ∃ a o, y = .ref a ∧ DGet H a x o ∧ Q (.bl (if neg then !o.isSome else o.isSome)) H
theorem room_in_any {A : Around} {d : PyData} {ds : List PyData} (h : SeqAt.shaped d = true) (hu : A.units + 100 < cLine) : A.units + 1 + min (PyData.depthAll ds) d.depth < cLine := by
  have h1 := SeqAt.depth_of_shaped h
  have h2 : min (PyData.depthAll ds) d.depth ≤ d.depth := Nat.min_le_right _ _
  omega
theorem opr_in {X : Cx} (hu : X.A.units + 100 < cLine) : OpR X (compareOp .In) (rInX X.K false) := by
  intro pins s σ H x y v u Q I rx ry h
  rcases h with ⟨p, a, vs, ds, rfl, hq, hd, hl, hx, hs, q⟩ | ⟨a, o, rfl, g, q⟩
  · cases ry
    obtain ⟨bs, r1⟩ := Dp.reads I p x v hx rx
    rcases hq with hq | hq
    · obtain ⟨as, r2⟩ := Dp.reads I (.list ds) (.ref a) (.ref a) (.lst hq hd) rfl
      exact SeqAt.in_list_reads r2 r1 hl (SeqAt.canLay_of_shaped hs) (room_in_any hs hu) ⟨.bl _, H, I, rfl, q⟩
    · obtain ⟨as, r2⟩ := Dp.reads I (.tuple ds) (.ref a) (.ref a) (.tup hq hd) rfl
      exact SeqAt.in_tuple_reads r2 r1 hl (SeqAt.canLay_of_shaped hs) (room_in_any hs hu) ⟨.bl _, H, I, rfl, q⟩
  · cases ry
    exact d_in (by omega) I g rx fun s' I' => ⟨.bl _, H, I', rfl, q⟩
theorem opr_notIn {X : Cx} (hu : X.A.units + 100 < cLine) : OpR X (compareOp .NotIn) (rInX X.K true) := by
  intro pins s σ H x y v u Q I rx ry h
  rcases h with ⟨p, a, vs, ds, rfl, hq, hd, hl, hx, hs, q⟩ | ⟨a, o, rfl, g, q⟩
  · cases ry
    obtain ⟨bs, r1⟩ := Dp.reads I p x v hx rx
    rcases hq with hq | hq
    · obtain ⟨as, r2⟩ := Dp.reads I (.list ds) (.ref a) (.ref a) (.lst hq hd) rfl
      exact SeqAt.notIn_list_reads r2 r1 hl (SeqAt.canLay_of_shaped hs) (room_in_any hs hu) ⟨.bl _, H, I, rfl, q⟩
    · obtain ⟨as, r2⟩ := Dp.reads I (.tuple ds) (.ref a) (.ref a) (.tup hq hd) rfl
      exact SeqAt.notIn_tuple_reads r2 r1 hl (SeqAt.canLay_of_shaped hs) (room_in_any hs hu) ⟨.bl _, H, I, rfl, q⟩
  · cases ry
    exact d_notIn (by omega) I g rx fun s' I' => ⟨.bl _, H, I', rfl, q⟩
theorem in_cases {K : Frag} {ι : List Addr} {H : Hp} {G : GH} {x y : D} {v u : V} {b : Bool} (r : Rz K ι H G) (hx : DV K ι H x v) (hy : DV K ι H y u) (h : inB x y G = some b) :
    (∃ p a vs ds, u = .ref a ∧ (SqL K H a vs ∨ SqT K H a vs) ∧ DpAll K H vs ds ∧ PyData.canLayAll0 ds = true ∧ Dp K H v p ∧ SeqAt.shaped p = true ∧ b = ds.any fun z => PyData.eqv z p) ∨ ∃ a o, u = .ref a ∧ DGet H a v o ∧ b = o.isSome := by
  unfold inB at h
  cases e : itemsD G y with
  | some ys =>
    rw [e] at h
    dsimp only at h
    split at h
    · rename_i p ps e1 e2
      obtain ⟨a, vs, rfl, hv, hq⟩ := items_dv r hy e
      have z := py_ok r 64 x v p e1 hx
      have w := pys_ok (fun d v p e h => py_ok r 64 d v p e h) e2 hv
      exact .inl ⟨p, a, vs, ps, rfl, hq, w.dp, w.lay, z.dp, z.shaped, (Option.some.inj h).symm⟩
    · cases h
  | none =>
    rw [e] at h
    cases y with
    | ref i =>
      dsimp only at h
      obtain ⟨o, e1, rfl⟩ := Option.map_eq_some_iff.mp h
      simp only [DV] at hy
      obtain ⟨a, hi, rfl⟩ := hy
      have q := ask_dget r hi hx e1
      cases o with
      | none => exact .inr ⟨a, none, rfl, q, rfl⟩
      | some z => obtain ⟨w, q1, q2⟩ := q; exact .inr ⟨a, some w, rfl, q1, rfl⟩
    | _ => cases h
theorem o2_in {K : Frag} : Op2 K gIn (rInX K false) := by
  intro W σ ι H G x y v u Q r hx hy p
  obtain ⟨b, e0, q⟩ := ofB_some r p
  rcases in_cases r hx hy e0 with ⟨p, a, vs, ds, h1, h2, h3, h4, h5, h6, rfl⟩ | ⟨a, o, h1, h2, rfl⟩
  · exact .inl ⟨p, a, vs, ds, h1, h2, h3, h4, h5, h6, q⟩
  · exact .inr ⟨a, o, h1, h2, q⟩
theorem o2_notIn {K : Frag} : Op2 K gNotIn (rInX K true) := by
  intro W σ ι H G x y v u Q r hx hy p
  obtain ⟨b, e1, q⟩ := ofB_some r p
  obtain ⟨b', e0, rfl⟩ := Option.map_eq_some_iff.mp e1
  rcases in_cases r hx hy e0 with ⟨p, a, vs, ds, h1, h2, h3, h4, h5, h6, rfl⟩ | ⟨a, o, h1, h2, rfl⟩
  · exact .inl ⟨p, a, vs, ds, h1, h2, h3, h4, h5, h6, q⟩
  · exact .inr ⟨a, o, h1, h2, q⟩

/-! ### subscripts -/
def gIx (x y : D) (G : GH) : R D := match x, y with
  | .str z, .int i => match atI z.cps.toList i with
    | some c => .ok (.str ⟨#[c]⟩) G
    | none => .st
  | x, y => match itemsD G x with
    | some xs => match y with
      | .int i => match atI xs i with
        | some d => .ok d G
        | none => .st
      | _ => .st
    | none => match x with
      | .ref j => match askD G j y with
        | some (some d) => .ok d G
        | _ => .st
      | _ => .st
def rIxD (K : Frag) : R2 := fun x y H Q => rIx K x y H Q ∨ ∃ a w, x = .ref a ∧ DGet H a y (some w) ∧ Q w H
theorem ixr_any {X : Cx} (hu : X.A.units + 100 < cLine) : IxR X (rIxD X.K) := by
  refine IxR.or ix_seq fun value slice pins s σ H x y v u Q I rx ry h hs => ?_
  obtain ⟨a, w, rfl, g, q⟩ := h
  cases rx
  unfold subscriptTail
  refine wpAny_bind ?_
  rw [getitemInPython_of_ne (dict_typeIs I g).not_modules]
  refine wpAny_bind (wpAny_specialOf (dict_typeIs I g) PySem.F.slot_dict_getitem.lookup ?_)
  have fin : wpAny (model X.prog X.w) X.A (subscripted slice false (.ref a) u) (fun r s₃ => wpAny (model X.prog X.w) X.A (letTemporaryGo value (.ref a) r >>= fun _ => pure r) (EP X pins σ Q) X.xe s₃) X.xe s := by
    rw [hs]
    exact wpAny_operating (wpAny_mono (d_getItem (E := X.xe) (by omega) I g ry fun w' s3 I3 rw' => (show EP X pins σ Q w' s3 from ⟨w, H, I3, rw', q⟩)) (fun r s₃ h₃ => wpAny_bind (wpAny_letTemporaryGo (wpAny_pure h₃))) fun _ _ x => x)
  first
    | exact wpAny_pure (wpAny_bind fin)
    | exact wpAny_bind (wpAny_pure (wpAny_bind fin))
    | exact wpAny_bind fin
theorem atI_map {α β : Type} {xs : List α} {ys : List β} {i : Int} {d : α} (hl : xs.length = ys.length) (e : atI xs i = some d) : ∃ j : Nat, xs[j]? = some d ∧ ∀ w, ys[j]? = some w → atI ys i = some w := by
  unfold atI at e ⊢
  rw [← hl]
  cases h : ixN xs.length i with
  | none => rw [h] at e; cases e
  | some j => rw [h] at e; exact ⟨j, e, fun w h => h⟩
theorem strF1 {c : Nat} {z : Str} (hz : strF z = true) (h : c ∈ z.cps.toList) : strF ⟨#[c]⟩ = true := by
  unfold strF at hz ⊢
  rw [Bool.and_eq_true] at hz ⊢
  refine ⟨?_, decide_eq_true (show (1 : Nat) ≤ 16777216 by decide)⟩
  have h1 := Array.all_eq_true_iff_forall_mem.mp hz.1 c (by simpa using h)
  simpa using h1
theorem o2_ix {K : Frag} : Op2 K gIx (rIxD K) := by
  intro W σ ι H G x y v u Q r hx hy p
  have gen : ∀ x y v u, DV K ι H x v → DV K ι H y u → PostE K W σ ι H (match itemsD G x with
    | some xs => match y with
      | .int i => match atI xs i with
        | some d => .ok d G
        | none => .st
      | _ => .st
    | none => match x with
      | .ref j => match askD G j y with
        | some (some d) => .ok d G
        | _ => .st
      | _ => .st) Q → rIxD K v u H Q := by
    intro x y v u hx hy p
    cases e : itemsD G x with
    | some xs =>
      rw [e] at p
      dsimp only at p
      split at p
      · rename_i i
        simp only [DV] at hy
        subst hy
        cases e2 : atI xs i with
        | none => rw [e2] at p; exact False.elim p
        | some d =>
          rw [e2] at p
          obtain ⟨a, vs, rfl, hv, hq⟩ := items_dv r hx e
          obtain ⟨j, h1, h2⟩ := atI_map hv.length e2
          obtain ⟨w, h3, h4⟩ := hv.get h1
          have q := p.ok Ext.refl r h4
          rcases hq with hq | hq
          · exact .inl (.inl ⟨a, vs, i, w, rfl, rfl, hq, h2 w h3, q⟩)
          · exact .inl (.inr (.inl ⟨a, vs, i, w, rfl, rfl, hq, h2 w h3, q⟩))
      · exact False.elim p
    | none =>
      rw [e] at p
      dsimp only at p
      split at p
      · rename_i j
        split at p
        · rename_i d e2
          simp only [DV] at hx
          obtain ⟨a, hi, rfl⟩ := hx
          obtain ⟨w, q1, q2⟩ := ask_dget r hi hy e2
          exact .inr ⟨a, w, rfl, q1, p.ok Ext.refl r q2⟩
        · exact False.elim p
      · exact False.elim p
  unfold gIx at p
  split at p
  · rename_i z i
    simp only [DV] at hx hy
    obtain ⟨rfl, hz⟩ := hx
    subst hy
    cases e2 : atI z.cps.toList i with
    | none => rw [e2] at p; exact False.elim p
    | some c =>
      rw [e2] at p
      have hl : z.length ≤ sizeLine := by
        unfold strF at hz
        rw [Bool.and_eq_true] at hz
        rw [szl]
        exact of_decide_eq_true hz.2
      have hm : c ∈ z.cps.toList := by
        obtain ⟨j, _, h, _⟩ := atI_get e2
        exact List.mem_of_getElem? h
      exact .inl (.inr (.inr ⟨z, i, c, rfl, rfl, hl, e2, p.ok Ext.refl r (by simp only [DV]; exact ⟨trivial, strF1 hz hm⟩)⟩))
  · exact gen _ _ _ _ hx hy p
section
variable {X : Cx} {xa : XA} {W : WX} {a b : Expr} {f h : FE} {pos : Pos}
theorem de_ix (hu : X.A.units + 100 < cLine) (ha : DE X xa W a f) (hb : DE X xa W b h) (hs : PlainIx b := by exact fun _ _ => rfl) : DE X xa W (.Subscript a b pos) (f2 gIx f h) := PEm (pe_ix (ixr_any hu) ha hb hs) (tE_op o2_ix)
end
end F2
end
section
namespace F2
open PySem PySem.Spec PyProof.Rows L2

/-! ### slices -/
def fO0 : Rho → GH → R (Option Int) := fun _ G => .ok none G
def fO1 (f : FE) : Rho → GH → R (Option Int) := fun ρ G => (f ρ G).bind fun x G1 => match x with
  | .int i => .ok (some i) G1
  | _ => .st
def tO (K : Frag) (xa : XA) (W : WX) (f : Rho → GH → R (Option Int)) : TO := fun σ H Q => ∃ ι ρ G, Cfg K xa ι H ρ σ G ∧ Post K W σ ι H (fun _ _ a v => v = a) (f ρ G) Q
def DO (X : Cx) (xa : XA) (W : WX) (e : Option Expr) (f : Rho → GH → R (Option Int)) : Prop := PO X e (tO X.K xa W f)
def cutG {α : Type} (xs : List α) (lo hi : Option Int) : List α := (xs.drop (HT.sIx xs.length 0 lo)).take (HT.sIx xs.length xs.length hi - HT.sIx xs.length 0 lo)
def gSl (x : D) (lo hi : Option Int) (G : GH) : R D := match x with
  | .tup xs => .ok (.tup (cutG xs lo hi)) G
  | .ktup xs => if HT.sIx xs.length 0 lo = 0 ∧ HT.sIx xs.length xs.length hi = xs.length then .ok (.ktup xs) G else .ok (.tup (cutG xs lo hi)) G
  | .str z => .ok (.str (cutS z lo hi)) G
  | .scr xs => .ok (.ref G.length) (G ++ [.lst (cutG xs lo hi)])
  | .ref i => match itemsD G (.ref i) with
    | some xs => .ok (.ref G.length) (G ++ [.lst (cutG xs lo hi)])
    | none => .st
  | _ => .st
def fSl (f : FE) (l h : Rho → GH → R (Option Int)) : FE := fun ρ G => (f ρ G).bind fun x G1 => (l ρ G1).bind fun lo G2 => (h ρ G2).bind fun hi G3 => gSl x lo hi G3
def rSlX (K : Frag) : V → Option Int → Option Int → Hp → VK → Prop := fun x lo hi H Q => rSlL K x lo hi H Q ∨ rSlA K x lo hi H Q ∨ rSlS x lo hi H Q
theorem slr_any {X : Cx} : SlR X (rSlX X.K) := sl_list.or (sl_tupA.or sl_str)
theorem cutG_dv {K : Frag} {ι : List Addr} {H : Hp} {xs : List D} {vs : List V} {lo hi : Option Int} (h : DVs K ι H xs vs) : DVs K ι H (cutG xs lo hi) (cutV vs lo hi) := by
  unfold cutG cutV
  rw [h.length]
  exact (h.drop _).take _
theorem strF_cut {z : Str} {lo hi : Option Int} (h : strF z = true) : strF (cutS z lo hi) = true := by
  unfold strF at h ⊢
  rw [Bool.and_eq_true] at h ⊢
  have hl := of_decide_eq_true h.2
  refine ⟨?_, decide_eq_true (Nat.le_trans (cutS_length z lo hi) hl)⟩
  have h1 := Array.all_eq_true_iff_forall_mem.mp h.1
  apply Array.all_eq_true_iff_forall_mem.mpr
  intro x hx
  refine h1 x ?_
  have hx' : x ∈ ((z.cps.toList.drop (HT.sIx z.length 0 lo)).take (HT.sIx z.length z.length hi - HT.sIx z.length 0 lo)).toArray := hx
  rw [List.mem_toArray] at hx'
  have := List.mem_of_mem_drop (List.mem_of_mem_take hx')
  simpa using this
theorem sl_post {K : Frag} {W : WX} {σ : L2.St} {ι : List Addr} {H : Hp} {G : GH} {x : D} {lo hi : Option Int} {v : V} {Q : VK} (r : Rz K ι H G) (hx : DV K ι H x v) (p : PostE K W σ ι H (gSl x lo hi G) Q) : rSlX K v lo hi H Q := by
  unfold gSl at p
  split at p
  · rename_i xs
    simp only [DV] at hx
    obtain ⟨a, vs, rfl, q, h⟩ := hx
    refine .inr (.inl ⟨a, vs, rfl, SqT.of q, fun e => ?_, fun e b hb => ?_⟩)
    · have e1 : cutG xs lo hi = xs := by
        unfold cutG
        rw [h.length, e.1, e.2, List.drop_zero, Nat.sub_zero, ← h.length, List.take_length]
      rw [e1] at p
      exact p.ok Ext.refl r (by simp only [DV]; exact ⟨a, vs, rfl, q, h⟩)
    · obtain ⟨e2, r2⟩ := r.side (o := .tup (cutV vs lo hi)) hb
      exact p.ok e2 r2 (by simp only [DV]; exact ⟨b, _, rfl, upd_same, (cutG_dv h).ext e2⟩)
  · rename_i xs
    simp only [DV] at hx
    obtain ⟨a, vs, rfl, q, h⟩ := hx
    refine .inr (.inl ⟨a, vs, rfl, .inr q, fun e => ?_, fun e b hb => ?_⟩)
    · rw [← h.length] at e
      rw [if_pos e] at p
      exact p.ok Ext.refl r (by simp only [DV]; exact ⟨a, vs, rfl, q, h⟩)
    · rw [← h.length] at e
      rw [if_neg e] at p
      obtain ⟨e2, r2⟩ := r.side (o := .tup (cutV vs lo hi)) hb
      exact p.ok e2 r2 (by simp only [DV]; exact ⟨b, _, rfl, upd_same, (cutG_dv h).ext e2⟩)
  · simp only [DV] at hx
    obtain ⟨rfl, hz⟩ := hx
    refine .inr (.inr ⟨_, rfl, ?_, p.ok Ext.refl r (by simp only [DV]; exact ⟨trivial, strF_cut hz⟩)⟩)
    unfold strF at hz
    rw [Bool.and_eq_true] at hz
    rw [szl]
    exact of_decide_eq_true hz.2
  · rename_i xs
    simp only [DV] at hx
    obtain ⟨a, vs, rfl, q, h⟩ := hx
    refine .inl ⟨a, vs, rfl, q.sq, fun b hb => ?_⟩
    obtain ⟨e2, r2, hat⟩ := r.new (u := .lst (cutV vs lo hi)) (o := .lst (cutG xs lo hi)) hb fun e => ⟨_, upd_same, (cutG_dv h).ext e⟩
    exact p.ok e2 r2 (by simp only [DV]; exact ⟨b, hat, rfl⟩)
  · rename_i i
    split at p
    · rename_i xs e
      simp only [DV] at hx
      obtain ⟨a, hi', rfl⟩ := hx
      have list : ∃ vs, SqL K H a vs ∧ DVs K ι H xs vs := by
        simp only [itemsD] at e
        cases g : G[i]? with
        | none => rw [g] at e; cases e
        | some o =>
          rw [g] at e
          have w := r.at_ i a o hi' g
          cases o with
          | lst ys => cases e; obtain ⟨vs, q, h⟩ := w; exact ⟨vs, SqL.of q, h⟩
          | fro ys => cases e; obtain ⟨o, vs, q, h⟩ := w; exact ⟨vs, .inl (.inr ⟨o, q⟩), h⟩
          | _ => cases e
      obtain ⟨vs, q, h⟩ := list
      refine .inl ⟨a, vs, rfl, q, fun b hb => ?_⟩
      obtain ⟨e2, r2, hat⟩ := r.new (u := .lst (cutV vs lo hi)) (o := .lst (cutG xs lo hi)) hb fun e => ⟨_, upd_same, (cutG_dv h).ext e⟩
      exact p.ok e2 r2 (by simp only [DV]; exact ⟨b, hat, rfl⟩)
    · exact False.elim p
  · exact False.elim p
section
variable {X : Cx} {xa : XA} {W : WX} {e : Expr} {lo hi : Option Expr} {f : FE} {l h : Rho → GH → R (Option Int)} {p2 pos : Pos}
theorem do_none : DO X xa W none fO0 := ⟨fun pins s σ H Q I ⟨ι, ρ, G, c, p⟩ => (po_none (X := X)).run pins s σ H Q I (p.ok Ext.refl c.rz rfl)⟩
theorem do_some (he : DE X xa W e f) : DO X xa W (some e) (fO1 f) := ⟨fun pins s σ H Q I ⟨ι, ρ, G, c, p⟩ => (po_some he).run pins s σ H Q I ⟨ι, ρ, G, c, (Post.bind (rel := DV X.K) p).mono fun v H1 ⟨ι1, x, G1, e1, r1, d1, p1⟩ => by
  cases x with
  | int i =>
    simp only [DV] at d1
    exact ⟨i, d1, p1.ok Ext.refl r1 rfl⟩
  | _ => exact False.elim p1⟩⟩
theorem de_sl (he : DE X xa W e f) (hl : DO X xa W lo l) (hh : DO X xa W hi h) : DE X xa W (.Subscript e (.Slice lo hi none p2) pos) (fSl f l h) := by
  refine PEm (pe_slice slr_any he hl hh) fun σ H Q ⟨ι, ρ, G, c, p⟩ => ?_
  refine ⟨ι, ρ, G, c, (Post.bind (rel := DV X.K) p).mono fun v H1 ⟨ι1, x, G1, e1, r1, d1, p1⟩ => ?_⟩
  refine ⟨ι1, ρ, G1, c.ext e1 r1, (Post.bind (rel := fun _ _ a v => v = a) p1).mono fun v2 H2 ⟨ι2, lo, G2, e2, r2, d2, p2⟩ => ?_⟩
  subst d2
  refine ⟨ι2, ρ, G2, (c.ext e1 r1).ext e2 r2, (Post.bind (rel := fun _ _ a v => v = a) p2).mono fun v3 H3 ⟨ι3, hi, G3, e3, r3, d3, p3⟩ => ?_⟩
  subst d3
  exact sl_post r3 ((d1.ext e2).ext e3) p3
end

/-! ### truth -/
def truB (x : D) (G : GH) : Option Bool := match x with
  | .non => some false
  | .bl b => some b
  | .int i => some (i != 0)
  | .str z => some ((z.length : Int) != 0)
  | .tup xs => some (!xs.isEmpty)
  | .ktup xs => some (!xs.isEmpty)
  | .scr xs => some (!xs.isEmpty)
  | .ref i => match G[i]? with
    | some (.lst xs) => some (!xs.isEmpty)
    | some (.fro xs) => some (!xs.isEmpty)
    | some (.dK kvs) => some (!kvs.isEmpty)
    | _ => none
theorem isEmpty_len {α β : Type} {xs : List α} {ys : List β} (h : xs.length = ys.length) : xs.isEmpty = ys.isEmpty := by
  cases xs <;> cases ys <;> first | rfl | (simp at h)
theorem tru_dv {K : Frag} {ι : List Addr} {H : Hp} {G : GH} {x : D} {v : V} {b : Bool} (r : Rz K ι H G) (hx : DV K ι H x v) (e : truB x G = some b) : TruV K v H b := by
  cases x with
  | non => cases e; simp only [DV] at hx; subst hx; rfl
  | bl c => cases e; simp only [DV] at hx; subst hx; rfl
  | int i => cases e; simp only [DV] at hx; subst hx; rfl
  | str z =>
    cases e
    simp only [DV] at hx
    obtain ⟨rfl, hz⟩ := hx
    unfold strF at hz
    rw [Bool.and_eq_true] at hz
    exact ⟨by rw [szl]; exact of_decide_eq_true hz.2, rfl⟩
  | tup xs => cases e; simp only [DV] at hx; obtain ⟨a, vs, rfl, q, h⟩ := hx; exact .inr (.inl ⟨vs, SqT.of q, by rw [isEmpty_len h.length]⟩)
  | ktup xs => cases e; simp only [DV] at hx; obtain ⟨a, vs, rfl, q, h⟩ := hx; exact .inr (.inl ⟨vs, .inr q, by rw [isEmpty_len h.length]⟩)
  | scr xs => cases e; simp only [DV] at hx; obtain ⟨a, vs, rfl, q, h⟩ := hx; exact .inl ⟨vs, q.sq, by rw [isEmpty_len h.length]⟩
  | ref i =>
    simp only [DV] at hx
    obtain ⟨a, hi, rfl⟩ := hx
    simp only [truB] at e
    cases g : G[i]? with
    | none => rw [g] at e; cases e
    | some o =>
      rw [g] at e
      have w := r.at_ i a o hi g
      cases o with
      | lst xs => cases e; obtain ⟨vs, q, h⟩ := w; exact .inl ⟨vs, SqL.of q, by rw [isEmpty_len h.length]⟩
      | fro xs => cases e; obtain ⟨o, vs, q, h⟩ := w; exact .inl ⟨vs, .inl (.inr ⟨o, q⟩), by rw [isEmpty_len h.length]⟩
      | dK xs => cases e; obtain ⟨vs, q, h⟩ := w; exact .inr (.inr ⟨vs, q, by rw [isEmpty_len (DKs.length h)]⟩)
      | _ => cases e
def fTru (f : FE) : FT := fun ρ G => (f ρ G).bind fun x G1 => match truB x G1 with
  | some b => .ok b G1
  | none => .st
def fNotT (f : FT) : FT := fun ρ G => (f ρ G).bind fun b G1 => .ok (!b) G1
def fAndT (f g : FT) : FT := fun ρ G => (f ρ G).bind fun b G1 => if b = true then g ρ G1 else .ok false G1
def fOrT (f g : FT) : FT := fun ρ G => (f ρ G).bind fun b G1 => if b = true then .ok true G1 else g ρ G1
/-- and, or, not as values: by truth -/
def fAnd (f g : FE) : FE := fun ρ G => (f ρ G).bind fun x G1 => match truB x G1 with
  | some b => if b = true then g ρ G1 else .ok x G1
  | none => .st
def fOr (f g : FE) : FE := fun ρ G => (f ρ G).bind fun x G1 => match truB x G1 with
  | some b => if b = true then .ok x G1 else g ρ G1
  | none => .st
def fNot (f : FE) : FE := fun ρ G => (f ρ G).bind fun x G1 => match truB x G1 with
  | some b => .ok (.bl (!b)) G1
  | none => .st
def fIf (t : FT) (f g : FE) : FE := fun ρ G => (t ρ G).bind fun b G1 => if b = true then f ρ G1 else g ρ G1
section
variable {X : Cx} {xa : XA} {W : WX} {a b : Expr} {rest : List Expr} {f g : FE} {t u : FT} {pos : Pos}
theorem dt_tru (ha : DE X xa W a f) (he : ∀ whole, isTrue a X.env whole = (do let v ← whole; standAt a.pos; holding [v] (truthy v)) := by intro _; rfl) : DT X xa W a (fTru f) := by
  refine PTm (pt_truth ha he) fun σ H Q ⟨ι, ρ, G, c, p⟩ => ?_
  refine ⟨ι, ρ, G, c, (Post.bind (rel := DV X.K) p).mono fun v H1 ⟨ι1, x, G1, e1, r1, d1, p1⟩ => ?_⟩
  cases e : truB x G1 with
  | none => rw [e] at p1; exact False.elim p1
  | some b =>
    rw [e] at p1
    exact ⟨b, tru_dv r1 d1 e, p1.ok Ext.refl r1 rfl⟩
theorem dt_not (ha : DT X xa W a t) : DT X xa W (.UnaryOp .Not a pos) (fNotT t) := by
  refine PTm (pt_not ha) fun σ H Q ⟨ι, ρ, G, c, p⟩ => ?_
  refine ⟨ι, ρ, G, c, (Post.bind (rel := fun _ _ a v => v = a) p).mono fun v H1 ⟨ι1, x, G1, e1, r1, d1, p1⟩ => ?_⟩
  subst d1
  exact p1.ok Ext.refl r1 rfl
theorem dw_and1 (ha : DT X xa W a t) : DW X xa W (.BoolOp .And [a] pos) t := pw_and1 ha
theorem dw_or1 (ha : DT X xa W a t) : DW X xa W (.BoolOp .Or [a] pos) t := pw_or1 ha
theorem dw_and (ha : DT X xa W a t) (hb : DW X xa W (.BoolOp .And (b :: rest) pos) u) : DW X xa W (.BoolOp .And (a :: b :: rest) pos) (fAndT t u) := by
  refine PWm (pw_and ha hb) fun σ H Q ⟨ι, ρ, G, c, p⟩ => ?_
  refine ⟨ι, ρ, G, c, (Post.bind (rel := fun _ _ a v => v = a) p).mono fun v H1 ⟨ι1, x, G1, e1, r1, d1, p1⟩ => ?_⟩
  subst d1
  cases v with
  | true => exact ⟨ι1, ρ, G1, c.ext e1 r1, p1⟩
  | false => exact p1.ok Ext.refl r1 rfl
theorem dw_or (ha : DT X xa W a t) (hb : DW X xa W (.BoolOp .Or (b :: rest) pos) u) : DW X xa W (.BoolOp .Or (a :: b :: rest) pos) (fOrT t u) := by
  refine PWm (pw_or ha hb) fun σ H Q ⟨ι, ρ, G, c, p⟩ => ?_
  refine ⟨ι, ρ, G, c, (Post.bind (rel := fun _ _ a v => v = a) p).mono fun v H1 ⟨ι1, x, G1, e1, r1, d1, p1⟩ => ?_⟩
  subst d1
  cases v with
  | true => exact p1.ok Ext.refl r1 rfl
  | false => exact ⟨ι1, ρ, G1, c.ext e1 r1, p1⟩
theorem DW.dt (h : DW X xa W a t) : DT X xa W a t := PW.pt h
theorem de_one {op} (h : DE X xa W a f) : DE X xa W (.BoolOp op [a] pos) f := pe_one h
theorem de_and (ha : DE X xa W a f) (hb : DE X xa W (.BoolOp .And (b :: rest) pos) g) : DE X xa W (.BoolOp .And (a :: b :: rest) pos) (fAnd f g) := by
  refine PEm (pe_andT ha hb) fun σ H Q ⟨ι, ρ, G, c, p⟩ => ?_
  refine ⟨ι, ρ, G, c, (Post.bind (rel := DV X.K) p).mono fun v H1 ⟨ι1, x, G1, e1, r1, d1, p1⟩ => ?_⟩
  cases e : truB x G1 with
  | none => rw [e] at p1; exact False.elim p1
  | some b =>
    rw [e] at p1
    refine ⟨b, tru_dv r1 d1 e, ?_⟩
    cases b with
    | true => exact ⟨ι1, ρ, G1, c.ext e1 r1, p1⟩
    | false => exact p1.ok Ext.refl r1 d1
theorem de_or (ha : DE X xa W a f) (hb : DE X xa W (.BoolOp .Or (b :: rest) pos) g) : DE X xa W (.BoolOp .Or (a :: b :: rest) pos) (fOr f g) := by
  refine PEm (pe_orT ha hb) fun σ H Q ⟨ι, ρ, G, c, p⟩ => ?_
  refine ⟨ι, ρ, G, c, (Post.bind (rel := DV X.K) p).mono fun v H1 ⟨ι1, x, G1, e1, r1, d1, p1⟩ => ?_⟩
  cases e : truB x G1 with
  | none => rw [e] at p1; exact False.elim p1
  | some b =>
    rw [e] at p1
    refine ⟨b, tru_dv r1 d1 e, ?_⟩
    cases b with
    | true => exact p1.ok Ext.refl r1 d1
    | false => exact ⟨ι1, ρ, G1, c.ext e1 r1, p1⟩
theorem de_not (ha : DE X xa W a f) : DE X xa W (.UnaryOp .Not a pos) (fNot f) := by
  refine PEm (pe_notT ha) fun σ H Q ⟨ι, ρ, G, c, p⟩ => ?_
  refine ⟨ι, ρ, G, c, (Post.bind (rel := DV X.K) p).mono fun v H1 ⟨ι1, x, G1, e1, r1, d1, p1⟩ => ?_⟩
  cases e : truB x G1 with
  | none => rw [e] at p1; exact False.elim p1
  | some b =>
    rw [e] at p1
    exact ⟨b, tru_dv r1 d1 e, p1.ok Ext.refl r1 (by simp only [DV])⟩
theorem de_if {c : Expr} (hc : DT X xa W c t) (ha : DE X xa W a f) (hb : DE X xa W b g) : DE X xa W (.IfExp c a b pos) (fIf t f g) := by
  refine PEm (pe_ifExp hc ha hb) fun σ H Q ⟨ι, ρ, G, c, p⟩ => ?_
  refine ⟨ι, ρ, G, c, (Post.bind (rel := fun _ _ a v => v = a) p).mono fun v H1 ⟨ι1, x, G1, e1, r1, d1, p1⟩ => ?_⟩
  subst d1
  cases v with
  | true => exact ⟨ι1, ρ, G1, c.ext e1 r1, p1⟩
  | false => exact ⟨ι1, ρ, G1, c.ext e1 r1, p1⟩
end

/-! ### built-in functions -/
def OpA (K : Frag) (g : List D → GH → R D) (r : List V → Hp → VK → Prop) : Prop :=
  ∀ (W : WX) (σ : L2.St) (ι : List Addr) (H : Hp) (G : GH) (xs : List D) (vs : List V) (Q : VK), Rz K ι H G → DVs K ι H xs vs → PostE K W σ ι H (g xs G) Q → r vs H Q
def fCall (g : List D → GH → R D) (as : FA) : FE := fun ρ G => (as ρ G).bind fun xs G1 => g xs G1
section
variable {X : Cx} {xa : XA} {W : WX} {x : Str} {p pos : Pos} {e : Expr} {es : List Expr} {as : FA} {id T : String} {r : List V → Hp → VK → Prop} {g : List D → GH → R D}
theorem tE_call (ho : OpA X.K g r) (σ : L2.St) (H : Hp) (Q : VK) (q : tE X.K xa W (fCall g as) σ H Q) : tCB r (tA X.K xa W as) σ H Q := by
  obtain ⟨ι, ρ, G, c, p⟩ := q
  exact ⟨ι, ρ, G, c, (Post.bind (rel := DVs X.K) p).mono fun v H1 ⟨ι1, xs, G1, e1, r1, d1, p1⟩ => ho W σ ι1 H1 G1 xs v Q r1 d1 p1⟩
theorem de_callB (hc : CallR X (.builtin id) r) (ho : OpA X.K g r) (hg : Gl X x) (hm : X.mg x = none) (hv : bootBuiltins x = some (.builtin id)) (ha : DA X xa W (e :: es) as) (hn : x ≠ "__name__" := by decide) (hdb : (x == ("__debug__" : Str)) = false := by decide)
    (he : starEach (e :: es) X.env = (false, eval e X.env) :: starEach es X.env := by rfl) (hpl : (backTo pos (starEach es X.env)).any (·.1) = false := by rfl) : DE X xa W (.Call (.Name x p) (e :: es) [] pos) (fCall g as) :=
  PEm (pe_callB hc hg hm hv ha hn hdb he hpl) (tE_call ho)
theorem de_callTy (hc : CallR X (.type T) r) (ho : OpA X.K g r) (hg : Gl X x) (hm : X.mg x = none) (hv : bootBuiltins x = some (.type T)) (ha : DA X xa W (e :: es) as) (hn : x ≠ "__name__" := by decide) (hdb : (x == ("__debug__" : Str)) = false := by decide)
    (he : starEach (e :: es) X.env = (false, eval e X.env) :: starEach es X.env := by rfl) (hpl : (backTo pos (starEach es X.env)).any (·.1) = false := by rfl) : DE X xa W (.Call (.Name x p) (e :: es) [] pos) (fCall g as) :=
  PEm (pe_callTy hc hg hm hv ha hn hdb he hpl) (tE_call ho)
end
theorem DVs.one {K : Frag} {ι : List Addr} {H : Hp} {d : D} {vs : List V} (h : DVs K ι H [d] vs) : ∃ v, vs = [v] ∧ DV K ι H d v := by
  obtain ⟨v, r, rfl, h1, h2⟩ := h.cons_inv
  rw [DVs.nil_inv h2]
  exact ⟨v, rfl, h1⟩
theorem DVs.two {K : Frag} {ι : List Addr} {H : Hp} {d e : D} {vs : List V} (h : DVs K ι H [d, e] vs) : ∃ v w, vs = [v, w] ∧ DV K ι H d v ∧ DV K ι H e w := by
  obtain ⟨v, r, rfl, h1, h2⟩ := h.cons_inv
  obtain ⟨w, rfl, h3⟩ := h2.one
  exact ⟨v, w, rfl, h1, h3⟩
def lenB (x : D) (G : GH) : Option Nat := match x with
  | .str z => some z.length
  | .tup xs => some xs.length
  | .ktup xs => some xs.length
  | .scr xs => some xs.length
  | .ref i => match G[i]? with
    | some (.lst xs) => some xs.length
    | some (.fro xs) => some xs.length
    | some (.dK kvs) => some kvs.length
    | some (.fK kvs) => some kvs.length
    | _ => none
  | _ => none
def gLen (xs : List D) (G : GH) : R D := match xs with
  | [x] => match lenB x G with
    | some n => .ok (.int n) G
    | none => .st
  | _ => .st
def rLenX (K : Frag) : List V → Hp → VK → Prop := fun xs H Q => (∃ x n, xs = [x] ∧ LenV K x H n ∧ Q (.int n) H) ∨ ∃ a kvs, xs = [.ref a] ∧ Rd H a (.dK kvs) ∧ Q (.int kvs.length) H
theorem cr_len {X : Cx} : CallR X (.builtin "len") (rLenX X.K) := by
  refine call_len.or fun pins s σ H xs us Q I r h => ?_
  obtain ⟨a, kvs, rfl, e, q⟩ := h
  obtain ⟨u, rfl, ru⟩ := Vals.one r
  cases ru
  exact d_len I e fun t s' I' => ⟨.int kvs.length, H, I', ⟨t, rfl⟩, q⟩
theorem oa_len {K : Frag} : OpA K gLen (rLenX K) := by
  intro W σ ι H G xs vs Q r h p
  unfold gLen at p
  split at p
  · rename_i x
    obtain ⟨v, rfl, hx⟩ := h.one
    split at p
    · rename_i n e
      have q := p.ok Ext.refl r (show DV K ι H (.int n) (.int n) by simp only [DV])
      cases x with
      | str z =>
        cases e
        simp only [DV] at hx
        obtain ⟨rfl, hz⟩ := hx
        unfold strF at hz
        rw [Bool.and_eq_true] at hz
        exact .inl ⟨_, _, rfl, ⟨by rw [szl]; exact of_decide_eq_true hz.2, rfl⟩, q⟩
      | tup xs => cases e; simp only [DV] at hx; obtain ⟨a, vs, rfl, q1, h⟩ := hx; exact .inl ⟨_, _, rfl, .inr ⟨vs, SqT.of q1, h.length⟩, q⟩
      | ktup xs => cases e; simp only [DV] at hx; obtain ⟨a, vs, rfl, q1, h⟩ := hx; exact .inl ⟨_, _, rfl, .inr ⟨vs, .inr q1, h.length⟩, q⟩
      | scr xs => cases e; simp only [DV] at hx; obtain ⟨a, vs, rfl, q1, h⟩ := hx; exact .inl ⟨_, _, rfl, .inl ⟨vs, q1.sq, h.length⟩, q⟩
      | ref i =>
        simp only [DV] at hx
        obtain ⟨a, hi, rfl⟩ := hx
        simp only [lenB] at e
        cases g : G[i]? with
        | none => rw [g] at e; cases e
        | some o =>
          rw [g] at e
          have w := r.at_ i a o hi g
          cases o with
          | lst xs => cases e; obtain ⟨vs, q1, h⟩ := w; exact .inl ⟨_, _, rfl, .inl ⟨vs, SqL.of q1, h.length⟩, q⟩
          | fro xs => cases e; obtain ⟨o, vs, q1, h⟩ := w; exact .inl ⟨_, _, rfl, .inl ⟨vs, .inl (.inr ⟨o, q1⟩), h.length⟩, q⟩
          | dK xs => cases e; obtain ⟨vs, q1, h⟩ := w; exact .inr ⟨a, vs, rfl, .inl q1, by rw [← DKs.length h]; exact q⟩
          | fK xs => cases e; obtain ⟨ob, vs, q1, h⟩ := w; exact .inr ⟨a, vs, rfl, .inr ⟨ob, q1⟩, by rw [← DKs.length h]; exact q⟩
          | _ => cases e
      | _ => cases e
    · exact False.elim p
  · exact False.elim p
def gInt (xs : List D) (G : GH) : R D := match xs with
  | [.int i] => .ok (.int i) G
  | [.bl b] => .ok (.int (if b then 1 else 0)) G
  | _ => .st
theorem oa_int {K : Frag} : OpA K gInt (fun xs H Q => (∃ i, xs = [.int i] ∧ Q (.int i) H) ∨ ∃ k, xs = [.bl k] ∧ Q (.int (if k then 1 else 0)) H) := by
  intro W σ ι H G xs vs Q r h p
  unfold gInt at p
  split at p
  · obtain ⟨v, rfl, hx⟩ := h.one
    simp only [DV] at hx
    subst hx
    exact .inl ⟨_, rfl, p.ok Ext.refl r (by simp only [DV])⟩
  · obtain ⟨v, rfl, hx⟩ := h.one
    simp only [DV] at hx
    subst hx
    exact .inr ⟨_, rfl, p.ok Ext.refl r (by simp only [DV])⟩
  · exact False.elim p
def gAbs (xs : List D) (G : GH) : R D := match xs with
  | [.int i] => .ok (.int (if i < 0 then -i else i)) G
  | _ => .st
theorem oa_abs {K : Frag} : OpA K gAbs (fun xs H Q => ∃ i, xs = [.int i] ∧ Q (.int (if i < 0 then -i else i)) H) := by
  intro W σ ι H G xs vs Q r h p
  unfold gAbs at p
  split at p
  · obtain ⟨v, rfl, hx⟩ := h.one
    simp only [DV] at hx
    subst hx
    exact ⟨_, rfl, p.ok Ext.refl r (by simp only [DV])⟩
  · exact False.elim p
def gMin (xs : List D) (G : GH) : R D := match xs with
  | [.int i, .int j] => .ok (.int (if j < i then j else i)) G
  | _ => .st
def gMax (xs : List D) (G : GH) : R D := match xs with
  | [.int i, .int j] => .ok (.int (if j > i then j else i)) G
  | _ => .st
theorem oa_min {K : Frag} : OpA K gMin (fun xs H Q => ∃ i j, xs = [.int i, .int j] ∧ Q (.int (if j < i then j else i)) H) := by
  intro W σ ι H G xs vs Q r h p
  unfold gMin at p
  split at p
  · obtain ⟨v, w, rfl, hx, hy⟩ := h.two
    simp only [DV] at hx hy
    subst hx; subst hy
    exact ⟨_, _, rfl, p.ok Ext.refl r (by simp only [DV])⟩
  · exact False.elim p
theorem oa_max {K : Frag} : OpA K gMax (fun xs H Q => ∃ i j, xs = [.int i, .int j] ∧ Q (.int (if j > i then j else i)) H) := by
  intro W σ ι H G xs vs Q r h p
  unfold gMax at p
  split at p
  · obtain ⟨v, w, rfl, hx, hy⟩ := h.two
    simp only [DV] at hx hy
    subst hx; subst hy
    exact ⟨_, _, rfl, p.ok Ext.refl r (by simp only [DV])⟩
  · exact False.elim p
/-- list(x): of a list, a tuple; of a dict its keys -/
def keyV : Key → D
  | .inl i => .int i
  | .inr x => .str x
theorem keyV_dv {K : Frag} {ι : List Addr} {H : Hp} {k : Key} (h : KOk.ok k = true) : DV K ι H (keyV k) (kV k) := by
  cases k with
  | inl i => simp only [keyV, DV]; rfl
  | inr x => simp only [keyV, DV]; exact ⟨rfl, h⟩
theorem keyVs_dv {K : Frag} {ι : List Addr} {H : Hp} : ∀ {k : List Key}, KOk.ok k = true → DVs K ι H (k.map keyV) (k.map kV)
  | [], _ => DVs.nil
  | k :: ks, h => by
    have h' : (keyOk k && ks.all keyOk) = true := h
    rw [Bool.and_eq_true] at h'
    exact DVs.cons (keyV_dv h'.1) (keyVs_dv (k := ks) h'.2)
def gList (xs : List D) (G : GH) : R D := match xs with
  | [x] => match itemsD G x with
    | some ys => .ok (.ref G.length) (G ++ [.lst ys])
    | none => .st
  | _ => .st
theorem oa_list {K : Frag} : OpA K gList (fun xs H Q => ∃ p ys, xs = [.ref p] ∧ (SqL K H p ys ∨ SqT K H p ys) ∧ ∀ l, H l = none → Q (.ref l) (upd H l (.lst ys))) := by
  intro W σ ι H G xs vs Q r h p
  unfold gList at p
  split at p
  · rename_i x
    obtain ⟨v, rfl, hx⟩ := h.one
    split at p
    · rename_i ys e
      obtain ⟨a, ws, rfl, hv, hq⟩ := items_dv r hx e
      refine ⟨a, ws, rfl, hq, fun l hl => ?_⟩
      obtain ⟨e2, r2, hat⟩ := r.new (u := .lst ws) (o := .lst ys) hl fun e => ⟨_, upd_same, hv.ext e⟩
      exact p.ok e2 r2 (by simp only [DV]; exact ⟨l, hat, rfl⟩)
    · exact False.elim p
  · exact False.elim p
def gTuple (xs : List D) (G : GH) : R D := match xs with
  | [.tup ys] => .ok (.tup ys) G
  | [.ktup ys] => .ok (.ktup ys) G
  | [.scr ys] => .ok (.tup ys) G
  | [.ref i] => match itemsD G (.ref i) with
    | some ys => .ok (.tup ys) G
    | none => .st
  | _ => .st
theorem oa_tuple {K : Frag} : OpA K gTuple (fun xs H Q => ∃ p ys, xs = [.ref p] ∧ ((SqL K H p ys ∧ ∀ l, H l = none → Q (.ref l) (upd H l (.tup ys))) ∨ (SqT K H p ys ∧ Q (.ref p) H))) := by
  intro W σ ι H G xs vs Q r h p
  unfold gTuple at p
  split at p
  · obtain ⟨v, rfl, hx⟩ := h.one
    simp only [DV] at hx
    obtain ⟨a, ws, rfl, q, hv⟩ := hx
    exact ⟨a, ws, rfl, .inr ⟨SqT.of q, p.ok Ext.refl r (by simp only [DV]; exact ⟨a, ws, rfl, q, hv⟩)⟩⟩
  · obtain ⟨v, rfl, hx⟩ := h.one
    simp only [DV] at hx
    obtain ⟨a, ws, rfl, q, hv⟩ := hx
    exact ⟨a, ws, rfl, .inr ⟨.inr q, p.ok Ext.refl r (by simp only [DV]; exact ⟨a, ws, rfl, q, hv⟩)⟩⟩
  · obtain ⟨v, rfl, hx⟩ := h.one
    simp only [DV] at hx
    obtain ⟨a, ws, rfl, q, hv⟩ := hx
    refine ⟨a, ws, rfl, .inl ⟨q.sq, fun l hl => ?_⟩⟩
    obtain ⟨e2, r2⟩ := r.side (o := .tup ws) hl
    exact p.ok e2 r2 (by simp only [DV]; exact ⟨l, _, rfl, upd_same, hv.ext e2⟩)
  · rename_i i
    obtain ⟨v, rfl, hx⟩ := h.one
    split at p
    · rename_i ys e
      simp only [DV] at hx
      obtain ⟨a, hi, rfl⟩ := hx
      have list : ∃ vs, SqL K H a vs ∧ DVs K ι H ys vs := by
        simp only [itemsD] at e
        cases g : G[i]? with
        | none => rw [g] at e; cases e
        | some o =>
          rw [g] at e
          have w := r.at_ i a o hi g
          cases o with
          | lst ys => cases e; obtain ⟨vs, q, h⟩ := w; exact ⟨vs, SqL.of q, h⟩
          | fro ys => cases e; obtain ⟨o, vs, q, h⟩ := w; exact ⟨vs, .inl (.inr ⟨o, q⟩), h⟩
          | _ => cases e
      obtain ⟨ws, q, hv⟩ := list
      refine ⟨a, ws, rfl, .inl ⟨q, fun l hl => ?_⟩⟩
      obtain ⟨e2, r2⟩ := r.side (o := .tup ws) hl
      exact p.ok e2 r2 (by simp only [DV]; exact ⟨l, _, rfl, upd_same, hv.ext e2⟩)
    · exact False.elim p
  · exact False.elim p
/-- dict(d): a copy -/
def gDict (xs : List D) (G : GH) : R D := match xs with
  | [.ref i] => match G[i]? with
    | some (.dK kvs) => .ok (.ref G.length) (G ++ [.dK kvs])
    | _ => .st
  | _ => .st
theorem oa_dict {K : Frag} : OpA K gDict (fun xs H Q => ∃ (a : Addr) (kvs : List (Key × V)), xs = [.ref a] ∧ Rd H a (.dK kvs) ∧ ∀ p, H p = none → Q (.ref p) (upd H p (.dK kvs))) := by
  intro W σ ι H G xs vs Q r h p
  unfold gDict at p
  split at p
  · rename_i i
    obtain ⟨v, rfl, hx⟩ := h.one
    split at p
    · rename_i kvs g
      simp only [DV] at hx
      obtain ⟨a, hi, rfl⟩ := hx
      obtain ⟨ws, q, hv⟩ := r.at_ i a _ hi g
      refine ⟨a, ws, rfl, .inl q, fun l hl => ?_⟩
      obtain ⟨e2, r2, hat⟩ := r.new (u := .dK ws) (o := .dK kvs) hl fun e => ⟨_, upd_same, DKs.ext e hv⟩
      exact p.ok e2 r2 (by simp only [DV]; exact ⟨l, hat, rfl⟩)
    · exact False.elim p
  · exact False.elim p
/-! ### isinstance -/
def tyN (x : D) (G : GH) : Option String := match x with
  | .non => some "NoneType"
  | .bl _ => some "bool"
  | .int _ => some "int"
  | .str _ => some "str"
  | .tup _ => some "tuple"
  | .ktup _ => some "tuple"
  | .scr _ => some "list"
  | .ref i => match G[i]? with
    | some (.lst _) => some "list"
    | some (.dK _) => some "dict"
    | some (.dT _) => some "dict"
    | _ => none
theorem scr_ty {K : Frag} {H : Hp} {a : Addr} {vs : List V} (q : FroL K H a vs) : TyX K H (.ref a) (.type "list") := by
  rcases q with ⟨o, q⟩ | ⟨o, its, n, q1, q2, _⟩
  · exact .base (.frz q)
  · exact .kList q1 q2
theorem tyN_dv {K : Frag} {ι : List Addr} {H : Hp} {G : GH} {x : D} {v : V} {n : String} (r : Rz K ι H G) (hx : DV K ι H x v) (e : tyN x G = some n) : TyX K H v (.type n) := by
  cases x with
  | non => cases e; simp only [DV] at hx; subst hx; exact .base .non
  | bl c => cases e; simp only [DV] at hx; subst hx; exact .base (.bl c)
  | int i => cases e; simp only [DV] at hx; subst hx; exact .base (.int i)
  | str z => cases e; simp only [DV] at hx; obtain ⟨rfl, _⟩ := hx; exact .base (.str z)
  | tup xs => cases e; simp only [DV] at hx; obtain ⟨a, vs, rfl, q, h⟩ := hx; exact .base (.tup q)
  | ktup xs => cases e; simp only [DV] at hx; obtain ⟨a, vs, rfl, ⟨o, its, m, q1, q2, _⟩, h⟩ := hx; exact .kTuple q1 q2
  | scr xs => cases e; simp only [DV] at hx; obtain ⟨a, vs, rfl, q, h⟩ := hx; exact scr_ty q
  | ref i =>
    simp only [DV] at hx
    obtain ⟨a, hi, rfl⟩ := hx
    simp only [tyN] at e
    cases g : G[i]? with
    | none => rw [g] at e; cases e
    | some o =>
      rw [g] at e
      have w := r.at_ i a o hi g
      cases o with
      | lst xs => cases e; obtain ⟨vs, q1, h⟩ := w; exact .base (.lst q1)
      | dK xs => cases e; obtain ⟨vs, q1, h⟩ := w; exact .base (.dK q1)
      | dT xs => cases e; obtain ⟨vs, q1, h⟩ := w; exact .base (.dT q1)
      | _ => cases e
def isiS (T a : String) : Bool := a == T || (T == "int" && a == "bool")
def tyNames : List String := ["NoneType", "bool", "int", "str", "tuple", "list", "dict"]
def isiT : List String := ["bool", "int", "str", "tuple", "list", "dict"]
theorem isi_kit : ∀ T ∈ isiT, ∀ a ∈ tyNames, kitB a T = some (isiS T a) := by decide +kernel
theorem tyN_mem {x : D} {G : GH} {n : String} (e : tyN x G = some n) : n ∈ tyNames := by
  unfold tyN at e
  split at e
  all_goals first | (cases e; decide) | skip
  split at e
  all_goals first | (cases e; decide) | cases e
def gIsi (T : String) (x : D) (G : GH) : R D := match tyN x G with
  | some a => .ok (.bl (isiS T a)) G
  | none => .st
section
variable {X : Cx} {xa : XA} {W : WX} {p p2 pos : Pos} {e : Expr} {f : FE} {T : String} {y : Str}
theorem de_isi (hT : T ∈ isiT) (ha : DE X xa W e f) (hm : X.mg "isinstance" = none) (hmy : X.mg y = none) (hv : bootBuiltins y = some (.type T)) (hg : Gl X "isinstance" := by rfl) (hgy : Gl X y := by rfl) (hn : y ≠ "__name__" := by decide) (hdb : (y == ("__debug__" : Str)) = false := by decide)
    (h1 : starEach (e :: [.Name y p2]) X.env = (false, eval e X.env) :: starEach [.Name y p2] X.env := by rfl) (h2 : starEach [.Name y p2] X.env = (false, eval (.Name y p2) X.env) :: starEach [] X.env := by rfl) (hpl : (backTo pos (starEach [.Name y p2] X.env)).any (·.1) = false := by rfl) :
    DE X xa W (.Call (.Name "isinstance" p) [e, .Name y p2] [] pos) (f1 (gIsi T) f) := by
  refine PEm (pe_callB (r := rIsi X.K) call_isi hg hm (by decide +kernel) (pa_cons ha (pa_cons (pe_bltn hgy hmy hv (v := .ty T) rfl hn hdb) pa_nil h2) h1) (by decide) (by decide) h1 hpl) fun σ H Q ⟨ι, ρ, G, c, q⟩ => ?_
  refine ⟨ι, ρ, G, c, (Post.bind (rel := DV X.K) q).mono fun v H1 ⟨ι1, x, G1, e1, r1, d1, p1⟩ => ?_⟩
  unfold gIsi at p1
  cases z : tyN x G1 with
  | none => rw [z] at p1; exact False.elim p1
  | some a =>
    rw [z] at p1
    exact ⟨v, .ty T, .type a, .type T, isiS T a, rfl, .ty T, tyN_dv r1 d1 z, kit_ty (isi_kit T hT a (tyN_mem z)), p1.ok Ext.refl r1 (by simp only [DV])⟩
end
end F2
end
section
namespace F2
open PySem PySem.Spec PyProof.Rows L2

/-! ### methods of built-in things -/
def isTyM (T : String) (x : D) (G : GH) : Bool := match x with
  | .str _ => T == "str"
  | .ref i => match G[i]? with
    | some (.lst _) => T == "list"
    | some (.fro _) => T == "list"
    | some (.dK _) => T == "dict"
    | some (.dT _) => T == "dict"
    | _ => false
  | _ => false
theorem isTyM_dv {K : Frag} {ι : List Addr} {H : Hp} {G : GH} {x : D} {v : V} {T : String} (r : Rz K ι H G) (hx : DV K ι H x v) (e : isTyM T x G = true) : tyV K T v H := by
  cases x with
  | str z => simp only [DV] at hx; obtain ⟨rfl, _⟩ := hx; exact eq_of_beq e
  | ref i =>
    simp only [DV] at hx
    obtain ⟨a, hi, rfl⟩ := hx
    simp only [isTyM] at e
    cases g : G[i]? with
    | none => rw [g] at e; cases e
    | some o =>
      rw [g] at e
      have w := r.at_ i a o hi g
      cases o with
      | lst xs => obtain ⟨vs, q, h⟩ := w; exact .inl ⟨eq_of_beq e, vs, SqL.of q⟩
      | fro xs => obtain ⟨o, vs, q, h⟩ := w; exact .inl ⟨eq_of_beq e, vs, .inl (.inr ⟨o, q⟩)⟩
      | dK xs => obtain ⟨vs, q, h⟩ := w; exact .inr (.inr (.inl ⟨eq_of_beq e, .inl ⟨vs, q⟩⟩))
      | dT xs => obtain ⟨vs, q, h⟩ := w; exact .inr (.inr (.inl ⟨eq_of_beq e, .inr ⟨vs, q⟩⟩))
      | _ => cases e
  | _ => cases e
def OpM (K : Frag) (g : D → List D → GH → R D) (r : V → List V → Hp → VK → Prop) : Prop :=
  ∀ (W : WX) (σ : L2.St) (ι : List Addr) (H : Hp) (G : GH) (x : D) (v : V) (xs : List D) (vs : List V) (Q : VK), Rz K ι H G → DV K ι H x v → DVs K ι H xs vs → PostE K W σ ι H (g x xs G) Q → r v vs H Q
def fMeth (T : String) (g : D → List D → GH → R D) (f : FE) (as : FA) : FE := fun ρ G => (f ρ G).bind fun x G1 => if isTyM T x G1 = true then (as ρ G1).bind fun xs G2 => g x xs G2 else .st
section
variable {X : Cx} {xa : XA} {W : WX} {apos cpos : Pos} {o e : Expr} {es : List Expr} {f : FE} {as : FA} {name : Str} {T id : String} {r : V → List V → Hp → VK → Prop} {g : D → List D → GH → R D}
theorem de_bm0 (pa : PlainAttrs T) (slot : Slot T name id) (hty : typeOf (.builtin id) = pure (.type "method_descriptor")) (hm : MtR X id r) (hg : OpM X.K g r) (ho : DE X xa W o f)
    (hbase : attributeBase o name X.env (eval o X.env) = eval o X.env := by rfl) (hline : (apos.endLine == cpos.line) = true := by rfl) : DE X xa W (.Call (.Attribute o name apos) [] [] cpos) (fMeth T g f fA0) := by
  refine PEm (pe_bm0 pa slot hty hm ho hbase hline) fun σ H Q ⟨ι, ρ, G, c, p⟩ => ?_
  refine ⟨ι, ρ, G, c, (Post.bind (rel := DV X.K) p).mono fun v H1 ⟨ι1, x, G1, e1, r1, d1, p1⟩ => ?_⟩
  split at p1
  · rename_i ht
    exact ⟨isTyM_dv r1 d1 ht, hg W σ ι1 H1 G1 x v [] [] Q r1 d1 DVs.nil p1⟩
  · exact False.elim p1
theorem de_bm (pa : PlainAttrs T) (slot : Slot T name id) (hty : typeOf (.builtin id) = pure (.type "method_descriptor")) (hm : MtR X id r) (hg : OpM X.K g r) (ho : DE X xa W o f) (ha : DA X xa W (e :: es) as)
    (hbase : attributeBase o name X.env (eval o X.env) = eval o X.env := by rfl)
    (hfew : ((backTo cpos (starEach (e :: es) X.env)).all (fun x => !x.1) && (backToKw cpos (keywordEach [] X.env)).all (fun x => x.1.isSome)
      && decide ((e :: es).length + ([] : List Keyword).length + (if ([] : List Keyword).isEmpty then 0 else 1) < 30)) = true := by rfl)
    (hline : (apos.endLine == cpos.line) = true := by rfl) (hs : starEach (e :: es) X.env = (false, eval e X.env) :: starEach es X.env := by rfl) (hplain : (backTo cpos (starEach es X.env)).any (·.1) = false := by rfl) :
    DE X xa W (.Call (.Attribute o name apos) (e :: es) [] cpos) (fMeth T g f as) := by
  refine PEm (pe_bm pa slot hty hm ho ha hbase hfew hline hs hplain) fun σ H Q ⟨ι, ρ, G, c, p⟩ => ?_
  refine ⟨ι, ρ, G, c, (Post.bind (rel := DV X.K) p).mono fun v H1 ⟨ι1, x, G1, e1, r1, d1, p1⟩ => ?_⟩
  split at p1
  · rename_i ht
    refine ⟨isTyM_dv r1 d1 ht, ι1, ρ, G1, c.ext e1 r1, (Post.bind (rel := DVs X.K) p1).mono fun vs H2 ⟨ι2, xs, G2, e2, r2, d2, p2⟩ => ?_⟩
    exact hg W σ ι2 H2 G2 x v xs vs Q r2 (d1.ext e2) d2 p2
  · exact False.elim p1
end
/-- the changing list at x -/
theorem lst_dv {K : Frag} {ι : List Addr} {H : Hp} {G : GH} {i : Nat} {v : V} {xs : List D} (r : Rz K ι H G) (hx : DV K ι H (.ref i) v) (g : G[i]? = some (.lst xs)) : ∃ a vs, v = .ref a ∧ ι[i]? = some a ∧ H a = some (.lst vs) ∧ DVs K ι H xs vs := by
  simp only [DV] at hx
  obtain ⟨a, hi, rfl⟩ := hx
  obtain ⟨vs, q, h⟩ := r.at_ i a _ hi g
  exact ⟨a, vs, rfl, hi, q, h⟩
theorem wr_lst {vs : List V} : Wr (.lst vs) := ⟨fun _ h => (nomatch h), fun _ _ h => (nomatch h)⟩
theorem wr_dK {vs : List (Key × V)} : Wr (.dK vs) := ⟨fun _ h => (nomatch h), fun _ _ h => (nomatch h)⟩
theorem wr_dT {vs : List (List Key × V)} : Wr (.dT vs) := ⟨fun _ h => (nomatch h), fun _ _ h => (nomatch h)⟩
theorem wr_ins {C dx : Addr} {vs : List (Str × V)} : Wr (.ins C dx vs) := ⟨fun _ h => (nomatch h), fun _ _ h => (nomatch h)⟩
/-- the list at number i becomes ys -/
theorem Rz.relist {K : Frag} {ι : List Addr} {H : Hp} {G : GH} {i : Nat} {a : Addr} {xs ys : List D} {vs ws : List V} (r : Rz K ι H G) (hi : ι[i]? = some a) (g : G[i]? = some (.lst xs)) (q : H a = some (.lst vs)) (h : DVs K ι H ys ws) :
    Ext K ι H ι (upd H a (.lst ws)) ∧ Rz K ι (upd H a (.lst ws)) (G.set i (.lst ys)) :=
  r.write hi g q wr_lst fun e => ⟨ws, upd_same, h.ext e⟩
def gAppend (x : D) (ys : List D) (G : GH) : R D := match x, ys with
  | .ref i, [y] => match G[i]? with
    | some (.lst xs) => if xs.length < 16777216 then .ok .non (G.set i (.lst (xs ++ [y]))) else .st
    | _ => .st
  | _, _ => .st
theorem om_append {K : Frag} : OpM K gAppend rAppend := by
  intro W σ ι H G x v xs vs Q r hx hxs p
  unfold gAppend at p
  split at p
  · rename_i i y
    obtain ⟨w, rfl, hw⟩ := hxs.one
    split at p
    · rename_i xs g
      split at p
      · rename_i hl
        obtain ⟨a, us, rfl, hi, q, h⟩ := lst_dv r hx g
        obtain ⟨e, r'⟩ := r.relist hi g q (h.append (DVs.cons hw DVs.nil))
        exact ⟨a, us, w, rfl, rfl, q, by rw [szl, ← h.length]; exact hl, p.ok e r' (by simp only [DV])⟩
      · exact False.elim p
    · exact False.elim p
  · exact False.elim p
def gExtend (x : D) (ys : List D) (G : GH) : R D := match x, ys with
  | .ref i, [.ref j] => match G[i]?, G[j]? with
    | some (.lst xs), some (.lst zs) => if xs.length + zs.length ≤ 16777216 then .ok .non (G.set i (.lst (xs ++ zs))) else .st
    | _, _ => .st
  | _, _ => .st
theorem om_extend {K : Frag} : OpM K gExtend rExtend := by
  intro W σ ι H G x v xs vs Q r hx hxs p
  unfold gExtend at p
  split at p
  · rename_i i j
    obtain ⟨w, rfl, hw⟩ := hxs.one
    split at p
    · rename_i xs zs g g2
      split at p
      · rename_i hl
        obtain ⟨a, us, rfl, hi, q, h⟩ := lst_dv r hx g
        obtain ⟨b, ws, rfl, hj, q2, h2⟩ := lst_dv r hw g2
        obtain ⟨e, r'⟩ := r.relist hi g q (h.append h2)
        exact ⟨a, b, us, ws, rfl, rfl, q, q2, by rw [szl, ← h.length, ← h2.length]; exact hl, p.ok e r' (by simp only [DV])⟩
      · exact False.elim p
    · exact False.elim p
  · exact False.elim p
def gReverse (x : D) (ys : List D) (G : GH) : R D := match x, ys with
  | .ref i, [] => match G[i]? with
    | some (.lst xs) => .ok .non (G.set i (.lst xs.reverse))
    | _ => .st
  | _, _ => .st
theorem om_reverse {K : Frag} : OpM K gReverse rReverse := by
  intro W σ ι H G x v xs vs Q r hx hxs p
  unfold gReverse at p
  split at p
  · rename_i i
    have e0 := hxs.nil_inv
    subst e0
    split at p
    · rename_i xs g
      obtain ⟨a, us, rfl, hi, q, h⟩ := lst_dv r hx g
      obtain ⟨e, r'⟩ := r.relist hi g q h.reverse
      exact ⟨a, us, rfl, rfl, q, p.ok e r' (by simp only [DV])⟩
    · exact False.elim p
  · exact False.elim p
/-- pop(): of a list; pop(i): of a list; pop(k): of a dict -/
def gPop0 (x : D) (ys : List D) (G : GH) : R D := match x, ys with
  | .ref i, [] => match G[i]? with
    | some (.lst xs) => match xs[xs.length - 1]? with
      | some d => .ok d (G.set i (.lst xs.dropLast))
      | none => .st
    | _ => .st
  | _, _ => .st
theorem om_pop0 {K : Frag} : OpM K gPop0 rPop := by
  intro W σ ι H G x v xs vs Q r hx hxs p
  unfold gPop0 at p
  split at p
  · rename_i i
    have e0 := hxs.nil_inv
    subst e0
    split at p
    · rename_i xs g
      split at p
      · rename_i d hd
        obtain ⟨a, us, rfl, hi, q, h⟩ := lst_dv r hx g
        obtain ⟨e, r'⟩ := r.relist hi g q h.dropLast
        obtain ⟨w, h1, h2⟩ := h.get hd
        exact ⟨a, us, w, rfl, rfl, q, by rw [← h.length]; exact h1, p.ok e r' (h2.ext e)⟩
      · exact False.elim p
    · exact False.elim p
  · exact False.elim p
def gPopAt (x : D) (ys : List D) (G : GH) : R D := match x, ys with
  | .ref i, [.int k] => match G[i]? with
    | some (.lst xs) => if -(2 ^ 63) ≤ k ∧ k < 2 ^ 63 then match seqIndex? k xs.length with
        | some j => match xs[j]? with
          | some d => .ok d (G.set i (.lst (xs.eraseIdx j)))
          | none => .st
        | none => .st
      else .st
    | _ => .st
  | _, _ => .st
theorem om_popAt {K : Frag} : OpM K gPopAt rPopAt := by
  intro W σ ι H G x v xs vs Q r hx hxs p
  unfold gPopAt at p
  split at p
  · rename_i i k
    obtain ⟨w, rfl, hw⟩ := hxs.one
    simp only [DV] at hw
    subst hw
    split at p
    · rename_i xs g
      split at p
      · rename_i hb
        split at p
        · rename_i j hj
          split at p
          · rename_i d hd
            obtain ⟨a, us, rfl, hi, q, h⟩ := lst_dv r hx g
            obtain ⟨e, r'⟩ := r.relist hi g q (h.eraseIdx j)
            obtain ⟨w, h1, h2⟩ := h.get hd
            exact ⟨a, us, k, j, w, rfl, rfl, q, hb.1, hb.2, by rw [← h.length]; exact hj, h1, p.ok e r' (h2.ext e)⟩
          · exact False.elim p
        · exact False.elim p
      · exact False.elim p
    · exact False.elim p
  · exact False.elim p
def gInsert (x : D) (ys : List D) (G : GH) : R D := match x, ys with
  | .ref i, [.int k, y] => match G[i]? with
    | some (.lst xs) => if xs.length < 16777216 ∧ 0 ≤ k ∧ k < 2 ^ 63 then .ok .non (G.set i (.lst (xs.take k.toNat ++ [y] ++ xs.drop k.toNat))) else .st
    | _ => .st
  | _, _ => .st
theorem om_insert {K : Frag} : OpM K gInsert (fun x vs H Q => ∃ (l : Addr) (xs : List V) (i : Int) (y : V), x = .ref l ∧ vs = [.int i, y] ∧ H l = some (.lst xs) ∧ xs.length < sizeLine ∧ 0 ≤ i ∧ i < 2 ^ 63 ∧
    Q .non (upd H l (.lst (xs.take i.toNat ++ [y] ++ xs.drop i.toNat)))) := by
  intro W σ ι H G x v xs vs Q r hx hxs p
  unfold gInsert at p
  split at p
  · rename_i i k y
    obtain ⟨w1, w, rfl, hw1, hw⟩ := hxs.two
    simp only [DV] at hw1
    subst hw1
    split at p
    · rename_i xs g
      split at p
      · rename_i hb
        obtain ⟨a, us, rfl, hi, q, h⟩ := lst_dv r hx g
        obtain ⟨e, r'⟩ := r.relist hi g q (((h.take k.toNat).append (DVs.cons hw DVs.nil)).append (h.drop k.toNat))
        exact ⟨a, us, k, w, rfl, rfl, q, by rw [szl, ← h.length]; exact hb.1, hb.2.1, hb.2.2, p.ok e r' (by simp only [DV])⟩
      · exact False.elim p
    · exact False.elim p
  · exact False.elim p
/-- xs.index(y): the place of the first equal item -/
def ixP (p : PyData) : List PyData → Option Nat
  | [] => none
  | z :: zs => if PyData.eqv z p = true then some 0 else (ixP p zs).map (· + 1)
theorem ixP_some {p : PyData} : ∀ {zs : List PyData} {j : Nat}, ixP p zs = some j → ∃ z, zs[j]? = some z ∧ PyData.eqv z p = true ∧ ∀ (m : Nat) (z' : PyData), m < j → zs[m]? = some z' → PyData.eqv z' p = false
  | [], _, h => by cases h
  | z :: zs, j, h => by
    unfold ixP at h
    split at h
    · cases h
      exact ⟨z, rfl, by assumption, fun m z' hm => absurd hm (Nat.not_lt_zero _)⟩
    · rename_i hn
      obtain ⟨k, hk, rfl⟩ := Option.map_eq_some_iff.mp h
      obtain ⟨w, h1, h2, h3⟩ := ixP_some hk
      refine ⟨w, by simpa using h1, h2, fun m z' hm hz => ?_⟩
      cases m with
      | zero => simp at hz; subst hz; simpa using hn
      | succ m => exact h3 m z' (by omega) (by simpa using hz)
def gIndex (x : D) (ys : List D) (G : GH) : R D := match ys with
  | [y] => match py G 64 x, py G 64 y with
    | some (.list ps), some p => match ixP p ps with
      | some j => .ok (.int (j : Nat)) G
      | none => .st
    | _, _ => .st
  | _ => .st
theorem om_index {K : Frag} : OpM K gIndex (rIndexD K) := by
  intro W σ ι H G x v xs vs Q r hx hxs p
  unfold gIndex at p
  split at p
  · rename_i y
    obtain ⟨w, rfl, hw⟩ := hxs.one
    split at p
    · rename_i ps pp e1 e2
      split at p
      · rename_i j hj
        have z1 := py_ok r 64 x v _ e1 hx
        have z2 := py_ok r 64 y w _ e2 hw
        obtain ⟨z, h1, h2, h3⟩ := ixP_some hj
        have hd := z1.dp
        cases hd with
        | lst hs ha => exact ⟨_, w, pp, ps, j, z, rfl, rfl, .lst hs ha, z2.dp, z1.shaped, z2.shaped, h1, h2, h3, p.ok Ext.refl r (by simp only [DV])⟩
      · exact False.elim p
    · exact False.elim p
  · exact False.elim p

/-! ### attributes -/
def lookD (f : Str) (fs : List (Str × D)) : Option D := List.lookup f fs
theorem DKs.lookup {K : Frag} {ι : List Addr} {H : Hp} {f : Str} : ∀ {fs : List (Str × D)} {vs : List (Str × V)}, DKs K ι H fs vs → match List.lookup f fs with
    | none => List.lookup f vs = none
    | some d => ∃ v, List.lookup f vs = some v ∧ DV K ι H d v
  | _, _, .nil => rfl
  | p :: fs, q :: vs, .cons ⟨h1, h2, h3⟩ t => by
    obtain ⟨a, x⟩ := p
    obtain ⟨b, y⟩ := q
    have h1' : a = b := h1
    subst h1'
    have ih := DKs.lookup (f := f) t
    by_cases e : f = a
    · have eb : (f == a) = true := beq_iff_eq.mpr e
      simp only [List.lookup, eb]
      exact ⟨y, rfl, h2⟩
    · have eb : (f == a) = false := beq_eq_false_iff_ne.mpr e
      simp only [List.lookup, eb]
      exact ih
def putFD (f : Str) (v : D) : List (Str × D) → List (Str × D)
  | [] => [(f, v)]
  | (g, x) :: r => if g = f then (g, v) :: r else (g, x) :: putFD f v r
theorem DKs.putF {K : Frag} {ι : List Addr} {H : Hp} {f : Str} {d : D} {v : V} (hv : DV K ι H d v) : ∀ {fs : List (Str × D)} {vs : List (Str × V)}, DKs K ι H fs vs → DKs K ι H (putFD f d fs) (L2.putF f v vs)
  | _, _, .nil => .cons ⟨rfl, hv, rfl⟩ .nil
  | p :: fs, q :: vs, .cons ⟨h1, h2, h3⟩ t => by
    obtain ⟨a, x⟩ := p
    obtain ⟨b, y⟩ := q
    have h1' : a = b := h1
    subst h1'
    have ih := DKs.putF (f := f) hv t
    show DKs K ι H (if a = f then (a, d) :: fs else (a, x) :: putFD f d fs) (if a = f then (a, v) :: vs else (a, y) :: L2.putF f v vs)
    by_cases e : a = f
    · rw [if_pos e, if_pos e]; exact .cons ⟨rfl, hv, rfl⟩ t
    · rw [if_neg e, if_neg e]; exact .cons ⟨rfl, h2, rfl⟩ ih
def gFld (C f : Str) (x : D) (G : GH) : R D := match x with
  | .ref i => match G[i]? with
    | some (.ins c fs) => if c = C then match List.lookup f fs with
        | some d => .ok d G
        | none => .st
      else .st
    | _ => .st
  | _ => .st
section
variable {X : Cx} {xa : XA} {W : WX} {e : Expr} {f : FE} {C n : Str} {pos : Pos}
theorem de_fld (cl : Cls X.K (He.ga X.K C)) (na : NoAttr X.K (He.ga X.K C) n) (he : DE X xa W e f) (hb : attributeBase e n X.env (eval e X.env) = eval e X.env := by rfl) : DE X xa W (.Attribute e n pos) (f1 (gFld C n) f) := by
  refine PEm (pe_fld he hb) (tE_un (r := fun x H1 Q => ∃ a C dx fs v, x = .ref a ∧ H1 a = some (.ins C dx fs) ∧ Cls X.K C ∧ NoAttr X.K C n ∧ fs.lookup n = some v ∧ Q v H1) fun W σ ι H G x v Q r d p => ?_)
  unfold gFld at p
  split at p
  · rename_i i
    split at p
    · rename_i c fs g
      split at p
      · rename_i hc
        subst hc
        simp only [DV] at d
        obtain ⟨a, hi, rfl⟩ := d
        obtain ⟨dx, vs, q, h⟩ := r.at_ i a _ hi g
        have w := h.lookup (f := n)
        split at p
        · rename_i z e
          rw [e] at w
          obtain ⟨u, w1, w2⟩ := w
          exact ⟨a, _, dx, vs, u, rfl, q, cl, na, w1, p.ok Ext.refl r w2⟩
        · exact False.elim p
      · exact False.elim p
    · exact False.elim p
  · exact False.elim p
end

/-! ### dict displays -/
def fD0K : FE := fun _ G => .ok (.ref G.length) (G ++ [.dK []])
def fD0T : FE := fun _ G => .ok (.ref G.length) (G ++ [.dT []])
def putKD {κ : Type} [DecidableEq κ] (kvs : List (κ × D)) (k : κ) (v : D) : List (κ × D) :=
  if (kvs.any fun kv => decide (kv.1 = k)) = true then kvs.map (fun kv => if kv.1 = k then (kv.1, v) else kv) else kvs ++ [(k, v)]
theorem DKs.append {K : Frag} {ι : List Addr} {H : Hp} {κ : Type} [KOk κ] : ∀ {a b : List (κ × D)} {x y : List (κ × V)}, DKs K ι H a x → DKs K ι H b y → DKs K ι H (a ++ b) (x ++ y)
  | _, _, _, _, .nil, h => h
  | _, _, _, _, .cons p t, h => .cons p (DKs.append t h)
theorem DKs.any {K : Frag} {ι : List Addr} {H : Hp} {κ : Type} [KOk κ] [DecidableEq κ] {k : κ} : ∀ {a : List (κ × D)} {x : List (κ × V)}, DKs K ι H a x → (a.any fun kv => decide (kv.1 = k)) = x.any fun kv => decide (kv.1 = k)
  | _, _, .nil => rfl
  | _, _, .cons p t => by rw [List.any_cons, List.any_cons, DKs.any t, p.1]
theorem DKs.repl {K : Frag} {ι : List Addr} {H : Hp} {κ : Type} [KOk κ] [DecidableEq κ] {k : κ} {d : D} {v : V} (hv : DV K ι H d v) : ∀ {a : List (κ × D)} {x : List (κ × V)}, DKs K ι H a x → DKs K ι H (a.map fun kv => if kv.1 = k then (kv.1, d) else kv) (x.map fun kv => if kv.1 = k then (kv.1, v) else kv)
  | _, _, .nil => .nil
  | p :: a, q :: x, .cons hp t => by
    refine .cons ?_ (DKs.repl hv t)
    have h1 := hp.1
    dsimp only
    by_cases e : p.1 = k
    · rw [if_pos e, if_pos (by rw [← h1]; exact e)]; exact ⟨h1, hv, hp.2.2⟩
    · rw [if_neg e, if_neg (by rw [← h1]; exact e)]; exact hp
theorem DKs.put {K : Frag} {ι : List Addr} {H : Hp} {κ : Type} [KOk κ] [DecidableEq κ] {k : κ} {d : D} {v : V} (hk : KOk.ok k = true) (hv : DV K ι H d v) {a : List (κ × D)} {x : List (κ × V)} (h : DKs K ι H a x) : DKs K ι H (putKD a k d) (putK x k v) := by
  unfold putKD putK
  rw [h.any (k := k)]
  split
  · exact DKs.repl hv h
  · exact DKs.append h (.cons ⟨rfl, hv, hk⟩ .nil)
def dropKD {κ : Type} [DecidableEq κ] (kvs : List (κ × D)) (k : κ) : List (κ × D) := kvs.filter fun kv => decide (kv.1 ≠ k)
theorem DKs.drop {K : Frag} {ι : List Addr} {H : Hp} {κ : Type} [KOk κ] [DecidableEq κ] {k : κ} : ∀ {a : List (κ × D)} {x : List (κ × V)}, DKs K ι H a x → DKs K ι H (dropKD a k) (dropK x k)
  | _, _, .nil => .nil
  | p :: a, q :: x, .cons hp t => by
    have ih := DKs.drop (k := k) t
    unfold dropKD dropK at ih ⊢
    rw [List.filter_cons, List.filter_cons, hp.1]
    split
    · exact .cons hp ih
    · exact ih
/-- the pairs, one after another -/
def fPairs : List (FE × FE) → Rho → GH → R (List (D × D))
  | [], _, G => .ok [] G
  | (k, v) :: r, ρ, G => (k ρ G).bind fun x G1 => (v ρ G1).bind fun y G2 => (fPairs r ρ G2).bind fun ps G3 => .ok ((x, y) :: ps) G3
def mergeD : List (Key × D) → List (D × D) → Option (List (Key × D))
  | acc, [] => some acc
  | acc, (x, y) :: r => match keyD x with
    | some k => mergeD (putKD acc k y) r
    | none => none
def fDisp (ps : List (FE × FE)) : FE := fun ρ G => (fPairs ps ρ (G ++ [.dK []])).bind fun xs G1 => if xs.length ≤ 15 then match G1[G.length]? with
    | some (.dK []) => match mergeD [] xs with
      | some kvs => .ok (.ref G.length) (G1.set G.length (.dK kvs))
      | none => .st
    | _ => .st
  else .st
def DVV (K : Frag) (ι : List Addr) (H : Hp) : List (D × D) → List (V × V) → Prop := Paired fun p q => DV K ι H p.1 q.1 ∧ DV K ι H p.2 q.2
inductive DPs (X : Cx) (xa : XA) (W : WX) : List (Option Expr) → List Expr → List (FE × FE) → Prop
  | nil : DPs X xa W [] [] []
  | cons {k v : Expr} {ks : List (Option Expr)} {vs : List Expr} {f g : FE} {r : List (FE × FE)} (hk : DE X xa W k f) (hv : DE X xa W v g) (hr : DPs X xa W ks vs r) : DPs X xa W (some k :: ks) (v :: vs) ((f, g) :: r)
section
variable {X : Cx} {xa : XA} {W : WX} {pos : Pos}
theorem dps_pps {ks : List (Option Expr)} {vs : List Expr} {ps : List (FE × FE)} (h : DPs X xa W ks vs ps) : PPs X pos ks vs (ps.map fun q => (tE X.K xa W q.1, tE X.K xa W q.2)) := by
  induction h with
  | nil => exact pps_nil
  | cons hk hv hr ih => exact pps_cons hk hv ih
theorem pairs_read {K : Frag} : ∀ {ps : List (FE × FE)} {ι : List Addr} {H : Hp} {ρ : Rho} {σ : L2.St} {G : GH} {Q : List (V × V) → Hp → Prop}, Cfg K xa ι H ρ σ G → Post K W σ ι H (DVV K) (fPairs ps ρ G) Q → tPairs (ps.map fun q => (tE K xa W q.1, tE K xa W q.2)) σ H Q
  | [], ι, H, ρ, σ, G, Q, c, p => p.ok Ext.refl c.rz .nil
  | (f, g) :: r, ι, H, ρ, σ, G, Q, c, p => by
    refine ⟨ι, ρ, G, c, (Post.bind (rel := DV K) p).mono fun v H1 ⟨ι1, x, G1, e1, r1, d1, p1⟩ => ?_⟩
    refine ⟨ι1, ρ, G1, c.ext e1 r1, (Post.bind (rel := DV K) p1).mono fun v2 H2 ⟨ι2, y, G2, e2, r2, d2, p2⟩ => ?_⟩
    refine pairs_read ((c.ext e1 r1).ext e2 r2) ((Post.bind (rel := DVV K) p2).mono fun vs H3 ⟨ι3, ys, G3, e3, r3, d3, p3⟩ => ?_)
    exact p3.ok Ext.refl r3 (.cons ⟨(d1.ext e2).ext e3, d2.ext e3⟩ d3)
theorem merge_dv {K : Frag} {ι : List Addr} {H : Hp} : ∀ {xs : List (D × D)} {vs : List (V × V)} {acc kvs : List (Key × D)} {acc' : List (Key × V)}, DVV K ι H xs vs → DKs K ι H acc acc' → mergeD acc xs = some kvs →
    ∃ ks : List (Key × V), vs = ks.map (fun kv => (kV kv.1, kv.2)) ∧ DKs K ι H kvs (mergeK acc' ks)
  | _, _, acc, kvs, acc', .nil, ha, e => by cases e; exact ⟨[], rfl, ha⟩
  | (x, y) :: xs, (v, w) :: vs, acc, kvs, acc', .cons ⟨h1, h2⟩ t, ha, e => by
    unfold mergeD at e
    split at e
    · rename_i k hk
      obtain ⟨ks, e1, h3⟩ := merge_dv t (DKs.put (k := k) (keyD_ok hk h1) h2 ha) e
      have hv : v = kV k := keyD_dv hk h1
      exact ⟨(k, w) :: ks, by rw [e1, hv]; rfl, h3⟩
    · cases e
theorem de_d0K : DE X xa W (.Dict [] [] pos) fD0K := by
  refine PEm pe_dnewK fun σ H Q ⟨ι, ρ, G, c, p⟩ q hq => ?_
  obtain ⟨e2, r2, hat⟩ := c.rz.new (u := .dK []) (o := .dK []) hq fun e => ⟨[], upd_same, .nil⟩
  exact p.ok e2 r2 (by simp only [DV]; exact ⟨q, hat, rfl⟩)
theorem de_d0T : DE X xa W (.Dict [] [] pos) fD0T := by
  refine PEm pe_dnewT fun σ H Q ⟨ι, ρ, G, c, p⟩ q hq => ?_
  obtain ⟨e2, r2, hat⟩ := c.rz.new (u := .dT []) (o := .dT []) hq fun e => ⟨[], upd_same, .nil⟩
  exact p.ok e2 r2 (by simp only [DV]; exact ⟨q, hat, rfl⟩)
theorem de_disp {keys : List (Option Expr)} {values : List Expr} {ps : List (FE × FE)} (h : DPs X xa W keys values ps) (hall : keys.all (·.isSome) = true := by rfl) (hl : keys.length = values.length := by rfl) (h0 : keys ≠ [] := by exact (fun z => by cases z)) (h15 : keys.length ≤ 15 := by decide) :
    DE X xa W (.Dict keys values pos) (fDisp ps) := by
  refine PEm (pe_disp (dps_pps h) hall hl h0 (by first | exact h15 | omega)) fun σ H Q ⟨ι, ρ, G, c, p⟩ q hq => ?_
  obtain ⟨e0, r0, hat⟩ := c.rz.new (u := .dK []) (o := .dK []) hq fun e => ⟨[], upd_same, .nil⟩
  refine pairs_read (c.ext e0 r0) ((Post.bind (rel := DVV X.K) (p.shift e0)).mono fun vs H1 ⟨ι1, xs, G1, e1, r1, d1, p1⟩ => ?_)
  split at p1
  · rename_i hl
    split at p1
    · rename_i g
      split at p1
      · rename_i kvs hm
        have hq1 := e1.at hat
        obtain ⟨us, q1, h1⟩ := r1.at_ _ q _ hq1 g
        have hu : us = [] := by cases h1; rfl
        subst hu
        obtain ⟨ks, e2, h2⟩ := merge_dv d1 (acc' := []) .nil hm
        refine ⟨q1, ks, e2, by rw [e2] at d1; have := Paired.length d1; simp at this; omega, ?_⟩
        obtain ⟨e3, r3⟩ := r1.write hq1 g q1 wr_dK (u := .dK (mergeK [] ks)) (o' := .dK kvs) fun e => ⟨_, upd_same, DKs.ext e h2⟩
        exact p1.ok e3 r3 (by simp only [DV]; exact ⟨q, e3.at hq1, rfl⟩)
      · exact False.elim p1
    · exact False.elim p1
  · exact False.elim p1
end
end F2
end
section
namespace F2
open PySem PySem.Spec PyProof.Rows L2

/-! ### targets -/
inductive Pat where
  | nm (i : Nat) | tu (ps : List Pat)
mutual
def setP : Pat → D → Rho → Option Rho
  | .nm i, d, ρ => some (ρ.set i (some d))
  | .tu ps, d, ρ => match asTup d with
    | some xs => setPs ps xs ρ
    | none => none
def setPs : List Pat → List D → Rho → Option Rho
  | [], [], ρ => some ρ
  | p :: ps, x :: xs, ρ => match setP p x ρ with
    | some ρ' => setPs ps xs ρ'
    | none => none
  | _, _, _ => none
end
mutual
def Pat.slots : Pat → List Nat
  | .nm i => [i]
  | .tu ps => Pat.slotsL ps
def Pat.slotsL : List Pat → List Nat
  | [] => []
  | p :: ps => p.slots ++ Pat.slotsL ps
end
/-- the slots outside l are as they were -/
def SameOut (l : List Nat) (σ σ' : L2.St) : Prop := σ'.length = σ.length ∧ ∀ i, i ∉ l → σ'[i]? = σ[i]?
theorem SameOut.refl {l : List Nat} {σ : L2.St} : SameOut l σ σ := ⟨rfl, fun _ _ => rfl⟩
theorem SameOut.trans {l : List Nat} {σ σ1 σ2 : L2.St} (a : SameOut l σ σ1) (b : SameOut l σ1 σ2) : SameOut l σ σ2 := ⟨b.1.trans a.1, fun i h => (b.2 i h).trans (a.2 i h)⟩
theorem SameOut.mono {l m : List Nat} {σ σ' : L2.St} (a : SameOut l σ σ') (h : ∀ i ∈ l, i ∈ m) : SameOut m σ σ' := ⟨a.1, fun i hi => a.2 i fun z => hi (h i z)⟩
def tG (K : Frag) (xa : XA) (p : Pat) : TG := fun v σ H Q => ∃ ι ρ G d, Cfg K xa ι H ρ σ G ∧ DV K ι H d v ∧ match setP p d ρ with
  | some ρ' => ∀ σ', Cfg K xa ι H ρ' σ' G → SameOut p.slots σ σ' → Q σ' H
  | none => False
def tGs (K : Frag) (xa : XA) (ps : List Pat) : TGs := fun vs σ H Q => ∃ ι ρ G ds, Cfg K xa ι H ρ σ G ∧ DVs K ι H ds vs ∧ match setPs ps ds ρ with
  | some ρ' => ∀ σ', Cfg K xa ι H ρ' σ' G → SameOut (Pat.slotsL ps) σ σ' → Q σ' H
  | none => False
def DG (X : Cx) (xa : XA) (e : Expr) (p : Pat) : Prop := PG X e (tG X.K xa p)
def DGs (X : Cx) (xa : XA) (es : List Expr) (ps : List Pat) : Prop := PGs X es (tGs X.K xa ps)
section
variable {X : Cx} {xa : XA} {pos : Pos}
theorem dg_name {i : Nat} {x : Str} (hN : X.N.Nodup) (hn : XaNo xa i) (hi : X.N[i]? = some x := by rfl) (hx : Loc X.env.scope x := by first | exact Or.inl rfl | exact Or.inr rfl) (hf : X.fn x = true ∨ X.env.scope.names.lookup x = some .local := by first | exact .inl rfl | exact .inr rfl | assumption) : DG X xa (.Name x pos) (.nm i) := by
  refine ⟨fun pins s σ H v u Q I r ⟨ι, ρ, G, d, c, hd, h⟩ => ?_⟩
  refine (pg_name hN hi hx hf).run pins s σ H v u Q I r ?_
  refine (show ∀ σ', Cfg X.K xa ι H (ρ.set i (some d)) σ' G → SameOut [i] σ σ' → Q σ' H from h) _ (c.set hd hn) ⟨by simp, fun j hj => ?_⟩
  rw [List.getElem?_set_ne (by rintro rfl; exact hj (by simp))]
theorem dgs_nil : DGs X xa [] [] := ⟨fun pins s σ H vs us Q I r ⟨ι, ρ, G, ds, c, hd, h⟩ => by
  refine pgs_nil.run pins s σ H vs us Q I r ?_
  cases ds with
  | nil => exact ⟨hd.nil_inv, (show ∀ σ', Cfg X.K xa ι H ρ σ' G → SameOut [] σ σ' → Q σ' H from h) _ c .refl⟩
  | cons d ds => exact False.elim h⟩
theorem dgs_cons {e : Expr} {es : List Expr} {p : Pat} {ps : List Pat} (h1 : DG X xa e p) (h2 : DGs X xa es ps) (hs : (assignEach (e :: es) X.env).map (·.2) = assign e X.env :: (assignEach es X.env).map (·.2) := by rfl) : DGs X xa (e :: es) (p :: ps) := ⟨fun pins s σ H vs us Q I r ⟨ι, ρ, G, ds, c, hd, h⟩ => by
  refine (pgs_cons h1 h2 hs).run pins s σ H vs us Q I r ?_
  cases ds with
  | nil => exact False.elim h
  | cons d ds =>
    obtain ⟨v, vr, rfl, hv, hr⟩ := hd.cons_inv
    refine ⟨v, vr, rfl, ι, ρ, G, d, c, hv, ?_⟩
    simp only [setPs] at h
    cases e : setP p d ρ with
    | none => rw [e] at h; exact False.elim h
    | some ρ1 =>
      rw [e] at h
      intro σ1 c1 o1
      refine ⟨ι, ρ1, G, ds, c1, hr, ?_⟩
      cases e2 : setPs ps ds ρ1 with
      | none => simp only [e2] at h
      | some ρ2 =>
        simp only [e2] at h
        intro σ2 c2 o2
        refine h σ2 c2 ((o1.mono fun i hi => ?_).trans (o2.mono fun i hi => ?_))
        · simp only [Pat.slotsL, List.mem_append]; exact .inl hi
        · simp only [Pat.slotsL, List.mem_append]; exact .inr hi⟩
theorem setPs_len : ∀ {ps : List Pat} {ds : List D} {ρ ρ' : Rho}, setPs ps ds ρ = some ρ' → ds.length = ps.length
  | [], [], _, _, _ => rfl
  | p :: ps, d :: ds, ρ, ρ', h => by
    simp only [setPs] at h
    cases e : setP p d ρ with
    | none => rw [e] at h; cases h
    | some ρ1 => rw [e] at h; simp [setPs_len h]
  | [], _ :: _, _, _, h => by simp [setPs] at h
  | _ :: _, [], _, _, h => by simp [setPs] at h
theorem dg_tup {es : List Expr} {k : Nat} {ps : List Pat} {n : Nat} (hc : X.calm = true) (h : DGs X xa es ps) (hl : ps.length = n) (hn : (assignEach es X.env).length = n := by rfl) (hst : (assignEach es X.env).findIdx? (·.1) = none := by rfl) : DG X xa (.Tuple es k pos) (.tu ps) := by
  refine ⟨fun pins s σ H v u Q I r ⟨ι, ρ, G, d, c, hd, hh⟩ => ?_⟩
  refine (pg_tup hc h hn hst).run pins s σ H v u Q I r ?_
  simp only [setP] at hh
  cases e : asTup d with
  | none => rw [e] at hh; exact False.elim hh
  | some xs =>
    rw [e] at hh
    dsimp only at hh
    obtain ⟨a, vs, rfl, q, hv⟩ := asTup_dv e hd
    cases e2 : setPs ps xs ρ with
    | none => rw [e2] at hh; exact False.elim hh
    | some ρ' =>
      rw [e2] at hh
      refine ⟨a, vs, rfl, q, by rw [← hv.length, setPs_len e2, hl], ι, ρ, G, xs, c, hv, ?_⟩
      rw [e2]
      intro σ' c' o'
      refine hh σ' c' (o'.mono fun i hi => ?_)
      simp only [Pat.slots]; exact hi
end

/-! ### statements -/
def sNil : FS := fun ρ G => .nx ρ G
def sSeq (s t : FS) : FS := fun ρ G => match s ρ G with
  | .nx ρ' G' => t ρ' G'
  | r => r
def sExpr (f : FE) : FS := fun ρ G => (f ρ G).toS ρ fun _ G1 => .nx ρ G1
def sRet (f : FE) : FS := fun ρ G => (f ρ G).toS ρ fun d G1 => .rt d G1
def sRetN : FS := fun _ G => .rt .non G
def sIf (t : FT) (a b : FS) : FS := fun ρ G => (t ρ G).toS ρ fun c G1 => if c = true then a ρ G1 else b ρ G1
def sSet (p : Pat) (f : FE) : FS := fun ρ G => (f ρ G).toS ρ fun d G1 => match setP p d ρ with
  | some ρ' => .nx ρ' G1
  | none => .st
def sBrk : FS := fun ρ G => .bk ρ G
def sCont : FS := fun ρ G => .ct ρ G
section
variable {X : Cx} {xa : XA} {W : WX} {st : Stmt} {rest : List Stmt} {s t : FS} {e : Expr} {f : FE} {pos : Pos}
theorem dss_nil : DSs X xa W [] sNil := PSsm pss_nil fun N σ H ⟨ι, ρ, G, c, p⟩ => p ι H σ Ext.refl c
theorem dss_cons (h1 : DS X xa W st s) (h2 : DSs X xa W rest t) : DSs X xa W (st :: rest) (sSeq s t) := by
  refine PSsm (pss_cons h1 h2) fun N σ H ⟨ι, ρ, G, c, p⟩ => ⟨ι, ρ, G, c, ?_⟩
  unfold sSeq at p
  cases e : s ρ G with
  | nx ρ' G' =>
    rw [e] at p
    exact fun ι' H' σ' x c' => ⟨ι', ρ', G', c', PostS.shift (show PostS X.K xa W σ ι H (t ρ' G') N from p) x |> fun q => by
      cases z : t ρ' G' with
      | nx a b => rw [z] at q; exact q
      | bk a b => rw [z] at q; exact q
      | ct a b => rw [z] at q; exact q
      | rt a b => rw [z] at q; exact q
      | er a b c d => rw [z] at q; exact q
      | st => rw [z] at q; exact q⟩
  | bk ρ' G' => rw [e] at p; exact p
  | ct ρ' G' => rw [e] at p; exact p
  | rt d G' => rw [e] at p; exact p
  | er cc j ρ' G' => rw [e] at p; exact p
  | st => rw [e] at p; exact p
theorem dss_one (h1 : DS X xa W st s) : DSs X xa W [st] s := pss_one h1
theorem ds_doc {x j pos pos'} : DS X xa W (.Expr (.Constant (.str x) j pos) pos') sNil := PSm ps_doc fun N σ H ⟨ι, ρ, G, c, p⟩ => p ι H σ Ext.refl c
theorem ds_pass : DS X xa W (.Pass pos) sNil := PSm ps_pass fun N σ H ⟨ι, ρ, G, c, p⟩ => p ι H σ Ext.refl c
theorem ds_break : DS X xa W (.Break pos) sBrk := PSm ps_break fun N σ H ⟨ι, ρ, G, c, p⟩ => p ι H σ Ext.refl c
theorem ds_continue : DS X xa W (.Continue pos) sCont := PSm ps_continue fun N σ H ⟨ι, ρ, G, c, p⟩ => p ι H σ Ext.refl c
theorem ds_expr (he : DE X xa W e f) (hs : swapsWith e none pos.line X.env = pure false := by rfl) : DS X xa W (.Expr e pos) (sExpr f) :=
  PSm (ps_expr he hs) fun N σ H ⟨ι, ρ, G, c, p⟩ => ⟨ι, ρ, G, c, (PostS.bind (rel := DV X.K) c p).mono fun v H1 ⟨ι1, x, G1, e1, c1, d1, p1⟩ => p1 ι1 H1 σ Ext.refl c1⟩
theorem ds_ret (he : DE X xa W e f) : DS X xa W (.Return (some e) pos) (sRet f) :=
  PSm (ps_ret he) fun N σ H ⟨ι, ρ, G, c, p⟩ => ⟨ι, ρ, G, c, (PostS.bind (rel := DV X.K) c p).mono fun v H1 ⟨ι1, x, G1, e1, c1, d1, p1⟩ => p1 ι1 H1 v Ext.refl c1.rz d1⟩
theorem ds_retN : DS X xa W (.Return none pos) sRetN := PSm ps_retN fun N σ H ⟨ι, ρ, G, c, p⟩ => p ι H .non Ext.refl c.rz (by simp only [DV])
theorem ds_if {cnd : Expr} {a b : List Stmt} {tc : FT} (hc : DT X xa W cnd tc) (ha : DSs X xa W a s) (hb : DSs X xa W b t) : DS X xa W (.If cnd a b pos) (sIf tc s t) := by
  refine PSm (ps_if hc ha hb) fun N σ H ⟨ι, ρ, G, c, p⟩ => ⟨ι, ρ, G, c, (PostS.bind (rel := fun _ _ a v => v = a) c p).mono fun v H1 ⟨ι1, x, G1, e1, c1, d1, p1⟩ => ?_⟩
  subst d1
  have fix : ∀ {r : RS}, PostS X.K xa W σ ι1 H1 r N → PostS X.K xa W σ ι1 H1 r N := fun q => q
  cases v with
  | true => exact ⟨ι1, ρ, G1, c1, p1⟩
  | false => exact ⟨ι1, ρ, G1, c1, p1⟩
/-- name = e -/
theorem ds_set {i : Nat} {x : Str} {pos' : Pos} (he : DE X xa W e f) (hN : X.N.Nodup) (hn : XaNo xa i) (hi : X.N[i]? = some x := by rfl) (hx : Loc X.env.scope x := by first | exact Or.inl rfl | exact Or.inr rfl) (hs : swapsWith e (some (.Name x pos')) pos.line X.env = pure false := by rfl) (hf : X.fn x = true ∨ X.env.scope.names.lookup x = some .local := by first | exact .inl rfl | exact .inr rfl | assumption) :
    DS X xa W (.Assign [.Name x pos'] e pos) (sSet (.nm i) f) :=
  PSm (ps_set hN hi hx he hs hf) fun N σ H ⟨ι, ρ, G, c, p⟩ => ⟨ι, ρ, G, c, (PostS.bind (rel := DV X.K) c p).mono fun v H1 ⟨ι1, x, G1, e1, c1, d1, p1⟩ =>
    (show PostS X.K xa W σ ι1 H1 (.nx (ρ.set i (some x)) G1) N from p1) ι1 H1 _ Ext.refl (c1.set d1 hn)⟩
/-- a, b = e -/
theorem ds_unp {tg : Expr} {pt : Pat} (he : DE X xa W e f) (hg : DG X xa tg pt) (hs : swapsWithSole [tg] e pos.line X.env = pure false := by rfl) (hw : swappedStores [tg] e X.env = pure none := by rfl) (h1 : (assignEach [tg] X.env).map (·.2) = [assign tg X.env] := by rfl) : DS X xa W (.Assign [tg] e pos) (sSet pt f) := by
  refine PSm (ps_asg he hg hs hw h1) fun N σ H ⟨ι, ρ, G, c, p⟩ => ⟨ι, ρ, G, c, (PostS.bind (rel := DV X.K) c p).mono fun v H1 ⟨ι1, x, G1, e1, c1, d1, p1⟩ => ?_⟩
  refine ⟨ι1, ρ, G1, x, c1, d1, ?_⟩
  cases z : setP pt x ρ with
  | none => rw [z] at p1; exact p1
  | some ρ' =>
    rw [z] at p1
    exact fun σ' c' _ => p1 ι1 H1 σ' Ext.refl c'
/-! ### stores -/
def gSetIx (o i v : D) (G : GH) : R Unit := match o with
  | .ref n => match G[n]? with
    | some (.lst xs) => match i with
      | .int k => match ixN xs.length k with
        | some j => .ok () (G.set n (.lst (xs.set j v)))
        | none => .st
      | _ => .st
    | some (.dK kvs) => match keyD i with
      | some k => if kvs.length < 16777216 then .ok () (G.set n (.dK (putKD kvs k v))) else .st
      | none => .st
    | some (.dT kvs) => match i with
      | .tup xs => match keysD xs with
        | some k => if kvs.length < 16777216 then .ok () (G.set n (.dT (putKD kvs k v))) else .st
        | none => .st
      | _ => .st
    | _ => .st
  | _ => .st
def rSetX : V → V → V → Hp → (Hp → Prop) → Prop := fun o i v H Q => rSetL o i v H Q ∨ ∃ a H4, o = .ref a ∧ DPut H a i v H4 ∧ Q H4
theorem set_any (hu : X.A.units + 100 < cLine) : PSet X rSetX := by
  intro pins s σ H o i v ov iv u Q I r1 r2 r3 h
  rcases h with h | ⟨a, H4, rfl, g, q⟩
  · exact set_list pins s σ H o i v ov iv u Q I r1 r2 r3 h
  · cases r1
    exact d_setItem (by omega) I g r2 r3 fun s' I' => ⟨H4, I', q⟩
theorem setIx_post {K : Frag} {W : WX} {σ : L2.St} {ι : List Addr} {H : Hp} {G : GH} {o i d : D} {ov iv v : V} {Q : Unit → Hp → Prop} (r : Rz K ι H G) (ho : DV K ι H o ov) (hi : DV K ι H i iv) (hd : DV K ι H d v) (p : Post K W σ ι H (fun _ _ _ _ => True) (gSetIx o i d G) Q) : rSetX ov iv v H (fun H' => Q () H') := by
  unfold gSetIx at p
  split at p
  · rename_i n
    simp only [DV] at ho
    obtain ⟨a, ha, rfl⟩ := ho
    split at p
    · rename_i xs g
      split at p
      · rename_i k
        simp only [DV] at hi
        subst hi
        split at p
        · rename_i j hj
          obtain ⟨vs, q, h⟩ := r.at_ n a _ ha g
          obtain ⟨e, r'⟩ := r.relist ha g q (DVs.set hd j h)
          exact .inl ⟨a, vs, k, j, rfl, rfl, q, by rw [← h.length]; exact hj, p.ok (v := ()) e r' trivial⟩
        · exact False.elim p
      · exact False.elim p
    · rename_i kvs g
      split at p
      · rename_i k hk
        split at p
        · rename_i hl
          obtain ⟨vs, q, h⟩ := r.at_ n a _ ha g
          obtain ⟨e, r'⟩ := r.write ha g q wr_dK (u := .dK (putK vs k v)) (o' := .dK (putKD kvs k d)) fun e => ⟨_, upd_same, DKs.ext e (DKs.put (keyD_ok hk hi) hd h)⟩
          exact .inr ⟨a, _, rfl, .inl ⟨vs, k, q, keyD_dv hk hi, by rw [szl, ← DKs.length h]; exact hl, rfl⟩, p.ok (v := ()) e r' trivial⟩
        · exact False.elim p
      · exact False.elim p
    · rename_i kvs g
      split at p
      · rename_i xs
        split at p
        · rename_i k hk
          split at p
          · rename_i hl
            obtain ⟨vs, q, h⟩ := r.at_ n a _ ha g
            simp only [DV] at hi
            obtain ⟨b, ws, rfl, hb, hw⟩ := hi
            have hok := keysD_ok hk hw
            rw [keysD_dv hk hw] at hb
            obtain ⟨e, r'⟩ := r.write ha g q wr_dT (u := .dT (putK vs k v)) (o' := .dT (putKD kvs k d)) fun e => ⟨_, upd_same, DKs.ext e (DKs.put hok hd h)⟩
            exact .inr ⟨a, _, rfl, .inr ⟨vs, k, b, q, rfl, hb, by rw [szl, ← DKs.length h]; exact hl, rfl⟩, p.ok (v := ()) e r' trivial⟩
          · exact False.elim p
        · exact False.elim p
      · exact False.elim p
    · exact False.elim p
  · exact False.elim p
def sSetIx (o i v : FE) : FS := fun ρ G => (v ρ G).toS ρ fun d G1 => (o ρ G1).toS ρ fun x G2 => (i ρ G2).toS ρ fun y G3 => (gSetIx x y d G3).toS ρ fun _ G4 => .nx ρ G4
theorem ds_setIx {o i : Expr} {p1 : Pos} {fo fi : FE} (hu : X.A.units + 100 < cLine) (he : DE X xa W e f) (ho : DE X xa W o fo) (hi : DE X xa W i fi)
    (ha : ∀ v, assign (.Subscript o i p1) X.env v = (do
      let ov ← holding [v] (eval o X.env)
      let iv ← holding [v, ov] (eval i X.env)
      standAt p1
      holding [v, ov, iv] (setItem ov iv v)
      release [v, ov, iv] []) := by intro _; rfl)
    (hs : swapsWithSole [.Subscript o i p1] e pos.line X.env = pure false := by rfl) (hw : swappedStores [.Subscript o i p1] e X.env = pure none := by rfl) (h1 : (assignEach [.Subscript o i p1] X.env).map (·.2) = [assign (.Subscript o i p1) X.env] := by rfl) :
    DS X xa W (.Assign [.Subscript o i p1] e pos) (sSetIx fo fi f) := by
  refine PSm (ps_asg he (pg_sub ho hi (set_any hu) ha) hs hw h1) fun N σ H ⟨ι, ρ, G, c, p⟩ => ⟨ι, ρ, G, c, (PostS.bind (rel := DV X.K) c p).mono fun v H1 ⟨ι1, x, G1, e1, c1, d1, p1⟩ => ?_⟩
  refine ⟨ι1, ρ, G1, c1, (PostS.bind (rel := DV X.K) c1 p1).mono fun v2 H2 ⟨ι2, x2, G2, e2, c2, d2, p2⟩ => ?_⟩
  refine ⟨ι2, ρ, G2, c2, (PostS.bind (rel := DV X.K) c2 p2).mono fun v3 H3 ⟨ι3, x3, G3, e3, c3, d3, p3⟩ => ?_⟩
  refine setIx_post (Q := fun _ H' => N.nx σ H') c3.rz (d2.ext e3) d3 ((d1.ext e2).ext e3) ((PostS.bind (rel := fun _ _ _ (_ : Unit) => True) c3 p3).mono fun _ H4 ⟨ι4, _, G4, e4, c4, _, p4⟩ => ?_)
  exact p4 ι4 H4 σ Ext.refl c4
/-- o.f = e -/
def gSetFld (C n : Str) (x v : D) (G : GH) : R Unit := match x with
  | .ref i => match G[i]? with
    | some (.ins c fs) => if c = C ∧ fs.length < 1000 then .ok () (G.set i (.ins c (putFD n v fs))) else .st
    | _ => .st
  | _ => .st
def sSetFld (C n : Str) (o v : FE) : FS := fun ρ G => (v ρ G).toS ρ fun d G1 => (o ρ G1).toS ρ fun x G2 => (gSetFld C n x d G2).toS ρ fun _ G3 => .nx ρ G3
theorem ds_setFld {o : Expr} {C n : Str} {pos' : Pos} {fo : FE} (cl : Cls X.K (He.ga X.K C)) (na : NoAttr X.K (He.ga X.K C) n) (he : DE X xa W e f) (ho : DE X xa W o fo) (hs : swapsWith e (some (.Attribute o n pos')) pos.line X.env = pure false := by rfl) :
    DS X xa W (.Assign [.Attribute o n pos'] e pos) (sSetFld C n fo f) := by
  refine PSm (ps_fld ho he hs) fun N σ H ⟨ι, ρ, G, c, p⟩ => ⟨ι, ρ, G, c, (PostS.bind (rel := DV X.K) c p).mono fun v H1 ⟨ι1, x, G1, e1, c1, d1, p1⟩ => ?_⟩
  refine ⟨ι1, ρ, G1, c1, (PostS.bind (rel := DV X.K) c1 p1).mono fun v2 H2 ⟨ι2, x2, G2, e2, c2, d2, p2⟩ => ?_⟩
  unfold gSetFld at p2
  cases x2 with
  | ref i =>
    dsimp only at p2
    cases g : G2[i]? with
    | none => rw [g] at p2; exact False.elim p2
    | some ob =>
      rw [g] at p2
      cases ob with
      | ins cc fs =>
        dsimp only at p2
        split at p2
        · rename_i hc
          obtain ⟨rfl, hl⟩ := hc
          simp only [DV] at d2
          obtain ⟨a, hi, rfl⟩ := d2
          obtain ⟨dx, vs, q, h⟩ := c2.rz.at_ i a _ hi g
          obtain ⟨e3, r3⟩ := c2.rz.write hi g q wr_ins (u := .ins (He.ga X.K cc) dx (putF n v vs)) (o' := .ins cc (putFD n x fs)) fun e => ⟨dx, _, upd_same, DKs.ext e (DKs.putF (d1.ext e2) h)⟩
          exact ⟨a, _, dx, vs, rfl, q, cl, na, by rw [← DKs.length h]; exact hl, p2 ι2 _ σ e3 (c2.ext e3 r3)⟩
        · exact False.elim p2
      | _ => exact False.elim p2
  | _ => exact False.elim p2
/-- del d[k] -/
def gDel (x y : D) (G : GH) : R Unit := match x with
  | .ref i => match G[i]? with
    | some (.dK kvs) => match keyD y with
      | some k => if (valD kvs k).isSome = true then .ok () (G.set i (.dK (dropKD kvs k))) else .st
      | none => .st
    | _ => .st
  | _ => .st
def sDel (o i : FE) : FS := fun ρ G => (o ρ G).toS ρ fun x G1 => (i ρ G1).toS ρ fun y G2 => (gDel x y G2).toS ρ fun _ G3 => .nx ρ G3
theorem ds_del {o i : Expr} {p1 : Pos} {fo fi : FE} (ho : DE X xa W o fo) (hi : DE X xa W i fi) : DS X xa W (.Delete [.Subscript o i p1] pos) (sDel fo fi) := by
  refine PSm (ps_ddel ho hi) fun N σ H ⟨ι, ρ, G, c, p⟩ => ⟨ι, ρ, G, c, (PostS.bind (rel := DV X.K) c p).mono fun v H1 ⟨ι1, x, G1, e1, c1, d1, p1⟩ => ?_⟩
  refine ⟨ι1, ρ, G1, c1, (PostS.bind (rel := DV X.K) c1 p1).mono fun v2 H2 ⟨ι2, y, G2, e2, c2, d2, p2⟩ => ?_⟩
  unfold gDel at p2
  cases x with
  | ref n =>
    dsimp only at p2
    cases g : G2[n]? with
    | none => rw [g] at p2; exact False.elim p2
    | some ob =>
      rw [g] at p2
      cases ob with
      | dK kvs =>
        dsimp only at p2
        cases ek : keyD y with
        | none => rw [ek] at p2; exact False.elim p2
        | some k =>
          rw [ek] at p2
          dsimp only at p2
          split at p2
          · rename_i hs
            have d1' := d1.ext e2
            simp only [DV] at d1'
            obtain ⟨a, hi, rfl⟩ := d1'
            obtain ⟨vs, q, h⟩ := c2.rz.at_ n a _ hi g
            have hv := DKs.val (k := k) h
            have hv' : (valV vs k).isSome = true := by
              cases z : valD kvs k with
              | none => rw [z] at hs; cases hs
              | some w => rw [z] at hv; obtain ⟨u, h1, _⟩ := hv; rw [h1]; rfl
            obtain ⟨e3, r3⟩ := c2.rz.write hi g q wr_dK (u := .dK (dropK vs k)) (o' := .dK (dropKD kvs k)) fun e => ⟨_, upd_same, DKs.ext e (DKs.drop h)⟩
            exact ⟨a, vs, k, rfl, q, keyD_dv ek d2, hv', p2 ι2 _ σ e3 (c2.ext e3 r3)⟩
          · exact False.elim p2
      | _ => exact False.elim p2
  | _ => exact False.elim p2
/-- a statement that is never come to -/
def sNever : FS := fun _ _ => .st
theorem ds_never : DS X xa W st sNever := PSm ps_never fun N σ H ⟨ι, ρ, G, c, p⟩ => p
end
end F2
end
section
namespace F2
open PySem PySem.Spec PyProof.Rows L2

/-! ### unlocking behind a loop -/
def UnL (X : Cx) (P : Hp → Prop) (H' : Hp) : Prop := P H' ∨ ∃ a o u, H' a = some (.frz o u) ∧ (∀ o' u', X.H_0 a ≠ some (.frz o' u')) ∧ P (upd H' a u)
abbrev Ends.unl (X : Cx) (N : Ends) : Ends := ⟨fun σ' H' => UnL X (N.nx σ') H', fun v H' => UnL X (N.rt v) H', fun σ' H' => UnL X (N.bk σ') H', fun σ' H' => UnL X (N.ct σ') H'⟩
theorem UnL.inv {X : Cx} {pins : List (Addr × Obj)} {σ : L2.St} {H : Hp} {s : Shared} {P : Hp → Prop} (I : Inv X pins σ H s) (h : UnL X P H) : ∃ H', Inv X pins σ H' s ∧ P H' := by
  rcases h with h | ⟨a, o, u, e, n, h⟩
  · exact ⟨H, I, h⟩
  · exact ⟨_, I.unlock e n, h⟩
theorem ps_unl {X : Cx} {st : Stmt} {t : TS} (h : PS X st t) : PS X st (fun N σ H => t (Ends.unl X N) σ H) := by
  refine ⟨fun pins s σ H N I hw => ?_⟩
  refine thn (h.run pins s σ H _ I hw) fun f s1 q => ?_
  cases f with
  | next => obtain ⟨σ', H', I2, q⟩ := q; obtain ⟨H3, I3, q3⟩ := UnL.inv I2 q; exact ⟨σ', H3, I3, q3⟩
  | brk => obtain ⟨σ', H', I2, q⟩ := q; obtain ⟨H3, I3, q3⟩ := UnL.inv I2 q; exact ⟨σ', H3, I3, q3⟩
  | cont => obtain ⟨σ', H', I2, q⟩ := q; obtain ⟨H3, I3, q3⟩ := UnL.inv I2 q; exact ⟨σ', H3, I3, q3⟩
  | ret v => obtain ⟨x, σ', H', I2, r, q⟩ := q; obtain ⟨H3, I3, q3⟩ := UnL.inv I2 q; exact ⟨x, σ', H3, I3, r, q3⟩
theorem pe_unl {X : Cx} {e : Expr} {t : TE} (h : PE X e t) : PE X e (fun σ H Q => t σ H fun v H' => UnL X (Q v) H') := by
  refine ⟨fun pins s σ H Q I hw => ?_⟩
  refine thn (h.run pins s σ H _ I hw) fun v s1 ⟨x, H1, I2, r, q⟩ => ?_
  obtain ⟨H3, I3, q3⟩ := UnL.inv I2 q
  exact ⟨x, H3, I3, r, q3⟩
/-- an exception that leaves while something is locked -/
def UnW (X : Cx) (W : WX) : WX := fun cls d σ H => UnL X (W cls d σ) H
theorem Takes.unl {X : Cx} {W : WX} (tk : Takes X W) : Takes X (UnW X W) := by
  rintro u s' ⟨a, B, sI, pins, σ, H, cls, d, e, I, nb, up, sky, na, os, ag, w⟩
  rcases w with w | ⟨b, o, x, hb, hn, w⟩
  · exact tk u s' ⟨a, B, sI, pins, σ, H, cls, d, e, I, nb, up, sky, na, os, ag, w⟩
  · refine tk u s' ⟨a, B, sI, pins, σ, _, cls, d, e, I.unlock hb hn, nb, up, sky, ?_, os, ag, w⟩
    rw [L2.upd_ne (fun z => by rw [z, hb] at na; cases na)]
    exact na

/-! ### what is walked -/
def unlockO : GO → GO
  | .fK kvs => .dK kvs
  | .fT kvs => .dT kvs
  | o => o
def unlockG (l : Option Nat) (G : GH) : GH := match l with
  | none => G
  | some n => match G[n]? with
    | some o => G.set n (unlockO o)
    | none => G
@[simp] theorem unlockG_none (G : GH) : unlockG none G = G := rfl
/-- what a loop walks: the items, the dict that is locked meanwhile, the list that must stay, the objects with the dict locked -/
def iterD (x : D) (G : GH) : Option (List D × Option Nat × Option Nat × GH) := match x with
  | .tup xs => some (xs, none, none, G)
  | .ktup xs => some (xs, none, none, G)
  | .scr xs => some (xs, none, none, G)
  | .str z => some (z.cps.toList.map fun c => .str ⟨#[c]⟩, none, none, G)
  | .ref n => match G[n]? with
    | some (.lst xs) => some (xs, none, some n, G)
    | some (.dK kvs) => some (kvs.map fun p => keyV p.1, some n, none, G.set n (.fK kvs))
    | some (.fK kvs) => some (kvs.map fun p => keyV p.1, none, none, G)
    | some (.dT kvs) => some (kvs.map fun p => .tup (p.1.map keyV), some n, none, G.set n (.fT kvs))
    | some (.fT kvs) => some (kvs.map fun p => .tup (p.1.map keyV), none, none, G)
    | _ => none
  | _ => none
def Dic (u : HO) : Prop := (∃ vs, u = .dK vs) ∨ ∃ vs, u = .dT vs
theorem Dic.mut {u : HO} (h : Dic u) : Mut (some u) := by
  rcases h with ⟨vs, rfl⟩ | ⟨vs, rfl⟩ <;> trivial
theorem Dic.wr {u : HO} (h : Dic u) : Wr u := by
  rcases h with ⟨vs, rfl⟩ | ⟨vs, rfl⟩
  · exact wr_dK
  · exact wr_dT
/-- a locked dict freed -/
theorem Rz.unlock {K : Frag} {ι : List Addr} {H : Hp} {G : GH} {n : Nat} {a : Addr} {o : Obj} {u : HO} (r : Rz K ι H G) (hi : ι[n]? = some a) (e : H a = some (.frz o u)) (du : Dic u) :
    ExtW K ι H ι (upd H a u) ∧ Rz K ι (upd H a u) (unlockG (some n) G) := by
  have hg : n < G.length := by rw [← r.len]; exact (List.getElem?_eq_some_iff.mp hi).1
  have x : ExtW K ι H ι (upd H a u) := ⟨⟨[], by simp⟩, fun b xs q => by rw [L2.upd_ne (fun w => by subst w; rw [e] at q; cases q)]; exact q, fun b ob xs q => by
    rw [L2.upd_ne (fun w => by subst w; rw [e] at q; rcases du with ⟨vs, rfl⟩ | ⟨vs, rfl⟩ <;> cases q)]; exact q⟩
  obtain ⟨ob, hob⟩ : ∃ ob, G[n]? = some ob := ⟨G[n], by simp [hg]⟩
  have w := r.at_ n a ob hi hob
  have hob' : unlockG (some n) G = G.set n (unlockO ob) := by simp only [unlockG, hob]
  rw [hob']
  refine ⟨x, by simp [r.len], r.nd, fun j b z hj hz => ?_⟩
  by_cases hji : j = n
  · subst hji
    rw [hi] at hj
    cases hj
    rw [List.getElem?_set_self hg] at hz
    cases hz
    rcases du with ⟨vs, rfl⟩ | ⟨vs, rfl⟩
    · cases ob with
      | fK kvs => obtain ⟨o2, ws, q, h⟩ := w; rw [e] at q; cases q; exact ⟨vs, upd_same, DKs.extW x h⟩
      | lst xs => obtain ⟨ws, q, _⟩ := w; rw [e] at q; cases q
      | fro xs => obtain ⟨_, ws, q, _⟩ := w; rw [e] at q; cases q
      | dK xs => obtain ⟨ws, q, _⟩ := w; rw [e] at q; cases q
      | dT xs => obtain ⟨ws, q, _⟩ := w; rw [e] at q; cases q
      | fT xs => obtain ⟨_, ws, q, _⟩ := w; rw [e] at q; cases q
      | ins c fs => obtain ⟨_, ws, q, _⟩ := w; rw [e] at q; cases q
      | xd fs => obtain ⟨ws, q, _⟩ := w; rw [e] at q; cases q
    · cases ob with
      | fT kvs => obtain ⟨o2, ws, q, h⟩ := w; rw [e] at q; cases q; exact ⟨vs, upd_same, DKs.extW x h⟩
      | lst xs => obtain ⟨ws, q, _⟩ := w; rw [e] at q; cases q
      | fro xs => obtain ⟨_, ws, q, _⟩ := w; rw [e] at q; cases q
      | dK xs => obtain ⟨ws, q, _⟩ := w; rw [e] at q; cases q
      | dT xs => obtain ⟨ws, q, _⟩ := w; rw [e] at q; cases q
      | fK xs => obtain ⟨_, ws, q, _⟩ := w; rw [e] at q; cases q
      | ins c fs => obtain ⟨_, ws, q, _⟩ := w; rw [e] at q; cases q
      | xd fs => obtain ⟨ws, q, _⟩ := w; rw [e] at q; cases q
  · rw [List.getElem?_set_ne (Ne.symm hji)] at hz
    exact (r.at_ j b z hj hz).keepW x fun y q => by rw [L2.upd_ne (fun w => by subst w; exact hji (r.nd _ _ _ hj hi))]; exact q
theorem Cfg.unlock {K : Frag} {xa : XA} {ι : List Addr} {H : Hp} {ρ : Rho} {σ : L2.St} {G : GH} {n : Nat} {a : Addr} {o : Obj} {u : HO} (c : Cfg K xa ι H ρ σ G) (hi : ι[n]? = some a) (e : H a = some (.frz o u)) (du : Dic u) : Cfg K xa ι (upd H a u) ρ σ (unlockG (some n) G) := by
  obtain ⟨x, r⟩ := c.rz.unlock hi e du
  refine ⟨⟨c.env.len, fun i d h => let ⟨v, h1, h2⟩ := c.env.at_ i d h; ⟨v, h1, h2.extW x⟩⟩, r, c.xr⟩
/-- the dict that a loop has locked: its number, its address, its object, what it is -/
abbrev Lk := Option (Nat × Addr × Obj × HO)
def Lk.num (l : Lk) : Option Nat := l.map (·.1)
/-- from the state ahead of the lock to a state within the loop -/
def LR (K : Frag) (X : Cx) (l : Lk) (ι1 : List Addr) (H1 : Hp) (ι : List Addr) (H : Hp) : Prop := match l with
  | none => Ext K ι1 H1 ι H
  | some (n, a, o, u) => H1 a = some u ∧ Dic u ∧ ι1[n]? = some a ∧ (∀ o' u', X.H_0 a ≠ some (.frz o' u')) ∧ Ext K ι1 (upd H1 a (.frz o u)) ι H
theorem LR.more {K : Frag} {X : Cx} {l : Lk} {ι1 ι ι' : List Addr} {H1 H H' : Hp} (h : LR K X l ι1 H1 ι H) (e : Ext K ι H ι' H') : LR K X l ι1 H1 ι' H' := by
  cases l with
  | none => exact Ext.trans h e
  | some p => obtain ⟨n, a, o, u⟩ := p; obtain ⟨h1, h2, h3, h4, h5⟩ := h; exact ⟨h1, h2, h3, h4, h5.trans e⟩
theorem LR.fin {K : Frag} {X : Cx} {l : Lk} {ι1 ι : List Addr} {H1 H : Hp} (h : LR K X l ι1 H1 ι H) {P : Hp → Prop} (q : ∀ H'', Ext K ι1 H1 ι H'' → ExtW K ι H ι H'' → (∀ {G : GH}, Rz K ι H G → Rz K ι H'' (unlockG l.num G)) → P H'') : UnL X P H := by
  cases l with
  | none => exact .inl (q H h ⟨⟨[], by simp⟩, fun _ _ z => z, fun _ _ _ z => z⟩ fun r => r)
  | some p =>
    obtain ⟨n, a, o, u⟩ := p
    obtain ⟨h1, h2, h3, h4, h5⟩ := h
    have ea : H a = some (.frz o u) := h5.frz a o u upd_same
    refine .inr ⟨a, o, u, ea, h4, q _ ?_ ?_ fun r => (r.unlock (h5.at h3) ea h2).2⟩
    · refine ⟨h5.pre, fun b xs z => ?_, fun b ob x z => ?_⟩
      · have hb : b ≠ a := fun w => by subst w; rw [h1] at z; cases z; exact h2.wr.1 _ rfl
        rw [L2.upd_ne hb]
        exact h5.tup b xs (by rw [L2.upd_ne hb]; exact z)
      · have hb : b ≠ a := fun w => by subst w; rw [h1] at z; cases z; exact h2.wr.2 _ _ rfl
        rw [L2.upd_ne hb]
        exact h5.frz b ob x (by rw [L2.upd_ne hb]; exact z)
    · exact ⟨⟨[], by simp⟩, fun b xs z => by rw [L2.upd_ne (fun w => by subst w; rw [ea] at z; cases z)]; exact z, fun b ob xs z => by
        rw [L2.upd_ne (fun w => by subst w; rw [ea] at z; rcases h2 with ⟨vs, rfl⟩ | ⟨vs, rfl⟩ <;> cases z)]; exact z⟩
theorem LR.cfg {K : Frag} {X : Cx} {xa : XA} {l : Lk} {ι1 ι : List Addr} {H1 H : Hp} {ρ : Rho} {σ : L2.St} {G : GH} (h : LR K X l ι1 H1 ι H) (c : Cfg K xa ι H ρ σ G) {P : Hp → Prop} (q : ∀ H'', Ext K ι1 H1 ι H'' → Cfg K xa ι H'' ρ σ (unlockG l.num G) → P H'') : UnL X P H :=
  h.fin fun H'' e x r => q H'' e ⟨⟨c.env.len, fun i d h => let ⟨v, h1, h2⟩ := c.env.at_ i d h; ⟨v, h1, h2.extW x⟩⟩, r c.rz, c.xr⟩

/-! ### iterators -/
section
variable {X : Cx} {tg : Expr} {pins : List (Addr × Obj)} {σ : L2.St} {H : Hp} {s : Shared} {R : It → Hp → Prop} {E : Value → Shared → Prop}
theorem it_list {a : Addr} (I : Inv X pins σ H s) (hq : ∃ xs, SqL X.K H a xs) (q : R (Itl X.K a) H) : wpAny (model X.prog X.w) X.A (pyIter (.ref a)) (PIE X pins σ tg R) E s := by
  obtain ⟨xs, hq⟩ := hq
  obtain ⟨its, rv, p, hz⟩ := I.list hq
  refine wpAny_pyIter_list p.isList ?_
  refine ⟨s.heap.objs.size, [s.heap.objs.size], _, _, H, rfl, I.kept (t' := s.toks) fun b o e => Heap.get?_push_of_some _ e, turn_list a _, ⟨_, Heap.get?_push_size _ rfl, rfl, rfl⟩, fun b hb => ?_, q⟩
  have e : b = s.heap.objs.size := by simpa using hb
  subst e
  exact I.fpOk (Nat.le_refl _) (I.hok.fresh (Nat.le_refl _))
theorem it_tup {a : Addr} (I : Inv X pins σ H s) (hq : ∃ xs, SqT X.K H a xs) (q : R (Itt X.K a) H) : wpAny (model X.prog X.w) X.A (pyIter (.ref a)) (PIE X pins σ tg R) E s := by
  obtain ⟨xs, hq⟩ := hq
  obtain ⟨its, rv, p, hz⟩ := I.tuple hq
  refine wpAny_pyIter_tuple (show s.heap.IsTuple a its.toArray from p) ?_
  refine ⟨s.heap.objs.size, [s.heap.objs.size], _, _, H, rfl, I.kept (t' := s.toks) fun b o e => Heap.get?_push_of_some _ e, turn_tuple a _, ⟨_, Heap.get?_push_size _ rfl, rfl, rfl⟩, fun b hb => ?_, q⟩
  have e : b = s.heap.objs.size := by simpa using hb
  subst e
  exact I.fpOk (Nat.le_refl _) (I.hok.fresh (Nat.le_refl _))
theorem it_keys {a : Addr} {o : Obj} {kvs : List (Key × V)} (I : Inv X pins σ H s) (hd : H a = some (.frz o (.dK kvs))) (q : R (Itk a o kvs) H) : wpAny (model X.prog X.w) X.A (pyIter (.ref a)) (PIE X pins σ tg R) E s := by
  obtain ⟨hs, hgd, hx, es, ep, vs, hdt, hsz, kv, hm⟩ := I.frzK hd
  refine iter_keys hs hgd hx hdt (pi_one (tk := s.toks) I _ (turn_keys _ hdt) ⟨_, Heap.get?_push_size _ rfl, rfl, ?_⟩ q)
  rw [hsz] <;> rfl
theorem it_keysT {a : Addr} {o : Obj} {kvs : List (List Key × V)} (I : Inv X pins σ H s) (hd : H a = some (.frz o (.dT kvs))) (q : R (Itkt a o kvs) H) : wpAny (model X.prog X.w) X.A (pyIter (.ref a)) (PIE X pins σ tg R) E s := by
  obtain ⟨hs, hgd, hx, es, ep, hdt, hsz, ent⟩ := I.frzT hd
  refine iter_keys hs hgd hx hdt (pi_one (tk := s.toks) I _ (turn_keysT _ hdt) ⟨_, Heap.get?_push_size _ rfl, rfl, ?_⟩ q)
  rw [hsz] <;> rfl
theorem it_str {x : Str} {t : Tok} (I : Inv X pins σ H s) (q : R (Its x) H) : wpAny (model X.prog X.w) X.A (pyIter (.str x t)) (PIE X pins σ tg R) E s := by
  cases ha : x.cps.all (· < 128)
  · exact wpAny_pyIter_wide ha (pi_one (tk := s.toks) I _ (turn_str _ x t "str_iterator" (.inr rfl)) ⟨_, Heap.get?_push_size _ rfl, rfl, rfl⟩ q)
  · exact wpAny_pyIter_ascii ha (pi_one (tk := s.toks) I _ (turn_str _ x t "str_ascii_iterator" (.inl rfl)) ⟨_, Heap.get?_push_size _ rfl, rfl, rfl⟩ q)
end
/-- an iterator whose i-th item is the i-th of xs, while Ok holds -/
structure Walks2 (K : Frag) (ι : List Addr) (H : Hp) (ck : Option Nat) (J : It) (xs : List D) : Prop where
  go : ∀ (i : Nat) (ι' : List Addr) (H' : Hp) (G' : GH), Ext K ι H ι' H' → Rz K ι' H' G' → (∀ n, ck = some n → G'[n]? = some (.lst xs)) → i < xs.length → J.go i H' ∧ ∀ x H'', J.yld i H' x H'' → H'' = H' ∧ ∃ d, xs[i]? = some d ∧ DV K ι' H' d x
  stop : ∀ (ι' : List Addr) (H' : Hp) (G' : GH), Ext K ι H ι' H' → Rz K ι' H' G' → (∀ n, ck = some n → G'[n]? = some (.lst xs)) → J.stop xs.length H'
section
variable {K : Frag} {ι : List Addr} {H : Hp} {a : Addr}
theorem w2_list {n : Nat} {xs : List D} (hi : ι[n]? = some a) : Walks2 K ι H (some n) (Itl K a) xs := by
  have key : ∀ (ι' : List Addr) (H' : Hp) (G' : GH), Ext K ι H ι' H' → Rz K ι' H' G' → (∀ m, some n = some m → G'[m]? = some (.lst xs)) → ∃ vs, H' a = some (.lst vs) ∧ DVs K ι' H' xs vs := fun ι' H' G' e r c => r.at_ n a _ (e.at hi) (c n rfl)
  refine ⟨fun i ι' H' G' e r c hl => ?_, fun ι' H' G' e r c => ?_⟩
  · obtain ⟨vs, q, h⟩ := key ι' H' G' e r c
    obtain ⟨v, h1, h2⟩ := h.get (i := i) (d := xs[i]) (by simp [hl])
    refine ⟨⟨vs, v, SqL.of q, h1⟩, fun x H'' ⟨e1, y⟩ => ⟨e1, xs[i], by simp [hl], ?_⟩⟩
    have := y vs (SqL.of q)
    rw [h1] at this
    cases this
    exact h2
  · obtain ⟨vs, q, h⟩ := key ι' H' G' e r c
    exact ⟨vs, SqL.of q, Nat.le_of_eq h.length.symm⟩
theorem w2_tup {xs : List D} {vs : List V} (hq : SqT K H a vs) (st : ∀ ι' H', Ext K ι H ι' H' → SqT K H' a vs) (h : DVs K ι H xs vs) : Walks2 K ι H none (Itt K a) xs := by
  refine ⟨fun i ι' H' G' e r c hl => ?_, fun ι' H' G' e r c => ?_⟩
  · obtain ⟨v, h1, h2⟩ := (h.ext e).get (i := i) (d := xs[i]) (by simp [hl])
    refine ⟨⟨vs, v, st _ _ e, h1⟩, fun x H'' ⟨e1, y⟩ => ⟨e1, xs[i], by simp [hl], ?_⟩⟩
    have := y vs (st _ _ e)
    rw [h1] at this
    cases this
    exact h2
  · exact ⟨vs, st _ _ e, Nat.le_of_eq h.length.symm⟩
theorem w2_frol {xs : List D} {vs : List V} (hq : FroL K H a vs) (h : DVs K ι H xs vs) : Walks2 K ι H none (Itl K a) xs := by
  have st : ∀ ι' H', Ext K ι H ι' H' → SqL K H' a vs := fun ι' H' e => by
    rcases hq with ⟨o, q⟩ | q
    · exact .inl (.inr ⟨o, e.frz _ _ _ q⟩)
    · exact .inr q
  refine ⟨fun i ι' H' G' e r c hl => ?_, fun ι' H' G' e r c => ?_⟩
  · obtain ⟨v, h1, h2⟩ := (h.ext e).get (i := i) (d := xs[i]) (by simp [hl])
    refine ⟨⟨vs, v, st _ _ e, h1⟩, fun x H'' ⟨e1, y⟩ => ⟨e1, xs[i], by simp [hl], ?_⟩⟩
    have := y vs (st _ _ e)
    rw [h1] at this
    cases this
    exact h2
  · exact ⟨vs, st _ _ e, Nat.le_of_eq h.length.symm⟩
theorem DKs.keyAt {κ : Type} [KOk κ] : ∀ {ks : List (κ × D)} {vs : List (κ × V)} {i : Nat} {k : κ} {v : V}, DKs K ι H ks vs → vs[i]? = some (k, v) → ∃ d, ks[i]? = some (k, d) ∧ KOk.ok k = true
  | p :: ks, q :: vs, 0, k, v, .cons ⟨h1, h2, h3⟩ t, e => by
    simp at e; subst e
    obtain ⟨a, b⟩ := p
    have h1' : a = k := h1
    subst h1'
    exact ⟨b, rfl, h3⟩
  | p :: ks, q :: vs, i + 1, k, v, .cons _ t, e => DKs.keyAt (i := i) t (by simpa using e)
  | _, _, _, _, _, .nil, e => by simp at e
theorem w2_keys {o : Obj} {kvs : List (Key × D)} {vs : List (Key × V)} (hq : H a = some (.frz o (.dK vs))) (h : DKs K ι H kvs vs) : Walks2 K ι H none (Itk a o vs) (kvs.map fun p => keyV p.1) := by
  have hlen := DKs.length h
  refine ⟨fun i ι' H' G' e r c hl => ?_, fun ι' H' G' e r c => ?_⟩
  · have hl' : i < kvs.length := by simpa using hl
    refine ⟨⟨e.frz _ _ _ hq, by omega⟩, fun x H'' ⟨e1, k, v, hk, hx⟩ => ⟨e1, keyV k, ?_, ?_⟩⟩
    · obtain ⟨d, h1, h2⟩ := DKs.keyAt h hk
      rw [List.getElem?_map, h1]; rfl
    · obtain ⟨d, h1, h2⟩ := DKs.keyAt h hk
      rw [hx]; exact keyV_dv h2
  · exact ⟨e.frz _ _ _ hq, by simp; omega⟩
theorem w2_keysT {o : Obj} {kvs : List (List Key × D)} {vs : List (List Key × V)} (hq : H a = some (.frz o (.dT vs))) (h : DKs K ι H kvs vs) : Walks2 K ι H none (Itkt a o vs) (kvs.map fun p => .tup (p.1.map keyV)) := by
  have hlen := DKs.length h
  refine ⟨fun i ι' H' G' e r c hl => ?_, fun ι' H' G' e r c => ?_⟩
  · have hl' : i < kvs.length := by simpa using hl
    refine ⟨⟨e.frz _ _ _ hq, by omega⟩, fun x H'' ⟨e1, k, v, q, hk, hx, hqq⟩ => ⟨e1, .tup (k.map keyV), ?_, ?_⟩⟩
    · obtain ⟨d, h1, h2⟩ := DKs.keyAt h hk
      rw [List.getElem?_map, h1]; rfl
    · obtain ⟨d, h1, h2⟩ := DKs.keyAt h hk
      rw [hx]
      simp only [DV]
      exact ⟨q, _, rfl, hqq, keyVs_dv h2⟩
  · exact ⟨e.frz _ _ _ hq, by simp; omega⟩
theorem w2_str {x : Str} (hx : strF x = true) : Walks2 K ι H none (Its x) (x.cps.toList.map fun c => .str ⟨#[c]⟩) := by
  refine ⟨fun i ι' H' G' e r c hl => ?_, fun ι' H' G' e r c => ?_⟩
  · refine ⟨(show i < x.cps.size by simpa using hl), fun z H'' ⟨e1, c, hc, hz⟩ => ⟨e1, .str ⟨#[c]⟩, ?_, ?_⟩⟩
    · rw [List.getElem?_map]
      have : x.cps.toList[i]? = some c := by simpa using hc
      rw [this]; rfl
    · rw [hz]
      simp only [DV]
      refine ⟨trivial, strF1 hx ?_⟩
      have : x.cps.toList[i]? = some c := by simpa using hc
      exact List.mem_of_getElem? this
  · show x.cps.size ≤ _
    simp
end

/-! ### for -/
def chkL (ck : Option Nat) (xs : List D) (G : GH) : Prop := ∀ n, ck = some n → G[n]? = some (.lst xs)
open Classical in
noncomputable def forIt (p : Pat) (body : FS) (ck : Option Nat) (all : List D) : List D → Rho → GH → RS
  | [], ρ, G => if chkL ck all G then .nx ρ G else .st
  | x :: r, ρ, G => if chkL ck all G then match setP p x ρ with
      | some ρ1 => match body ρ1 G with
        | .nx ρ' G' => forIt p body ck all r ρ' G'
        | .ct ρ' G' => forIt p body ck all r ρ' G'
        | .bk ρ' G' => .nx ρ' G'
        | z => z
      | none => .st
    else .st
def unlS (l : Option Nat) : RS → RS
  | .nx ρ G => .nx ρ (unlockG l G)
  | .rt d G => .rt d (unlockG l G)
  | .bk ρ G => .bk ρ (unlockG l G)
  | .ct ρ G => .ct ρ (unlockG l G)
  | .er c j ρ G => .er c j ρ (unlockG l G)
  | .st => .st
@[simp] theorem unlS_none (r : RS) : unlS none r = r := by cases r <;> rfl
noncomputable def sFor (f : FE) (p : Pat) (body : FS) : FS := fun ρ G => (f ρ G).toS ρ fun x G1 => match iterD x G1 with
  | some (xs, lk, ck, G2) => unlS lk (forIt p body ck xs xs ρ G2)
  | none => .st
/-- the reading of a loop over the items xs -/
theorem for_read {X : Cx} {xa : XA} {W : WX} {p : Pat} {body : FS} {ck : Option Nat} {all : List D} {l : Lk} {N : Ends} {J : It} {σ : L2.St} {ι1 ι : List Addr} {H1 H : Hp} {ρ : Rho} {G : GH} {σ₀ : L2.St}
    (w : Walks2 X.K ι H ck J all) (c : Cfg X.K xa ι H ρ σ G) (lr : LR X.K X l ι1 H1 ι H) (q : PostS X.K xa W σ₀ ι1 H1 (unlS l.num (forIt p body ck all all ρ G)) N) :
    ∃ Wm : Nat → Nat → L2.St → Hp → Prop, (∃ m, Wm 0 m σ H) ∧ ∀ i m σ H, Wm i m σ H →
      (J.stop i H ∧ (Ends.unl X N).nx σ H) ∨ (J.go i H ∧ ∃ Nx : L2.St → Hp → Prop, (∀ σ' H', Nx σ' H' → ∃ m', m' < m ∧ Wm (i + 1) m' σ' H') ∧ ∀ x H', J.yld i H x H' → tG X.K xa p x σ H' fun σ2 H2 => tS X.K xa (UnW X W) body { Ends.unl X N with nx := Nx, ct := Nx, bk := (Ends.unl X N).nx } σ2 H2) := by
  refine ⟨fun i m σ' H' => ∃ ι' ρ' G', m = all.length - i ∧ i ≤ all.length ∧ Ext X.K ι H ι' H' ∧ Cfg X.K xa ι' H' ρ' σ' G' ∧ PostS X.K xa W σ₀ ι1 H1 (unlS l.num (forIt p body ck all (all.drop i) ρ' G')) N,
    ⟨all.length, ι, ρ, G, by simp, Nat.zero_le _, Ext.refl, c, by simpa using q⟩, ?_⟩
  rintro i m σ' H' ⟨ι', ρ', G', rfl, hi, e, c', q⟩
  by_cases hlt : i < all.length
  · right
    have hd : all.drop i = all[i] :: all.drop (i + 1) := List.drop_eq_getElem_cons hlt
    rw [hd, forIt] at q
    by_cases hc : chkL ck all G'
    · rw [if_pos hc] at q
      obtain ⟨g, y⟩ := w.go i ι' H' G' e c'.rz hc hlt
      refine ⟨g, fun σ2 H2 => ∃ ι2 ρ2 G2, Ext X.K ι H ι2 H2 ∧ Cfg X.K xa ι2 H2 ρ2 σ2 G2 ∧ PostS X.K xa W σ₀ ι1 H1 (unlS l.num (forIt p body ck all (all.drop (i + 1)) ρ2 G2)) N, fun σ2 H2 ⟨ι2, ρ2, G2, e2, c2, q2⟩ => ⟨all.length - (i + 1), by omega, ι2, ρ2, G2, rfl, hlt, e2, c2, q2⟩, fun x H'' hy => ?_⟩
      obtain ⟨rfl, d, hd', hx⟩ := y x H'' hy
      have hd2 : d = all[i] := by
        have : all[i]? = some all[i] := by simp [hlt]
        rw [this] at hd'; exact (Option.some.inj hd').symm
      subst hd2
      refine ⟨ι', ρ', G', all[i], c', hx, ?_⟩
      cases es : setP p all[i] ρ' with
      | none => rw [es] at q; exact False.elim q
      | some ρ1 =>
        rw [es] at q
        dsimp only at q ⊢
        intro σ1 c1 _
        refine ⟨ι', ρ1, G', c1, ?_⟩
        cases eb : body ρ1 G' with
        | nx ρ2 G2 => rw [eb] at q; exact fun ι2 H2 σ2 x2 c2 => ⟨ι2, ρ2, G2, e.trans x2, c2, q⟩
        | ct ρ2 G2 => rw [eb] at q; exact fun ι2 H2 σ2 x2 c2 => ⟨ι2, ρ2, G2, e.trans x2, c2, q⟩
        | bk ρ2 G2 =>
          rw [eb] at q
          exact fun ι2 H2 σ2 x2 c2 => (lr.more (e.trans x2)).cfg c2 fun H3 e3 c3 => q ι2 H3 σ2 e3 c3
        | rt d G2 =>
          rw [eb] at q
          exact fun ι2 H2 v x2 r2 dv => (lr.more (e.trans x2)).fin fun H3 e3 w3 r3 => q ι2 H3 v e3 (r3 r2) (dv.extW w3)
        | er cc j ρ2 G2 =>
          rw [eb] at q
          exact fun ι2 H2 σ2 d x2 c2 hj => (lr.more (e.trans x2)).cfg c2 fun H3 e3 c3 => q ι2 H3 σ2 d e3 c3 hj
        | st => rw [eb] at q; exact False.elim q
    · rw [if_neg hc] at q
      exact False.elim q
  · left
    have e1 : i = all.length := by omega
    subst e1
    rw [List.drop_length, forIt] at q
    by_cases hc : chkL ck all G'
    · rw [if_pos hc] at q
      exact ⟨w.stop ι' H' G' e c'.rz hc, (lr.more e).cfg c' fun H3 e3 c3 => q ι' H3 σ' e3 c3⟩
    · rw [if_neg hc] at q
      exact False.elim q
/-- what is walked, by its value -/
def iIt (X : Cx) (tl : TE) : TI := fun σ H R => tl σ H fun x H1 => (∃ z, x = .str z ∧ R (Its z) H1) ∨ ∃ a, x = .ref a ∧
  (((∃ xs, SqL X.K H1 a xs) ∧ R (Itl X.K a) H1) ∨ ((∃ xs, SqT X.K H1 a xs) ∧ R (Itt X.K a) H1) ∨ (∃ o kvs, H1 a = some (.frz o (.dK kvs)) ∧ R (Itk a o kvs) H1) ∨ (∃ o kvs, H1 a = some (.frz o (.dT kvs)) ∧ R (Itkt a o kvs) H1) ∨
    (∃ kvs, H1 a = some (.dK kvs) ∧ ∀ o, (∀ o' u', X.H_0 a ≠ some (.frz o' u')) → R (Itk a o kvs) (upd H1 a (.frz o (.dK kvs)))) ∨ ∃ kvs, H1 a = some (.dT kvs) ∧ ∀ o, (∀ o' u', X.H_0 a ≠ some (.frz o' u')) → R (Itkt a o kvs) (upd H1 a (.frz o (.dT kvs))))
theorem pi_it {X : Cx} {tg l : Expr} {tl : TE} (hl : PE X l tl) : PI X tg l (iIt X tl) := by
  refine ⟨fun pins s σ H R I h => ?_⟩
  refine thn (hl.run pins s σ H _ I h) fun v s1 ⟨x, H1, I1, r1, q1⟩ => ?_
  rcases q1 with ⟨z, rfl, q⟩ | ⟨a, rfl, q⟩
  · obtain ⟨t, rfl⟩ := r1
    exact it_str I1 q
  · cases r1
    rcases q with ⟨hq, q⟩ | ⟨hq, q⟩ | ⟨o, kvs, hd, q⟩ | ⟨o, kvs, hd, q⟩ | ⟨kvs, hd, q⟩ | ⟨kvs, hd, q⟩
    · exact it_list I1 hq q
    · exact it_tup I1 hq q
    · exact it_keys I1 hd q
    · exact it_keysT I1 hd q
    · obtain ⟨o, I2⟩ := I1.lock hd trivial
      exact it_keys I2 upd_same (q o (I1.nofrz hd trivial))
    · obtain ⟨o, I2⟩ := I1.lock hd trivial
      exact it_keysT I2 upd_same (q o (I1.nofrz hd trivial))
/-- from the value that is walked to the loop: the walk by what stands there -/
theorem iter_read {X : Cx} {ι1 : List Addr} {H1 : Hp} {G1 G2 : GH} {x : D} {v : V} {xs : List D} {lk ck : Option Nat} {R : It → Hp → Prop} (r : Rz X.K ι1 H1 G1) (hx : DV X.K ι1 H1 x v) (e : iterD x G1 = some (xs, lk, ck, G2))
    (k : ∀ (l : Lk) (J : It) (H : Hp), l.num = lk → LR X.K X l ι1 H1 ι1 H → Rz X.K ι1 H G2 → Walks2 X.K ι1 H ck J xs → R J H) :
    (∃ z, v = .str z ∧ R (Its z) H1) ∨ ∃ a, v = .ref a ∧
      (((∃ xs, SqL X.K H1 a xs) ∧ R (Itl X.K a) H1) ∨ ((∃ xs, SqT X.K H1 a xs) ∧ R (Itt X.K a) H1) ∨ (∃ o kvs, H1 a = some (.frz o (.dK kvs)) ∧ R (Itk a o kvs) H1) ∨ (∃ o kvs, H1 a = some (.frz o (.dT kvs)) ∧ R (Itkt a o kvs) H1) ∨
        (∃ kvs, H1 a = some (.dK kvs) ∧ ∀ o, (∀ o' u', X.H_0 a ≠ some (.frz o' u')) → R (Itk a o kvs) (upd H1 a (.frz o (.dK kvs)))) ∨ ∃ kvs, H1 a = some (.dT kvs) ∧ ∀ o, (∀ o' u', X.H_0 a ≠ some (.frz o' u')) → R (Itkt a o kvs) (upd H1 a (.frz o (.dT kvs)))) := by
  cases x with
  | tup ys =>
    cases e
    simp only [DV] at hx
    obtain ⟨a, vs, rfl, q, h⟩ := hx
    exact .inr ⟨a, rfl, .inr (.inl ⟨⟨vs, SqT.of q⟩, k none _ H1 rfl Ext.refl r (w2_tup (SqT.of q) (fun ι' H' e => SqT.of (e.tup _ _ q)) h)⟩)⟩
  | ktup ys =>
    cases e
    simp only [DV] at hx
    obtain ⟨a, vs, rfl, q, h⟩ := hx
    exact .inr ⟨a, rfl, .inr (.inl ⟨⟨vs, .inr q⟩, k none _ H1 rfl Ext.refl r (w2_tup (.inr q) (fun ι' H' e => .inr q) h)⟩)⟩
  | scr ys =>
    cases e
    simp only [DV] at hx
    obtain ⟨a, vs, rfl, q, h⟩ := hx
    exact .inr ⟨a, rfl, .inl ⟨⟨vs, q.sq⟩, k none _ H1 rfl Ext.refl r (w2_frol q h)⟩⟩
  | str z =>
    cases e
    simp only [DV] at hx
    obtain ⟨rfl, hz⟩ := hx
    exact .inl ⟨z, rfl, k none _ H1 rfl Ext.refl r (w2_str hz)⟩
  | ref n =>
    simp only [DV] at hx
    obtain ⟨a, hi, rfl⟩ := hx
    refine .inr ⟨a, rfl, ?_⟩
    simp only [iterD] at e
    cases g : G1[n]? with
    | none => rw [g] at e; cases e
    | some ob =>
      rw [g] at e
      have w := r.at_ n a ob hi g
      cases ob with
      | lst ys =>
        cases e
        obtain ⟨vs, q, h⟩ := w
        exact .inl ⟨⟨vs, SqL.of q⟩, k none _ H1 rfl Ext.refl r (w2_list hi)⟩
      | fK kvs =>
        cases e
        obtain ⟨o, vs, q, h⟩ := w
        exact .inr (.inr (.inl ⟨o, vs, q, k none _ H1 rfl Ext.refl r (w2_keys q h)⟩))
      | fT kvs =>
        cases e
        obtain ⟨o, vs, q, h⟩ := w
        exact .inr (.inr (.inr (.inl ⟨o, vs, q, k none _ H1 rfl Ext.refl r (w2_keysT q h)⟩)))
      | dK kvs =>
        cases e
        obtain ⟨vs, q, h⟩ := w
        refine .inr (.inr (.inr (.inr (.inl ⟨vs, q, fun o no => ?_⟩))))
        obtain ⟨e2, r2⟩ := r.write hi g q wr_dK (u := .frz o (.dK vs)) (o' := .fK kvs) fun e => ⟨o, vs, upd_same, DKs.ext e h⟩
        exact k (some (n, a, o, .dK vs)) _ _ rfl ⟨q, .inl ⟨_, rfl⟩, hi, no, Ext.refl⟩ r2 (w2_keys upd_same (DKs.ext e2 h))
      | dT kvs =>
        cases e
        obtain ⟨vs, q, h⟩ := w
        refine .inr (.inr (.inr (.inr (.inr ⟨vs, q, fun o no => ?_⟩))))
        obtain ⟨e2, r2⟩ := r.write hi g q wr_dT (u := .frz o (.dT vs)) (o' := .fT kvs) fun e => ⟨o, vs, upd_same, DKs.ext e h⟩
        exact k (some (n, a, o, .dT vs)) _ _ rfl ⟨q, .inr ⟨_, rfl⟩, hi, no, Ext.refl⟩ r2 (w2_keysT upd_same (DKs.ext e2 h))
      | fro _ => cases e
      | ins _ _ => cases e
      | xd _ => cases e
  | non => cases e
  | bl b => cases e
  | int b => cases e
theorem Cfg.tuk {K : Frag} {xa : XA} {ι : List Addr} {H H' : Hp} {ρ : Rho} {σ : L2.St} {G G' : GH} (c : Cfg K xa ι H ρ σ G) (x : ExtW K ι H ι H') (r : Rz K ι H' G') : Cfg K xa ι H' ρ σ G' :=
  ⟨⟨c.env.len, fun i d h => let ⟨v, h1, h2⟩ := c.env.at_ i d h; ⟨v, h1, h2.extW x⟩⟩, r, c.xr⟩
theorem LR.extW {K : Frag} {X : Cx} {l : Lk} {ι1 : List Addr} {H1 H : Hp} (h : LR K X l ι1 H1 ι1 H) : Ext K ι1 H1 ι1 H := by
  cases l with
  | none => exact h
  | some p =>
    obtain ⟨n, a, o, u⟩ := p
    obtain ⟨h1, h2, h3, h4, h5⟩ := h
    exact (Ext.wr0 fun z hz => by rw [h1] at hz; cases hz; exact h2.wr).trans h5
section
variable {X : Cx} {xa : XA} {W : WX} {tg iter : Expr} {body : List Stmt} {f : FE} {p : Pat} {b : FS} {pos : Pos}
theorem ds_for (hp : PassesOwn (model X.prog X.w) X.A X.env X.xe) (hc : X.calm = true) (hi : DE X xa W iter f) (hg : DG X xa tg p) (hb : DSs X xa (UnW X W) body b) (hs : ∀ x, foldedSetIterable iter X.env x = pure x := by intro _; rfl) : DS X xa W (.For tg iter body [] pos) (sFor f p b) := by
  refine PSm (ps_unl (ps_for hp hc (pi_it hi) hg hb hs)) fun N σ H ⟨ι, ρ, G, c, q⟩ => ?_
  refine ⟨ι, ρ, G, c, (PostS.bind (rel := DV X.K) c q).mono fun v H1 ⟨ι1, x, G1, e1, c1, d1, p1⟩ => ?_⟩
  cases e : iterD x G1 with
  | none => rw [e] at p1; exact False.elim p1
  | some z =>
    obtain ⟨xs, lk, ck, G2⟩ := z
    rw [e] at p1
    refine iter_read (R := fun J H1 => ∃ Wm : Nat → Nat → L2.St → Hp → Prop, (∃ m, Wm 0 m σ H1) ∧ ∀ i m σ H, Wm i m σ H → (J.stop i H ∧ (Ends.unl X N).nx σ H) ∨ (J.go i H ∧ ∃ Nx : L2.St → Hp → Prop, (∀ σ' H', Nx σ' H' → ∃ m', m' < m ∧ Wm (i + 1) m' σ' H') ∧ ∀ x H', J.yld i H x H' → tG X.K xa p x σ H' fun σ2 H2 => tS X.K xa (UnW X W) b { Ends.unl X N with nx := Nx, ct := Nx, bk := (Ends.unl X N).nx } σ2 H2)) c1.rz d1 e fun l J H2 hl lr r2 w => ?_
    subst hl
    exact for_read w (c1.ext lr.extW r2) lr p1
end
end F2
end
section
namespace F2
open PySem PySem.Spec PyProof.Rows L2

/-! ### range -/
def rngD (lo : Int) (n : Nat) : List D := (List.range n).map fun (k : Nat) => .int (lo + (k : Int))
theorem rngD_get {lo : Int} {n i : Nat} (h : i < n) : (rngD lo n)[i]? = some (.int (lo + i)) := by
  unfold rngD
  rw [List.getElem?_map, List.getElem?_range h]; rfl
theorem w2_rng {K : Frag} {ι : List Addr} {H : Hp} {lo : Int} {n : Nat} : Walks2 K ι H none (Itr lo n) (rngD lo n) := by
  have hl : (rngD lo n).length = n := by simp [rngD]
  refine ⟨fun i ι' H' G' e r c h => ?_, fun ι' H' G' e r c => ?_⟩
  · rw [hl] at h
    exact ⟨h, fun x H'' ⟨e1, e2⟩ => ⟨e1, _, rngD_get h, by subst e2; simp only [DV]⟩⟩
  · show n ≤ _
    omega
/-- what range(..) gives for the arguments -/
def rngA : Nat → List D → Option (List D)
  | 1, [.int j] => if -(2 ^ 62) ≤ j ∧ j < 2 ^ 62 then some (rngD 0 j.toNat) else none
  | 2, [.int i, .int j] => if -(2 ^ 62) ≤ i ∧ i < 2 ^ 62 ∧ -(2 ^ 62) ≤ j ∧ j < 2 ^ 62 then some (rngD i (j - i).toNat) else none
  | _, _ => none
noncomputable def sForR (k : Nat) (f : FA) (p : Pat) (body : FS) : FS := fun ρ G => (f ρ G).toS ρ fun as G1 => match rngA k as with
  | some xs => forIt p body none xs xs ρ G1
  | none => .st
def FTests (f : FT) : FT := f
section
variable {X : Cx} {xa : XA} {W : WX} {tg : Expr} {body : List Stmt} {f : FA} {p : Pat} {b : FS} {pos p0 p1 : Pos}
/-- what a range's reading promises -/
theorem rng1_read {K : Frag} {σ : L2.St} {H : Hp} {vs : List V} {ι : List Addr} {d : List D} {xs : List D} {R : It → Hp → Prop} (hd : DVs K ι H d vs) (e : rngA 1 d = some xs) (k : ∀ J, Walks2 K ι H none J xs → R J H) :
    ∃ j : Int, vs = [.int j] ∧ -(2 ^ 62) ≤ j ∧ j < 2 ^ 62 ∧ R (Itr 0 j.toNat) H := by
  match d, e with
  | [], e => exact absurd e (by simp [rngA])
  | x :: y :: r, e => exact absurd e (by simp [rngA])
  | [x], e =>
    obtain ⟨v, r, rfl, h1, h2⟩ := hd.cons_inv
    rw [h2.nil_inv]
    cases x with
    | int j =>
      simp only [DV] at h1
      subst h1
      simp only [rngA] at e
      split at e
      · rename_i hb
        cases e
        exact ⟨j, rfl, hb.1, hb.2, k _ w2_rng⟩
      · cases e
    | _ => cases e
theorem rng2_read {K : Frag} {σ : L2.St} {H : Hp} {vs : List V} {ι : List Addr} {d : List D} {xs : List D} {R : It → Hp → Prop} (hd : DVs K ι H d vs) (e : rngA 2 d = some xs) (k : ∀ J, Walks2 K ι H none J xs → R J H) :
    ∃ i j : Int, vs = [.int i, .int j] ∧ (-(2 ^ 62) ≤ i ∧ i < 2 ^ 62 ∧ -(2 ^ 62) ≤ j ∧ j < 2 ^ 62) ∧ R (Itr i (j - i).toNat) H := by
  match d, e with
  | [], e => exact absurd e (by simp [rngA])
  | [x], e => exact absurd e (by simp [rngA])
  | x :: y :: z :: r, e => exact absurd e (by simp [rngA])
  | [x, y], e =>
    obtain ⟨v, r, rfl, h1, h2⟩ := hd.cons_inv
    obtain ⟨u, r, rfl, h2, h3⟩ := h2.cons_inv
    rw [h3.nil_inv]
    cases x with
    | int i =>
      cases y with
      | int j =>
        simp only [DV] at h1 h2
        subst h1 h2
        simp only [rngA] at e
        split at e
        · rename_i hb
          cases e
          exact ⟨i, j, rfl, hb, k _ w2_rng⟩
        · cases e
      | _ => cases e
    | _ => cases e
abbrev ForR (X : Cx) (xa : XA) (W : WX) (p : Pat) (b : FS) (N : Ends) (σ : L2.St) : It → Hp → Prop := fun J H1 => ∃ Wm : Nat → Nat → L2.St → Hp → Prop, (∃ m, Wm 0 m σ H1) ∧ ∀ i m σ H, Wm i m σ H → (J.stop i H ∧ (Ends.unl X N).nx σ H) ∨ (J.go i H ∧ ∃ Nx : L2.St → Hp → Prop, (∀ σ' H', Nx σ' H' → ∃ m', m' < m ∧ Wm (i + 1) m' σ' H') ∧ ∀ x H', J.yld i H x H' → tG X.K xa p x σ H' fun σ2 H2 => tS X.K xa (UnW X W) b { Ends.unl X N with nx := Nx, ct := Nx, bk := (Ends.unl X N).nx } σ2 H2)
theorem ds_forR1 {a : Expr} (hp : PassesOwn (model X.prog X.w) X.A X.env X.xe) (hc : X.calm = true) (hgl : Gl X "range") (hm : X.mg "range" = none) (ha : DA X xa W [a] f) (hg : DG X xa tg p) (hb : DSs X xa (UnW X W) body b)
    (hs : starEach [a] X.env = [(false, eval a X.env)] := by rfl) (hfs : ∀ x, foldedSetIterable (.Call (.Name "range" p0) [a] [] p1) X.env x = pure x := by intro _; rfl) : DS X xa W (.For tg (.Call (.Name "range" p0) [a] [] p1) body [] pos) (sForR 1 f p b) := by
  refine PSm (ps_unl (ps_for hp hc (pi_range1 hgl hm ha hs) hg hb hfs)) fun N σ H ⟨ι, ρ, G, c, q⟩ => ?_
  refine ⟨ι, ρ, G, c, ?_⟩
  unfold sForR at q
  refine (PostS.bind (rel := DVs X.K) c q).mono fun vs H1 ⟨ι1, d, G1, e1, c1, d1, p1⟩ => ?_
  cases e : rngA 1 d with
  | none => rw [e] at p1; exact False.elim p1
  | some xs =>
    rw [e] at p1
    exact rng1_read (R := ForR X xa W p b N σ) (σ := σ) d1 e fun J w => for_read (l := none) w c1 Ext.refl (by simpa [Lk.num] using p1)
theorem ds_forR2 {a a2 : Expr} (hp : PassesOwn (model X.prog X.w) X.A X.env X.xe) (hc : X.calm = true) (hgl : Gl X "range") (hm : X.mg "range" = none) (ha : DA X xa W [a, a2] f) (hg : DG X xa tg p) (hb : DSs X xa (UnW X W) body b)
    (hs : starEach [a, a2] X.env = [(false, eval a X.env), (false, eval a2 X.env)] := by rfl) (hs2 : starEach [a2] X.env = [(false, eval a2 X.env)] := by rfl) (hfs : ∀ x, foldedSetIterable (.Call (.Name "range" p0) [a, a2] [] p1) X.env x = pure x := by intro _; rfl) :
    DS X xa W (.For tg (.Call (.Name "range" p0) [a, a2] [] p1) body [] pos) (sForR 2 f p b) := by
  refine PSm (ps_unl (ps_for hp hc (pi_range2 hgl hm ha hs hs2) hg hb hfs)) fun N σ H ⟨ι, ρ, G, c, q⟩ => ?_
  refine ⟨ι, ρ, G, c, ?_⟩
  unfold sForR at q
  refine (PostS.bind (rel := DVs X.K) c q).mono fun vs H1 ⟨ι1, d, G1, e1, c1, d1, p1⟩ => ?_
  cases e : rngA 2 d with
  | none => rw [e] at p1; exact False.elim p1
  | some xs =>
    rw [e] at p1
    exact rng2_read (R := ForR X xa W p b N σ) (σ := σ) d1 e fun J w => for_read (l := none) w c1 Ext.refl (by simpa [Lk.num] using p1)
end

/-! ### while -/
def whl (t : FT) (b : FS) : Nat → FS
  | 0, _, _ => .st
  | n + 1, ρ, G => (t ρ G).toS ρ fun c G1 => if c = true then match b ρ G1 with
    | .nx ρ' G' => whl t b n ρ' G'
    | .ct ρ' G' => whl t b n ρ' G'
    | .bk ρ' G' => .nx ρ' G'
    | z => z
    else .nx ρ G1
open Classical in
noncomputable def sWhile (t : FT) (b : FS) : FS := fun ρ G => if h : ∃ n, whl t b n ρ G ≠ .st then whl t b h.choose ρ G else .st
theorem whl_more (t : FT) (b : FS) : ∀ (n m : Nat) (ρ : Rho) (G : GH), whl t b n ρ G ≠ .st → n ≤ m → whl t b m ρ G = whl t b n ρ G
  | 0, m, ρ, G, h, _ => absurd rfl h
  | n + 1, 0, ρ, G, h, hm => absurd hm (by omega)
  | n + 1, m + 1, ρ, G, h, hm => by
    have hm' : n ≤ m := by omega
    simp only [whl] at h ⊢
    cases z : t ρ G with
    | ok c G1 =>
      rw [z] at h
      simp only [R.toS_ok] at h ⊢
      by_cases hc : c = true
      · rw [if_pos hc] at h ⊢
        rw [if_pos hc]
        cases zb : b ρ G1 with
        | nx ρ' G' => rw [zb] at h; exact whl_more t b n m ρ' G' h hm'
        | ct ρ' G' => rw [zb] at h; exact whl_more t b n m ρ' G' h hm'
        | bk ρ' G' => rfl
        | rt d G' => rfl
        | er cc j ρ' G' => rfl
        | st => rfl
      · rw [if_neg hc, if_neg hc]
    | er cc j G1 => rfl
    | st => rfl
theorem sWhile_eq {t : FT} {b : FS} {ρ : Rho} {G : GH} {r : RS} (n : Nat) (h : whl t b n ρ G = r) (hr : r ≠ .st) : sWhile t b ρ G = r := by
  have hx : ∃ n, whl t b n ρ G ≠ .st := ⟨n, by rw [h]; exact hr⟩
  unfold sWhile
  rw [dif_pos hx]
  have h1 := hx.choose_spec
  rcases Nat.le_total n hx.choose with hl | hl
  · rw [whl_more t b n _ ρ G (by rw [h]; exact hr) hl, h]
  · rw [← whl_more t b _ n ρ G h1 hl, h]
section
variable {X : Cx} {xa : XA} {W : WX} {cnd : Expr} {body : List Stmt} {t : FT} {b : FS} {pos : Pos}
theorem ds_while (hp : PassesOwn (model X.prog X.w) X.A X.env X.xe) (hc : DT X xa W cnd t) (hb : DSs X xa W body b) : DS X xa W (.While cnd body [] pos) (sWhile t b) := by
  refine PSm (ps_while hp hc hb) fun N σ H ⟨ι, ρ, G, c, q⟩ => ?_
  unfold sWhile at q
  split at q
  · rename_i hx
    generalize hx.choose = n at q
    refine ⟨fun m σ' H' => ∃ ι' ρ' G', Ext X.K ι H ι' H' ∧ Cfg X.K xa ι' H' ρ' σ' G' ∧ PostS X.K xa W σ ι' H' (whl t b m ρ' G') N, ⟨n, ι, ρ, G, Ext.refl, c, q⟩, ?_⟩
    rintro m σ1 H1 ⟨ι1, ρ1, G1, e1, c1, q1⟩
    cases m with
    | zero => exact False.elim q1
    | succ m =>
      simp only [whl] at q1
      refine ⟨ι1, ρ1, G1, c1, (PostS.bind (rel := fun _ _ a v => v = a) c1 q1).mono fun v H2 ⟨ι2, x, G2, e2, c2, d2, p2⟩ => ?_⟩
      subst d2
      by_cases hv : v = true
      · rw [if_pos hv] at p2
        rw [if_pos hv]
        refine ⟨fun σ3 H3 => ∃ ι3 ρ3 G3, Ext X.K ι H ι3 H3 ∧ Cfg X.K xa ι3 H3 ρ3 σ3 G3 ∧ PostS X.K xa W σ ι3 H3 (whl t b m ρ3 G3) N, fun σ3 H3 h3 => ⟨m, Nat.lt_succ_self m, h3⟩, ι2, ρ1, G2, c2, ?_⟩
        cases zb : b ρ1 G2 with
        | nx ρ3 G3 => rw [zb] at p2; exact fun ι3 H3 σ3 x3 c3 => ⟨ι3, ρ3, G3, (e1.trans e2).trans x3, c3, PostS.shift (show PostS X.K xa W σ ι2 H2 (whl t b m ρ3 G3) N from p2) x3⟩
        | ct ρ3 G3 => rw [zb] at p2; exact fun ι3 H3 σ3 x3 c3 => ⟨ι3, ρ3, G3, (e1.trans e2).trans x3, c3, PostS.shift (show PostS X.K xa W σ ι2 H2 (whl t b m ρ3 G3) N from p2) x3⟩
        | bk ρ3 G3 => rw [zb] at p2; exact p2
        | rt d G3 => rw [zb] at p2; exact p2
        | er cc j ρ3 G3 => rw [zb] at p2; exact p2
        | st => rw [zb] at p2; exact False.elim p2
      · rw [if_neg hv] at p2
        rw [if_neg hv]
        exact p2 ι2 H2 σ1 Ext.refl c2
  · exact False.elim q
end

/-! ### list comprehensions -/
def wipeD (ρ : Rho) : List Nat → Rho
  | [] => ρ
  | v :: vs => (wipeD ρ vs).set v none
theorem wipe_get (σ : L2.St) : ∀ (vs : List Nat) (i : Nat), (wipe σ vs)[i]? = if i ∈ vs ∧ i < σ.length then some none else σ[i]?
  | [], i => by simp [wipe]
  | v :: vs, i => by
    unfold wipe
    by_cases hi : v = i
    · subst hi
      by_cases hl : v < σ.length
      · rw [List.getElem?_set_self (by rw [wipe_length]; exact hl)]
        simp [hl]
      · rw [List.getElem?_eq_none (by rw [List.length_set, wipe_length]; omega), List.getElem?_eq_none (by omega)]
        simp; omega
    · rw [List.getElem?_set_ne hi, wipe_get σ vs i]
      have : (i ∈ v :: vs ∧ i < σ.length) ↔ (i ∈ vs ∧ i < σ.length) := by
        simp only [List.mem_cons]
        constructor
        · rintro ⟨h | h, l⟩
          · exact absurd h.symm hi
          · exact ⟨h, l⟩
        · rintro ⟨h, l⟩; exact ⟨.inr h, l⟩
      simp only [this]
theorem wipeD_length (ρ : Rho) : ∀ vs : List Nat, (wipeD ρ vs).length = ρ.length
  | [] => rfl
  | v :: vs => by unfold wipeD; rw [List.length_set, wipeD_length ρ vs]
theorem wipeD_some {ρ : Rho} {i : Nat} {x : D} : ∀ {vs : List Nat}, (wipeD ρ vs)[i]? = some (some x) → ρ[i]? = some (some x) ∧ i ∉ vs
  | [], h => ⟨h, by simp⟩
  | v :: vs, h => by
    unfold wipeD at h
    by_cases hi : v = i
    · subst hi
      by_cases hv : v < (wipeD ρ vs).length
      · rw [List.getElem?_set_self hv] at h; cases h
      · rw [List.getElem?_eq_none (by simpa using hv)] at h; cases h
    · rw [List.getElem?_set_ne hi] at h
      obtain ⟨h1, h2⟩ := wipeD_some h
      exact ⟨h1, by simp only [List.mem_cons, not_or]; exact ⟨fun e => hi e.symm, h2⟩⟩
theorem wipe_same {l vs : List Nat} {σ σ' : L2.St} (h : SameOut l (wipe σ vs) σ') (hl : ∀ i ∈ l, i ∈ vs) : wipe σ' vs = wipe σ vs := by
  apply List.ext_getElem?
  intro i
  have hlen : σ'.length = σ.length := by rw [h.1, wipe_length]
  rw [wipe_get, wipe_get, hlen]
  by_cases hi : i ∈ vs
  · by_cases hh : i < σ.length
    · rw [if_pos ⟨hi, hh⟩, if_pos ⟨hi, hh⟩]
    · rw [if_neg (fun z => hh z.2), if_neg (fun z => hh z.2), List.getElem?_eq_none (by omega), List.getElem?_eq_none (by omega)]
  · rw [if_neg (fun z => hi z.1), if_neg (fun z => hi z.1), h.2 i (fun z => hi (hl i z)), wipe_get, if_neg (fun z => hi z.1)]
theorem Cfg.wipe {K : Frag} {xa : XA} {ι : List Addr} {H : Hp} {ρ : Rho} {σ : L2.St} {G : GH} (c : Cfg K xa ι H ρ σ G) (vs : List Nat) : Cfg K none ι H (wipeD ρ vs) (wipe σ vs) G := by
  refine ⟨⟨by rw [wipeD_length, wipe_length]; exact c.env.len, fun i d h => ?_⟩, c.rz, trivial⟩
  obtain ⟨h1, h2⟩ := wipeD_some h
  obtain ⟨v, h3, h4⟩ := c.env.at_ i d h1
  exact ⟨v, by rw [wipe_get, if_neg (fun z => h2 z.1)]; exact h3, h4⟩
def W0 : WX := fun _ _ _ _ => False
/-- no exception leaves a comprehension -/
def noEr {α : Type} : R α → R α
  | .ok a G => .ok a G
  | _ => .st
@[simp] theorem noEr_ok {α : Type} (a : α) (G : GH) : noEr (.ok a G) = .ok a G := rfl
theorem Post.noEr {α β : Type} {K : Frag} {W W' : WX} {σ σ' : L2.St} {ι : List Addr} {H : Hp} {rel : List Addr → Hp → α → β → Prop} {r : R α} {Q : β → Hp → Prop} (p : Post K W σ ι H rel (noEr r) Q) : Post K W' σ' ι H rel r Q := by
  cases r with
  | ok a G => exact p
  | er c j G => exact False.elim p
  | st => exact p
open Classical in
noncomputable def lcIt (p : Pat) (tt : FT) (te : FE) (ck : Option Nat) (all : List D) (n0 : Nat) (ρw : Rho) : List D → GH → R Unit
  | [], G => if chkL ck all G then .ok () G else .st
  | x :: r, G => if chkL ck all G then match setP p x ρw with
    | some ρ1 => (noEr (tt ρ1 G)).bind fun b G1 => if b = true then (noEr (te ρ1 G1)).bind fun d G2 => match G2[n0]? with
        | some (.lst acc) => if acc.length < 16777216 then lcIt p tt te ck all n0 ρw r (G2.set n0 (.lst (acc ++ [d]))) else .st
        | _ => .st
      else lcIt p tt te ck all n0 ρw r G1
    | none => .st
    else .st
noncomputable def lcRun (p : Pat) (tt : FT) (te : FE) (own : List Nat) (ck lk : Option Nat) (xs : List D) (ρ : Rho) (G : GH) : R D :=
  (lcIt p tt te ck xs G.length (wipeD ρ own) xs (G ++ [.lst []])).bind fun _ G3 => .ok (.ref G.length) (unlockG lk G3)
noncomputable def fLc (f : FE) (p : Pat) (tt : FT) (te : FE) (own : List Nat) : FE := fun ρ G => (f ρ G).bind fun x G1 => match iterD x G1 with
  | some (xs, lk, ck, G2) => lcRun p tt te own ck lk xs ρ G2
  | none => .st
noncomputable def fLcR (k : Nat) (f : FA) (p : Pat) (tt : FT) (te : FE) (own : List Nat) : FE := fun ρ G => (f ρ G).bind fun as G1 => match rngA k as with
  | some xs => lcRun p tt te own none none xs ρ G1
  | none => .st
def fYes : FT := fun _ G => .ok true G
theorem lc_loop {X : Cx} {xa : XA} {W : WX} {p : Pat} {tt : FT} {te : FE} {own : List Nat} {ck : Option Nat} {all : List D} {l : Lk} {Q : VK} {J : It} {σ : L2.St} {ι1 ι : List Addr} {H1 H : Hp} {ρ : Rho} {G : GH} {σ₀ : L2.St} {Da : Addr}
    (hsl : ∀ i ∈ p.slots, i ∈ own) (w : Walks2 X.K ι H ck J all) (c : Cfg X.K xa ι H ρ σ G) (lr : LR X.K X l ι1 H1 ι H) (q : PostE X.K W σ₀ ι1 H1 (lcRun p tt te own ck l.num all ρ G) Q) (hD : H Da = none) :
    ∃ Wm : Nat → Nat → Hp → Prop, (∃ m, Wm 0 m (upd H Da (.lst []))) ∧ ∀ i m H, Wm i m H →
      (J.stop i H ∧ UnL X (Q (.ref Da)) H) ∨ (J.go i H ∧ ∃ Nx : Hp → Prop, (∀ H', Nx H' → ∃ m', m' < m ∧ Wm (i + 1) m' H') ∧ ∀ x H', J.yld i H x H' → tG X.K none p x (wipe σ own) H' fun σ2 H2 => wipe σ2 own = wipe σ own ∧ tT X.K none W0 tt σ2 H2 fun b H3 =>
        if b = true then tE X.K none W0 te σ2 H3 fun y H4 => ∃ acc, H4 Da = some (.lst acc) ∧ acc.length < sizeLine ∧ Nx (upd H4 Da (.lst (acc ++ [y]))) else Nx H3) := by
  obtain ⟨e0, r0, hat⟩ := c.rz.new (p := Da) (u := .lst []) (o := .lst []) hD fun e => ⟨[], upd_same, DVs.nil⟩
  have c0 := (c.ext e0 r0).wipe own
  unfold lcRun at q
  refine ⟨fun i m H' => ∃ ι' G', m = all.length - i ∧ i ≤ all.length ∧ Ext X.K (ι ++ [Da]) (upd H Da (.lst [])) ι' H' ∧ Cfg X.K none ι' H' (wipeD ρ own) (wipe σ own) G' ∧ PostE X.K W σ₀ ι1 H1 ((lcIt p tt te ck all G.length (wipeD ρ own) (all.drop i) G').bind fun _ G3 => .ok (.ref G.length) (unlockG l.num G3)) Q,
    ⟨all.length, _, _, by simp, Nat.zero_le _, Ext.refl, c0, by simpa using q⟩, ?_⟩
  rintro i m H' ⟨ι', G', rfl, hi, e, c', q⟩
  have e' : Ext X.K ι H ι' H' := e0.trans e
  have hat' : ι'[G.length]? = some Da := e.at hat
  by_cases hlt : i < all.length
  · right
    have hd : all.drop i = all[i] :: all.drop (i + 1) := List.drop_eq_getElem_cons hlt
    rw [hd, lcIt] at q
    by_cases hc : chkL ck all G'
    · rw [if_pos hc] at q
      obtain ⟨g, y⟩ := w.go i ι' H' G' e' c'.rz hc hlt
      refine ⟨g, fun H2 => ∃ ι2 G2, Ext X.K (ι ++ [Da]) (upd H Da (.lst [])) ι2 H2 ∧ Cfg X.K none ι2 H2 (wipeD ρ own) (wipe σ own) G2 ∧ PostE X.K W σ₀ ι1 H1 ((lcIt p tt te ck all G.length (wipeD ρ own) (all.drop (i + 1)) G2).bind fun _ G3 => .ok (.ref G.length) (unlockG l.num G3)) Q,
        fun H2 ⟨ι2, G2, e2, c2, q2⟩ => ⟨all.length - (i + 1), by omega, ι2, G2, rfl, hlt, e2, c2, q2⟩, fun x H'' hy => ?_⟩
      obtain ⟨rfl, d, hd', hx⟩ := y x H'' hy
      have hd2 : d = all[i] := by
        have : all[i]? = some all[i] := by simp [hlt]
        rw [this] at hd'; exact (Option.some.inj hd').symm
      subst hd2
      refine ⟨ι', wipeD ρ own, G', all[i], c', hx, ?_⟩
      cases es : setP p all[i] (wipeD ρ own) with
      | none => rw [es] at q; exact False.elim q
      | some ρ1 =>
        rw [es] at q
        dsimp only at q ⊢
        intro σ1 c1 so
        refine ⟨wipe_same so hsl, ι', ρ1, G', c1, ?_⟩
        cases et : tt ρ1 G' with
        | ok bb G1 =>
          rw [et] at q
          intro ι3 H3 v e3 r3 dv
          subst dv
          simp only [noEr_ok, R.bind_ok] at q
          by_cases hb : v = true
          · rw [if_pos hb] at q ⊢
            refine ⟨ι3, ρ1, G1, c1.ext e3 r3, ?_⟩
            cases ee : te ρ1 G1 with
            | ok dd G2 =>
              rw [ee] at q
              simp only [noEr_ok, R.bind_ok] at q
              intro ι4 H4 v4 e4 r4 dv4
              have hat4 : ι4[G.length]? = some Da := e4.at (e3.at hat')
              cases eg : G2[G.length]? with
              | none => rw [eg] at q; exact False.elim q
              | some og =>
                rw [eg] at q
                cases og with
                | lst acc =>
                  dsimp only at q
                  by_cases hl : acc.length < 16777216
                  · rw [if_pos hl] at q
                    obtain ⟨vs, qv, hv⟩ := r4.at_ _ _ _ hat4 eg
                    obtain ⟨e5, r5⟩ := r4.relist hat4 eg qv (hv.append (DVs.cons dv4 DVs.nil))
                    refine ⟨vs, qv, by rw [szl, ← hv.length]; exact hl, ι4, _, ((e.trans e3).trans e4).trans e5, ?_, q⟩
                    exact c'.ext ((e3.trans e4).trans e5) r5
                  · rw [if_neg hl] at q; exact False.elim q
                | _ => exact False.elim q
            | er cc j G2 => rw [ee] at q; exact False.elim q
            | st => rw [ee] at q; exact False.elim q
          · rw [if_neg hb] at q ⊢
            exact ⟨ι3, G1, e.trans e3, c'.ext e3 r3, q⟩
        | er cc j G1 => rw [et] at q; exact False.elim q
        | st => rw [et] at q; exact False.elim q
    · rw [if_neg hc] at q
      exact False.elim q
  · left
    have e1 : i = all.length := by omega
    subst e1
    rw [List.drop_length, lcIt] at q
    by_cases hc : chkL ck all G'
    · rw [if_pos hc] at q
      simp only [R.bind_ok] at q
      refine ⟨w.stop ι' H' G' e' c'.rz hc, (lr.more e').fin fun H3 e3 w3 r3 => ?_⟩
      exact q ι' H3 (.ref Da) e3 (r3 c'.rz) (by simp only [DV]; exact ⟨Da, hat', rfl⟩)
    · rw [if_neg hc] at q
      exact False.elim q
section
variable {X : Cx} {xa : XA} {W : WX} {tg iter elt : Expr} {ifs : List Expr} {scope : Scope} {own : List (Str × Nat)} {f : FE} {fa : FA} {p : Pat} {tt : FT} {te : FE} {pos p0 p1 : Pos}
def DTs (X : Cx) (xa : XA) (W : WX) (ifs : List Expr) (f : FT) : Prop := PTs X ifs (tT X.K xa W f)
theorem dts_nil : DTs X xa W [] fYes := ⟨fun pins s σ H Q I ⟨ι, ρ, G, c, q⟩ => pts_nil.run pins s σ H Q I (q.ok Ext.refl c.rz rfl)⟩
theorem dts_one {e : Expr} {t : FT} (h : DT X xa W e t) : DTs X xa W [e] t := pts_one h
abbrev Blk (X : Cx) (s : Shared) (H : Hp) (scope : Scope) (cl : List (Str × Addr)) (C : Addr) (fp : List Addr) : Cx := X.blk s H scope (compEnvC scope cl C X.env) fp
theorem tLc_of {σ : L2.St} {H : Hp} {ι : List Addr} {ρ : Rho} {G : GH} {Q : VK} (hsl : ∀ i ∈ p.slots, i ∈ own.map (·.2)) (c : Cfg X.K xa ι H ρ σ G) (q : PostE X.K W σ ι H (fLc f p tt te (own.map (·.2)) ρ G) Q) :
    tLc (iIt X (tE X.K xa W f)) (tG X.K none p) (tT X.K none W0 tt) (tE X.K none W0 te) (own.map (·.2)) σ H (fun v H' => UnL X (Q v) H') := by
  refine ⟨ι, ρ, G, c, (Post.bind (rel := DV X.K) q).mono fun v H1 ⟨ι1, x, G1, e1, r1, d1, p1⟩ => ?_⟩
  cases e : iterD x G1 with
  | none => rw [e] at p1; exact False.elim p1
  | some z =>
    obtain ⟨xs, lk, ck, G2⟩ := z
    rw [e] at p1
    refine iter_read (R := fun J H1 => ∀ D, H1 D = none → ∃ Wm : Nat → Nat → Hp → Prop, (∃ m, Wm 0 m (upd H1 D (.lst []))) ∧ ∀ i m H, Wm i m H →
      (J.stop i H ∧ UnL X (Q (.ref D)) H) ∨ (J.go i H ∧ ∃ Nx : Hp → Prop, (∀ H', Nx H' → ∃ m', m' < m ∧ Wm (i + 1) m' H') ∧ ∀ x H', J.yld i H x H' → tG X.K none p x (wipe σ (own.map (·.2))) H' fun σ2 H2 => wipe σ2 (own.map (·.2)) = wipe σ (own.map (·.2)) ∧ tT X.K none W0 tt σ2 H2 fun b H3 =>
        if b = true then tE X.K none W0 te σ2 H3 fun y H4 => ∃ acc, H4 D = some (.lst acc) ∧ acc.length < sizeLine ∧ Nx (upd H4 D (.lst (acc ++ [y]))) else Nx H3)) r1 d1 e fun l J H2 hl lr r2 w => ?_
    subst hl
    intro D hD
    exact lc_loop hsl w ((c.ext e1 r1).ext lr.extW r2) lr p1 hD
theorem de_lc (hc : X.calm = true) (hN : X.N.Nodup) (hi : DE X xa W iter f) (ok : BlkOk X.N X.env.scope scope own) (hsl : ∀ i ∈ p.slots, i ∈ own.map (·.2))
    (hg : ∀ (s : Shared) (H : Hp) (C : Addr) (cl : List (Str × Addr)) (fp : List Addr), DG (Blk X s H scope cl C fp) none tg p) (ht : ∀ (s : Shared) (H : Hp) (C : Addr) (cl : List (Str × Addr)) (fp : List Addr), DTs (Blk X s H scope cl C fp) none W0 ifs tt)
    (he : ∀ (s : Shared) (H : Hp) (C : Addr) (cl : List (Str × Addr)) (fp : List Addr), DE (Blk X s H scope cl C fp) none W0 elt te) (hs : ∀ x, foldedSetIterable iter X.env x = pure x := by intro _; rfl) :
    DE X xa W (.ListComp elt [⟨tg, iter, ifs, 0⟩] scope pos) (fLc f p tt te (own.map (·.2))) :=
  PEm (pe_unl (pe_lc (g := tG X.K none p) (tt := tT X.K none W0 tt) (te := tE X.K none W0 te) hc hN (pi_it hi) ok hg ht he hs)) fun σ H Q ⟨ι, ρ, G, c, q⟩ => tLc_of hsl c q
theorem ds_setLc {i : Nat} {y : Str} {py spos : Pos} (hc : X.calm = true) (hN : X.N.Nodup) (hy : X.N[i]? = some y) (hn : XaNo xa i) (hyl : X.env.scope.names.lookup y = some .local)
    (hsw : swapsWith (.ListComp elt [⟨tg, iter, ifs, 0⟩] scope pos) (some (.Name y py)) spos.line X.env = pure true) (hi : DE X xa W iter f) (ok : BlkOk X.N X.env.scope scope own) (hsl : ∀ i ∈ p.slots, i ∈ own.map (·.2))
    (hg : ∀ (s : Shared) (H : Hp) (C : Addr) (cl : List (Str × Addr)) (fp : List Addr), DG (Blk X s H scope cl C fp) none tg p) (ht : ∀ (s : Shared) (H : Hp) (C : Addr) (cl : List (Str × Addr)) (fp : List Addr), DTs (Blk X s H scope cl C fp) none W0 ifs tt)
    (he : ∀ (s : Shared) (H : Hp) (C : Addr) (cl : List (Str × Addr)) (fp : List Addr), DE (Blk X s H scope cl C fp) none W0 elt te) (hs : ∀ x, foldedSetIterable iter X.env x = pure x := by intro _; rfl) :
    DS X xa W (.Assign [.Name y py] (.ListComp elt [⟨tg, iter, ifs, 0⟩] scope pos) spos) (sSet (.nm i) (fLc f p tt te (own.map (·.2)))) := by
  refine PSm (ps_unl (ps_setLc (g := tG X.K none p) (tt := tT X.K none W0 tt) (te := tE X.K none W0 te) hc hN hy hyl hsw (pi_it hi) ok hg ht he hs)) fun N σ H ⟨ι, ρ, G, c, q⟩ => ?_
  have := tLc_of (X := X) (xa := xa) (W := W) (own := own) (f := f) (p := p) (tt := tt) (te := te) (Q := fun x H1 => N.nx (σ.set i (some x)) H1) hsl c ((PostS.bind (rel := DV X.K) c q).mono fun v H1 ⟨ι1, x, G1, e1, c1, d1, p1⟩ =>
    (show PostS X.K xa W σ ι1 H1 (.nx (ρ.set i (some x)) G1) N from p1) ι1 H1 _ Ext.refl (c1.set d1 hn))
  exact this
theorem tLcR_of {σ : L2.St} {H : Hp} {ι : List Addr} {ρ : Rho} {G : GH} {Q : VK} (k : Nat) (hsl : ∀ i ∈ p.slots, i ∈ own.map (·.2)) (c : Cfg X.K xa ι H ρ σ G) (q : PostE X.K W σ ι H (fLcR k fa p tt te (own.map (·.2)) ρ G) Q) :
    PostA X.K W σ ι H (fa ρ G) fun vs H1 => ∃ ι1 d xs, DVs X.K ι1 H1 d vs ∧ rngA k d = some xs ∧ ∀ J, Walks2 X.K ι1 H1 none J xs → ∀ D, H1 D = none → ∃ Wm : Nat → Nat → Hp → Prop, (∃ m, Wm 0 m (upd H1 D (.lst []))) ∧ ∀ i m H, Wm i m H →
      (J.stop i H ∧ UnL X (Q (.ref D)) H) ∨ (J.go i H ∧ ∃ Nx : Hp → Prop, (∀ H', Nx H' → ∃ m', m' < m ∧ Wm (i + 1) m' H') ∧ ∀ x H', J.yld i H x H' → tG X.K none p x (wipe σ (own.map (·.2))) H' fun σ2 H2 => wipe σ2 (own.map (·.2)) = wipe σ (own.map (·.2)) ∧ tT X.K none W0 tt σ2 H2 fun b H3 =>
        if b = true then tE X.K none W0 te σ2 H3 fun y H4 => ∃ acc, H4 D = some (.lst acc) ∧ acc.length < sizeLine ∧ Nx (upd H4 D (.lst (acc ++ [y]))) else Nx H3) := by
  unfold fLcR at q
  refine (Post.bind (rel := DVs X.K) q).mono fun vs H1 ⟨ι1, d, G1, e1, r1, d1, p1⟩ => ?_
  cases e : rngA k d with
  | none => rw [e] at p1; exact False.elim p1
  | some xs =>
    rw [e] at p1
    exact ⟨ι1, d, xs, d1, e, fun J w D hD => lc_loop (l := none) hsl w (c.ext e1 r1) Ext.refl p1 hD⟩
theorem de_lcR1 {a : Expr} (hc : X.calm = true) (hN : X.N.Nodup) (hgl : Gl X "range") (hm : X.mg "range" = none) (ha : DA X xa W [a] fa) (ok : BlkOk X.N X.env.scope scope own) (hsl : ∀ i ∈ p.slots, i ∈ own.map (·.2))
    (hg : ∀ (s : Shared) (H : Hp) (C : Addr) (cl : List (Str × Addr)) (fp : List Addr), DG (Blk X s H scope cl C fp) none tg p) (ht : ∀ (s : Shared) (H : Hp) (C : Addr) (cl : List (Str × Addr)) (fp : List Addr), DTs (Blk X s H scope cl C fp) none W0 ifs tt)
    (he : ∀ (s : Shared) (H : Hp) (C : Addr) (cl : List (Str × Addr)) (fp : List Addr), DE (Blk X s H scope cl C fp) none W0 elt te)
    (hst : starEach [a] X.env = [(false, eval a X.env)] := by rfl) (hs : ∀ x, foldedSetIterable (.Call (.Name "range" p0) [a] [] p1) X.env x = pure x := by intro _; rfl) :
    DE X xa W (.ListComp elt [⟨tg, .Call (.Name "range" p0) [a] [] p1, ifs, 0⟩] scope pos) (fLcR 1 fa p tt te (own.map (·.2))) :=
  PEm (pe_unl (pe_lc (g := tG X.K none p) (tt := tT X.K none W0 tt) (te := tE X.K none W0 te) hc hN (pi_range1 hgl hm ha hst) ok hg ht he hs)) fun σ H Q ⟨ι, ρ, G, c, q⟩ =>
    ⟨ι, ρ, G, c, (tLcR_of 1 hsl c q).mono fun vs H1 ⟨ι1, d, xs, h1, h3, h4⟩ => rng1_read (σ := σ) (R := fun J H1 => ∀ D, H1 D = none → ∃ Wm : Nat → Nat → Hp → Prop, (∃ m, Wm 0 m (upd H1 D (.lst []))) ∧ ∀ i m H, Wm i m H →
      (J.stop i H ∧ UnL X (Q (.ref D)) H) ∨ (J.go i H ∧ ∃ Nx : Hp → Prop, (∀ H', Nx H' → ∃ m', m' < m ∧ Wm (i + 1) m' H') ∧ ∀ x H', J.yld i H x H' → tG X.K none p x (wipe σ (own.map (·.2))) H' fun σ2 H2 => wipe σ2 (own.map (·.2)) = wipe σ (own.map (·.2)) ∧ tT X.K none W0 tt σ2 H2 fun b H3 =>
        if b = true then tE X.K none W0 te σ2 H3 fun y H4 => ∃ acc, H4 D = some (.lst acc) ∧ acc.length < sizeLine ∧ Nx (upd H4 D (.lst (acc ++ [y]))) else Nx H3)) h1 h3 h4⟩
theorem de_lcR2 {a a2 : Expr} (hc : X.calm = true) (hN : X.N.Nodup) (hgl : Gl X "range") (hm : X.mg "range" = none) (ha : DA X xa W [a, a2] fa) (ok : BlkOk X.N X.env.scope scope own) (hsl : ∀ i ∈ p.slots, i ∈ own.map (·.2))
    (hg : ∀ (s : Shared) (H : Hp) (C : Addr) (cl : List (Str × Addr)) (fp : List Addr), DG (Blk X s H scope cl C fp) none tg p) (ht : ∀ (s : Shared) (H : Hp) (C : Addr) (cl : List (Str × Addr)) (fp : List Addr), DTs (Blk X s H scope cl C fp) none W0 ifs tt)
    (he : ∀ (s : Shared) (H : Hp) (C : Addr) (cl : List (Str × Addr)) (fp : List Addr), DE (Blk X s H scope cl C fp) none W0 elt te)
    (hst : starEach [a, a2] X.env = [(false, eval a X.env), (false, eval a2 X.env)] := by rfl) (hst2 : starEach [a2] X.env = [(false, eval a2 X.env)] := by rfl) (hs : ∀ x, foldedSetIterable (.Call (.Name "range" p0) [a, a2] [] p1) X.env x = pure x := by intro _; rfl) :
    DE X xa W (.ListComp elt [⟨tg, .Call (.Name "range" p0) [a, a2] [] p1, ifs, 0⟩] scope pos) (fLcR 2 fa p tt te (own.map (·.2))) :=
  PEm (pe_unl (pe_lc (g := tG X.K none p) (tt := tT X.K none W0 tt) (te := tE X.K none W0 te) hc hN (pi_range2 hgl hm ha hst hst2) ok hg ht he hs)) fun σ H Q ⟨ι, ρ, G, c, q⟩ =>
    ⟨ι, ρ, G, c, (tLcR_of 2 hsl c q).mono fun vs H1 ⟨ι1, d, xs, h1, h3, h4⟩ => rng2_read (σ := σ) (R := fun J H1 => ∀ D, H1 D = none → ∃ Wm : Nat → Nat → Hp → Prop, (∃ m, Wm 0 m (upd H1 D (.lst []))) ∧ ∀ i m H, Wm i m H →
      (J.stop i H ∧ UnL X (Q (.ref D)) H) ∨ (J.go i H ∧ ∃ Nx : Hp → Prop, (∀ H', Nx H' → ∃ m', m' < m ∧ Wm (i + 1) m' H') ∧ ∀ x H', J.yld i H x H' → tG X.K none p x (wipe σ (own.map (·.2))) H' fun σ2 H2 => wipe σ2 (own.map (·.2)) = wipe σ (own.map (·.2)) ∧ tT X.K none W0 tt σ2 H2 fun b H3 =>
        if b = true then tE X.K none W0 te σ2 H3 fun y H4 => ∃ acc, H4 D = some (.lst acc) ∧ acc.length < sizeLine ∧ Nx (upd H4 D (.lst (acc ++ [y]))) else Nx H3)) h1 h3 h4⟩
end
end F2
end
section
namespace F2
open PySem PySem.Spec PyProof.Rows L2

/-! ### what a def promises -/
abbrev FD := List D → GH → R D
def wOf (E : XK) : WX := fun cls d _ H => E cls d H
/-- the promise of a def of n parameters that computes g -/
def SpD (K : Frag) (n : Nat) (g : FD) : Sp := fun vs H Q E => ∃ ι ds G, DVs K ι H ds vs ∧ Rz K ι H G ∧ ds.length = n ∧ PostE K (wOf E) [] ι H (g ds G) Q
/-- a body's run: n slots -/
def runB (n : Nat) (b : FS) : FD := fun ds G => match b (ds.map some ++ List.replicate (n - ds.length) none) G with
  | .nx _ G' => .ok .non G'
  | .rt d G' => .ok d G'
  | .er c j _ G' => .er c j G'
  | _ => .st
theorem EnvR.start {K : Frag} {ι : List Addr} {H : Hp} {N : List Str} {ds : List D} {vs : List V} (h : DVs K ι H ds vs) : EnvR K ι H (ds.map some ++ List.replicate (N.length - ds.length) none) (start N vs) := by
  have hl := h.length
  refine ⟨by simp [L2.start, hl], fun i d e => ?_⟩
  by_cases hi : i < ds.length
  · rw [List.getElem?_append_left (by simpa using hi), List.getElem?_map] at e
    cases z : ds[i]? with
    | none => rw [z] at e; cases e
    | some x =>
      rw [z] at e
      cases e
      obtain ⟨v, h1, h2⟩ := h.get z
      refine ⟨v, ?_, h2⟩
      unfold L2.start
      rw [List.getElem?_append_left (by rw [List.length_map, ← hl]; exact hi), List.getElem?_map, h1]; rfl
  · rw [List.getElem?_append_right (by simpa using hi)] at e
    obtain ⟨h1, h2⟩ := List.getElem?_eq_some_iff.mp e
    simp at h2
/-- THE RULE: a def by its body -/
theorem fn_okD {P : Program} {w : World} {K : Frag} {mg : Str → Option Value} {base : Heap} {k : Nat} {x qual : Str} {params : Arguments} {body : List Stmt} {scope : Scope} {dvs : List V} {kws : List (Str × V)} {f : Addr} {fd : FuncData} {N ps : List Str} {b : FS}
    (F : FunD K x qual params body scope dvs kws f fd) (S : FnScope N ps scope)
    (hbody : ∀ (cdv : Value) (A : Around) (outer : List Env) (s : Shared) (H : Hp) (E : XK), Room k (A.deeper (envOfC qual scope s.heap.objs.size f cdv)) →
      Takes (cxOf (L2.CX P w) P w K mg base N qual scope f cdv A outer s H E) (wOf E) → PassesOwn (model P w) (A.deeper (envOfC qual scope s.heap.objs.size f cdv)) (envOfC qual scope s.heap.objs.size f cdv) (cxOf (L2.CX P w) P w K mg base N qual scope f cdv A outer s H E).xe →
      DSs (cxOf (L2.CX P w) P w K mg base N qual scope f cdv A outer s H E) none (wOf E) body b) :
    FnOk P w K mg base (L2.CX P w) (k + 1) f fd ps (SpD K ps.length (runB N.length b)) := by
  refine F.ok S (fun vs H Q E ⟨ι, ds, G, h1, h2, h3, h4⟩ => by rw [← h1.length]; exact h3) fun cdv A outer s H vs Q E hr ⟨ι, ds, G, h1, h2, h3, h4⟩ => ?_
  refine ⟨_, hbody cdv A outer s H E hr (takes_of rfl rfl rfl rfl) PassesOwn.leaving, ι, _, G, ⟨EnvR.start (N := N) h1, h2, trivial⟩, ?_⟩
  unfold runB at h4
  show PostS K none (wOf E) _ ι H (b (ds.map some ++ List.replicate (N.length - ds.length) none) G) _
  cases z : b (ds.map some ++ List.replicate (N.length - ds.length) none) G with
  | nx ρ G' => rw [z] at h4; exact fun ι' H' σ' e c => h4 ι' H' .non e c.rz (by simp only [DV])
  | rt d G' => rw [z] at h4; exact h4
  | bk ρ G' => rw [z] at h4; exact False.elim h4
  | ct ρ G' => rw [z] at h4; exact False.elim h4
  | er c j ρ G' => rw [z] at h4; exact fun ι' H' σ' d e cf hj => h4 ι' H' d e cf.rz hj
  | st => rw [z] at h4; exact False.elim h4
/-- nothing is promised -/
theorem fn_st {P : Program} {w : World} {K : Frag} {mg : Str → Option Value} {base : Heap} {k : Nat} {x qual : Str} {params : Arguments} {body : List Stmt} {scope : Scope} {dvs : List V} {kws : List (Str × V)} {f : Addr} {fd : FuncData} {ps : List Str}
    (F : FunD K x qual params body scope dvs kws f fd) : FnOk P w K mg base (L2.CX P w) k f fd ps (SpD K ps.length fun _ _ => .st) :=
  ⟨fun vs H Q E ⟨ι, ds, G, h1, h2, h3, h4⟩ => False.elim h4, fun A outer s H args us vs Q E _ _ _ _ ⟨ι, ds, G, h1, h2, h3, h4⟩ => False.elim h4⟩

/-! ### what a callee is -/
/-- values of every heap -/
def Fix (K : Frag) (ds : List D) (vs : List V) : Prop := ∀ ι H, DVs K ι H ds vs
theorem Fix.nil {K : Frag} : Fix K [] [] := fun _ _ => DVs.nil
theorem Fix.atoms {K : Frag} {ds : List D} {vs : List V} (h : atomsV ds = some vs) : Fix K ds vs := fun _ _ => atomsV_dv h
/-- how a call may be bound: the defaults that fill up -/
def Fills (K : Frag) (fd : FuncData) (ps : List Str) (dfl : List D) : Prop := ∃ dvs ds, Fix K dfl dvs ∧ Vals dvs ds ∧ Binds K fd ps ds
theorem Fills.none {K : Frag} {fd : FuncData} {ps : List Str} (h : Binds K fd ps []) : Fills K fd ps [] := ⟨[], [], .nil, .nil, h⟩
/-- a callee: where it is, what it computes; n its parameters -/
structure Cal (P : Program) (w : World) (K : Frag) (mg : Str → Option Value) (base : Heap) (k : Nat) (n : Nat) (dfls : List (List D)) (g : FD) (f : Addr) : Prop where
  ok : ∃ (fd : FuncData) (ps : List Str), ps.length = n ∧ FnOk P w K mg base (L2.CX P w) k f fd ps (SpD K n g) ∧ ∀ dfl ∈ dfls, Fills K fd ps dfl
  kp : PySem.W.keepIn K (.ref f) = true
/-- a call's function: the arguments, the defaults -/
def fCal (n : Nat) (g : FD) (dfl : List D) (t : FA) : FE := fun ρ G => (t ρ G).bind fun xs G1 => if (xs ++ dfl).length = n then g (xs ++ dfl) G1 else .st
def fMethD (C m : Str) (n : Nat) (g : FD) (dfl : List D) (o : FE) (t : FA) : FE := fun ρ G => (o ρ G).bind fun x G1 => match x with
  | .ref i => match G1[i]? with
    | some (.ins c fs) => if c = C ∧ fs.lookup m = none then (t ρ G1).bind fun xs G2 => if (x :: (xs ++ dfl)).length = n then g (x :: (xs ++ dfl)) G2 else .st else .st
    | _ => .st
  | _ => .st
def fMakeD (C : Str) (n : Nat) (g : FD) (dfl : List D) (t : FA) : FE := fun ρ G => (t ρ G).bind fun xs G1 => if (D.ref G1.length :: (xs ++ dfl)).length = n then (g (.ref G1.length :: (xs ++ dfl)) (G1 ++ [.ins C []])).bind fun d G2 => match d with
  | .non => .ok (.ref G1.length) G2
  | _ => .st
  else .st
section
variable {X : Cx} {W : WX} {xa : XA} {k n : Nat} {dfls : List (List D)} {dfl : List D} {g : FD} {f : Addr} {x m C : Str} {p pos apos : Pos} {e o : Expr} {es : List Expr} {t : FA} {fo : FE}
/-- the callee's promise from the caller's -/
theorem SpD.of {K : Frag} {σ : L2.St} {ι : List Addr} {H : Hp} {G : GH} {xs : List D} {vs dvs : List V} {Q : VK} (hx : DVs K ι H xs vs) (hd : Fix K dfl dvs) (r : Rz K ι H G) (q : PostE K W σ ι H (if (xs ++ dfl).length = n then g (xs ++ dfl) G else .st) Q) : SpD K n g (vs ++ dvs) H Q (WE W σ) := by
  by_cases hl : (xs ++ dfl).length = n
  · rw [if_pos hl] at q
    exact ⟨ι, xs ++ dfl, G, hx.append (hd ι H), r, hl, q⟩
  · rw [if_neg hl] at q; exact False.elim q
theorem de_call (c : Cal X.prog X.w X.K X.mg X.base k n dfls g f) (hdf : dfl ∈ dfls) (hr : Room k X.A) (tk : Takes X W) (hm : X.mg x = some (.ref f)) (hg : Gl X x) (ha : DA X xa W (e :: es) t)
    (hdb : (x == ("__debug__" : Str)) = false := by decide) (he : starEach (e :: es) X.env = (false, eval e X.env) :: starEach es X.env := by rfl) (hpl : (backTo pos (starEach es X.env)).any (·.1) = false := by rfl) :
    DE X xa W (.Call (.Name x p) (e :: es) [] pos) (fCal n g dfl t) := by
  obtain ⟨fd, ps, hn, F, hf⟩ := c.ok
  obtain ⟨dvs, ds, h1, h2, h3⟩ := hf dfl hdf
  refine PEm (pe_callSD (E := WE W) F hr hg hm c.kp h3 h2 (passAt tk) ha hdb he hpl) fun σ H Q ⟨ι, ρ, G, cf, q⟩ => ⟨ι, ρ, G, cf, (Post.bind (rel := DVs X.K) q).mono fun vs H1 ⟨ι1, xs, G1, e1, r1, d1, p1⟩ => ?_⟩
  exact SpD.of d1 h1 r1 p1
theorem passes_any (tk : Takes X W) (hW : ∀ c d σ σ' H, W c d σ H → W c d σ' H) (σ : L2.St) : Passes (L2.CX X.prog X.w) X (WE W σ) := passes_call tk fun cls d σ' H h => hW cls d σ σ' H h
/-- a wish that does not see the slots -/
def NoSl (W : WX) : Prop := ∀ c d σ σ' H, W c d σ H → W c d σ' H
theorem NoSl.unw (h : NoSl W) : NoSl (UnW X W) := fun c d σ σ' H q => q.elim (fun q => .inl (h c d σ σ' H q)) fun ⟨a, o, u, e, n, q⟩ => .inr ⟨a, o, u, e, n, h c d σ σ' _ q⟩
theorem NoSl.of (E : XK) : NoSl (wOf E) := fun _ _ _ _ _ h => h
theorem NoSl.w0 : NoSl W0 := fun _ _ _ _ _ h => h
theorem de_call0 (c : Cal X.prog X.w X.K X.mg X.base k n dfls g f) (hdf : dfl ∈ dfls) (hr : Room k X.A) (tk : Takes X W) (hs : NoSl W) (hm : X.mg x = some (.ref f)) (hg : Gl X x) (hdb : (x == ("__debug__" : Str)) = false := by decide) :
    DE X xa W (.Call (.Name x p) [] [] pos) (fCal n g dfl fA0) := by
  obtain ⟨fd, ps, hn, F, hf⟩ := c.ok
  obtain ⟨dvs, ds, h1, h2, h3⟩ := hf dfl hdf
  refine PEm (pe_call0 (E := WE W []) F hr hg hm c.kp h3 h2 (passes_any tk hs []) hdb) fun σ H Q ⟨ι, ρ, G, cf, q⟩ => ?_
  have q' : PostE X.K W [] ι H (fCal n g dfl fA0 ρ G) Q := by
    cases z : fCal n g dfl fA0 ρ G with
    | ok a G' => rw [z] at q; exact q
    | er cc j G' => rw [z] at q; exact fun ι' H' d e r hj => hs _ _ _ _ _ (q ι' H' d e r hj)
    | st => rw [z] at q; exact q
  exact SpD.of (W := W) (σ := []) DVs.nil h1 cf.rz q'
theorem PostE.noSl {K : Frag} {σ σ' : L2.St} {ι : List Addr} {H : Hp} {r : R D} {Q : VK} (hs : NoSl W) (q : PostE K W σ ι H r Q) : PostE K W σ' ι H r Q := by
  cases r with
  | ok a G' => exact q
  | er cc j G' => exact fun ι' H' d e r hj => hs _ _ _ _ _ (q ι' H' d e r hj)
  | st => exact q
/-- o.m(..) -/
theorem meth_read {σ : L2.St} {H : Hp} {Q : VK} {dvs : List V} (hs : NoSl W) (hd : Fix X.K dfl dvs) (q : tE X.K xa W (fMethD C m n g dfl fo t) σ H Q) : tMeth (He.ga X.K C) m (SpD X.K n g) dvs (WE W []) (tE X.K xa W fo) (tA X.K xa W t) σ H Q := by
  obtain ⟨ι, ρ, G, cf, q⟩ := q
  refine ⟨ι, ρ, G, cf, (Post.bind (rel := DV X.K) q).mono fun v H1 ⟨ι1, x, G1, e1, r1, d1, p1⟩ => ?_⟩
  cases x with
  | ref i =>
    dsimp only at p1
    cases z : G1[i]? with
    | none => rw [z] at p1; exact False.elim p1
    | some ob =>
      rw [z] at p1
      cases ob with
      | ins c fs =>
        dsimp only at p1
        split at p1
        · rename_i hc
          obtain ⟨rfl, hl⟩ := hc
          have d1' := d1
          simp only [DV] at d1'
          obtain ⟨a, ha, rfl⟩ := d1'
          obtain ⟨dx, vs, qa, hv⟩ := r1.at_ i a _ ha z
          have hlk : vs.lookup m = none := by
            have := DKs.lookup (f := m) hv
            rw [hl] at this
            exact this
          refine ⟨a, dx, vs, rfl, qa, hlk, ι1, ρ, G1, cf.ext e1 r1, (Post.bind (rel := DVs X.K) p1).mono fun us H2 ⟨ι2, xs, G2, e2, r2, d2, p2⟩ => ?_⟩
          have := SpD.of (dfl := dfl) (n := n) (g := g) (W := W) (σ := []) (xs := .ref i :: xs) (vs := .ref a :: us) (DVs.cons (d1.ext e2) d2) hd r2 (PostE.noSl hs p2)
          exact this
        · exact False.elim p1
      | _ => exact False.elim p1
  | _ => exact False.elim p1
theorem de_meth {pl : Sem Bool} (ho : DE X xa W o fo) (cl : Cls X.K (He.ga X.K C)) (hm : Meth X.K (He.ga X.K C) m f) (c : Cal X.prog X.w X.K X.mg X.base k n dfls g f) (hdf : dfl ∈ dfls) (hr : Room k X.A) (tk : Takes X W) (hs : NoSl W) (ha : DA X xa W (e :: es) t)
    (hst : starEach (e :: es) X.env = (false, eval e X.env) :: starEach es X.env := by rfl) (hpl : (backTo pos (starEach es X.env)).any (·.1) = false := by rfl)
    (ht : eval (.Call (.Attribute o m apos) (e :: es) [] pos) X.env = (do
      let ov ← eval o X.env
      standAt apos.atName
      let (f, first) ← holding [ov] (getMethod ov m pl)
      callWith pos f first (backTo pos (starEach (e :: es) X.env)) (backToKw pos (keywordEach [] X.env))) := by rfl) :
    DE X xa W (.Call (.Attribute o m apos) (e :: es) [] pos) (fMethD C m n g dfl fo t) := by
  obtain ⟨fd, ps, hn, F, hf⟩ := c.ok
  obtain ⟨dvs, ds, h1, h2, h3⟩ := hf dfl hdf
  exact PEm (pe_meth (E := WE W []) ho cl hm F hr h3 h2 (passes_any tk hs []) ha hst hpl ht) fun σ H Q q => meth_read hs h1 q
theorem de_meth0 {pl : Sem Bool} (ho : DE X xa W o fo) (cl : Cls X.K (He.ga X.K C)) (hm : Meth X.K (He.ga X.K C) m f) (c : Cal X.prog X.w X.K X.mg X.base k n dfls g f) (hdf : dfl ∈ dfls) (hr : Room k X.A) (tk : Takes X W) (hs : NoSl W)
    (ht : eval (.Call (.Attribute o m apos) [] [] pos) X.env = (do
      let ov ← eval o X.env
      standAt apos.atName
      let (f, first) ← holding [ov] (getMethod ov m pl)
      callWith pos f first (backTo pos (starEach [] X.env)) (backToKw pos (keywordEach [] X.env))) := by rfl) :
    DE X xa W (.Call (.Attribute o m apos) [] [] pos) (fMethD C m n g dfl fo fA0) := by
  obtain ⟨fd, ps, hn, F, hf⟩ := c.ok
  obtain ⟨dvs, ds, h1, h2, h3⟩ := hf dfl hdf
  refine PEm (pe_meth0 (E := WE W []) ho cl hm F hr h3 h2 (passes_any tk hs []) ht) fun σ H Q q => ?_
  have q2 := meth_read (xa := xa) hs h1 q
  obtain ⟨ι, ρ, G, cf, q3⟩ := q2
  refine ⟨ι, ρ, G, cf, q3.mono fun v H1 ⟨a, dx, fs, e1, e2, e3, ι1, ρ1, G1, cf1, q4⟩ => ⟨a, dx, fs, e1, e2, e3, ?_⟩⟩
  exact q4.ok Ext.refl cf1.rz DVs.nil
/-- C(..) -/
theorem make_read {K : Frag} {σ : L2.St} {ι : List Addr} {H : Hp} {G : GH} {Q : VK} {xs : List D} {vs dvs : List V} (hs : NoSl W) (hx : DVs K ι H xs vs) (hd : Fix K dfl dvs) (r : Rz K ι H G)
    (q : PostE K W σ ι H (if (D.ref G.length :: (xs ++ dfl)).length = n then (g (.ref G.length :: (xs ++ dfl)) (G ++ [.ins C []])).bind fun d G2 => match d with
      | .non => .ok (.ref G.length) G2
      | _ => .st
      else .st) Q) : ∀ x dx, H x = none → H dx = none → dx ≠ x → SpD K n g (.ref x :: (vs ++ dvs)) (upd (upd H dx (.own x)) x (.ins (He.ga K C) dx [])) (fun v H2 => v = .non ∧ Q (.ref x) H2) (WE W []) := by
  intro x dx hx0 hdx hne
  by_cases hl : (D.ref G.length :: (xs ++ dfl)).length = n
  · rw [if_pos hl] at q
    obtain ⟨e1, r1⟩ := r.side (o := .own x) hdx
    have hx1 : (upd H dx (.own x)) x = none := by rw [L2.upd_ne (Ne.symm hne)]; exact hx0
    obtain ⟨e2, r2, hat⟩ := r1.new (u := .ins (He.ga K C) dx []) (o := .ins C []) hx1 fun e => ⟨dx, [], upd_same, .nil⟩
    have e12 := e1.trans e2
    refine ⟨_, _, _, DVs.cons (by simp only [DV]; exact ⟨x, hat, rfl⟩) ((hx.ext e12).append (hd _ _)), r2, hl, ?_⟩
    have q2 := Post.bind (rel := DV K) (PostE.noSl (σ' := []) hs (Post.shift q e12))
    exact q2.mono fun v H3 ⟨ι3, d, G3, e3, r3, d3, p3⟩ => by
      cases d with
      | non =>
        simp only [DV] at d3
        exact ⟨d3, p3.ok Ext.refl r3 (by simp only [DV]; exact ⟨x, e3.at hat, rfl⟩)⟩
      | _ => exact False.elim p3
  · rw [if_neg hl] at q; exact False.elim q
theorem de_make (M : Mk X.K (He.ga X.K C) f) (c : Cal X.prog X.w X.K X.mg X.base k n dfls g f) (hdf : dfl ∈ dfls) (hr : Room (k + 1) X.A) (tk : Takes X W) (hs : NoSl W) (hm : X.mg C = some (.ref (He.ga X.K C))) (hg : Gl X C) (ha : DA X xa W (e :: es) t)
    (hdb : (C == ("__debug__" : Str)) = false := by decide) (he : starEach (e :: es) X.env = (false, eval e X.env) :: starEach es X.env := by rfl) (hpl : (backTo pos (starEach es X.env)).any (·.1) = false := by rfl) :
    DE X xa W (.Call (.Name C p) (e :: es) [] pos) (fMakeD C n g dfl t) := by
  obtain ⟨fd, ps, hn, F, hf⟩ := c.ok
  obtain ⟨dvs, ds, h1, h2, h3⟩ := hf dfl hdf
  refine PEm (pe_make (E := WE W []) M F hr hg hm h3 h2 (passes_any tk hs []) ha hdb he hpl) fun σ H Q ⟨ι, ρ, G, cf, q⟩ => ⟨ι, ρ, G, cf, (Post.bind (rel := DVs X.K) q).mono fun vs H1 ⟨ι1, xs, G1, e1, r1, d1, p1⟩ => ?_⟩
  exact make_read hs d1 h1 r1 p1
theorem de_make0 (M : Mk X.K (He.ga X.K C) f) (c : Cal X.prog X.w X.K X.mg X.base k n dfls g f) (hdf : dfl ∈ dfls) (hr : Room (k + 1) X.A) (tk : Takes X W) (hs : NoSl W) (hm : X.mg C = some (.ref (He.ga X.K C))) (hg : Gl X C)
    (hdb : (C == ("__debug__" : Str)) = false := by decide) : DE X xa W (.Call (.Name C p) [] [] pos) (fMakeD C n g dfl fA0) := by
  obtain ⟨fd, ps, hn, F, hf⟩ := c.ok
  obtain ⟨dvs, ds, h1, h2, h3⟩ := hf dfl hdf
  refine PEm (pe_make0 (E := WE W []) M F hr hg hm h3 h2 (passes_any tk hs []) hdb) fun σ H Q ⟨ι, ρ, G, cf, q⟩ => ?_
  have := (Post.bind (rel := DVs X.K) (r := fA0 ρ G) q)
  exact make_read hs DVs.nil h1 cf.rz q
end
/-- within a comprehension nothing is let out -/
theorem takes0 {X : Cx} : Takes X W0 := fun u s' ⟨_, _, _, _, _, _, _, _, _, _, _, _, _, _, _, _, w⟩ => False.elim w
end F2
end
section
namespace F2
open PySem PySem.Spec PyProof.Rows L2

/-! ### the law's end -/
/-- nothing is let out -/
theorem FnOk.cx0 {P : Program} {w : World} {K : Frag} {mg : Str → Option Value} {base : Heap} {k : Nat} {f : Addr} {fd : FuncData} {ps : List Str} {sp : Sp} (F : FnOk P w K mg base (L2.CX P w) k f fd ps sp) :
    FnOk P w K mg base CX0 k f fd ps (fun vs H Q _ => sp vs H Q fun _ _ _ => False) := by
  refine ⟨fun vs H Q E h => F.len _ _ _ _ h, fun A outer s H args us vs Q E hr e0 hb hv hs => ?_⟩
  refine codeAny_mono (F.run A outer s H args us vs Q _ hr e0 hb hv hs) fun r s' hq => ?_
  cases r with
  | error e =>
    obtain ⟨_, _, _, _, _, _, _, _, _, _, _, _, h⟩ := hq
    exact False.elim h
  | ok fl => cases fl with
    | ret u => exact hq
    | next => exact hq
    | brk => exact hq
    | cont => exact hq
theorem ints_dv {K : Frag} {ι : List Addr} {H : Hp} : ∀ ns : List Int, DVs K ι H (ns.map D.int) (ns.map V.int)
  | [] => DVs.nil
  | n :: ns => DVs.cons (by simp only [DV]) (ints_dv ns)
theorem law_entry {K : Frag} {g : FD} {ns : List Int} (h : ∃ G', g [.scr (ns.map D.int)] [] = .ok (.bl true) G') (H : Hp) (a : Addr) (hO : Only H) (hS : SqL K H a (ns.map V.int)) : SpD K 1 g [.ref a] H (fun v _ => v = .bl true) (fun _ _ _ => False) := by
  obtain ⟨G', h⟩ := h
  have hF : FroL K H a (ns.map V.int) := by
    rcases hS with (q | ⟨o, q⟩) | q
    · rcases hO a with z | ⟨o, xs, z⟩
      · rw [z] at q; cases q
      · rw [z] at q; cases q
    · exact .inl ⟨o, q⟩
    · exact .inr q
  refine ⟨[], [.scr (ns.map D.int)], [], DVs.cons (by simp only [DV]; exact ⟨a, _, rfl, hF, ints_dv ns⟩) DVs.nil, ⟨rfl, fun i j b hi => by simp at hi, fun i b o hi => by simp at hi⟩, rfl, ?_⟩
  rw [h]
  intro ι' H' v _ _ hv
  simpa only [DV] using hv
/-! ### list(d) of a dict -/
def gListD (xs : List D) (G : GH) : R D := match xs with
  | [.ref i] => match G[i]? with
    | some (.dK kvs) => .ok (.ref G.length) (G ++ [.lst (kvs.map fun p => keyV p.1)])
    | some (.fK kvs) => .ok (.ref G.length) (G ++ [.lst (kvs.map fun p => keyV p.1)])
    | _ => gList xs G
  | _ => gList xs G
def rListDD (K : Frag) : List V → Hp → VK → Prop := fun xs H Q => (∃ p ys, xs = [.ref p] ∧ (SqL K H p ys ∨ SqT K H p ys) ∧ ∀ l, H l = none → Q (.ref l) (upd H l (.lst ys))) ∨
  ∃ (a : Addr) (kvs : List (Key × V)), xs = [.ref a] ∧ Rd H a (.dK kvs) ∧ ∀ p, H p = none → Q (.ref p) (upd H p (.lst (kvs.map fun kv => kV kv.1)))
theorem cr_listDD {X : Cx} (hc : X.calm = true) : CallR X (.type "list") (rListDD X.K) := fun pins s σ H vs us Q I r q => q.elim (call_list_of pins s σ H vs us Q I r) (call_listD hc pins s σ H vs us Q I r)
theorem keys_dv {K : Frag} {ι : List Addr} {H : Hp} : ∀ {kvs : List (Key × D)} {vs : List (Key × V)}, DKs K ι H kvs vs → DVs K ι H (kvs.map fun p => keyV p.1) (vs.map fun kv => kV kv.1)
  | _, _, .nil => DVs.nil
  | p :: ks, q :: vs, .cons ⟨h1, h2, h3⟩ t => by
    refine DVs.cons ?_ (keys_dv t)
    show DV K ι H (keyV p.1) (kV q.1)
    rw [← h1]
    exact keyV_dv h3
theorem oa_listDD {K : Frag} : OpA K gListD (rListDD K) := by
  intro W σ ι H G xs vs Q r h p
  unfold gListD at p
  have old : PostE K W σ ι H (gList xs G) Q → rListDD K vs H Q := fun p => .inl (oa_list W σ ι H G xs vs Q r h p)
  split at p
  · rename_i i
    obtain ⟨v, rfl, hx⟩ := h.one
    have hx' := hx
    simp only [DV] at hx'
    obtain ⟨a, hi, rfl⟩ := hx'
    split at p
    · rename_i kvs g
      obtain ⟨ws, q, hv⟩ := r.at_ i a _ hi g
      refine .inr ⟨a, ws, rfl, .inl q, fun l hl => ?_⟩
      obtain ⟨e2, r2, hat⟩ := r.new (u := .lst (ws.map fun kv => kV kv.1)) (o := .lst (kvs.map fun p => keyV p.1)) hl fun e => ⟨_, upd_same, (keys_dv hv).ext e⟩
      exact p.ok e2 r2 (by simp only [DV]; exact ⟨l, hat, rfl⟩)
    · rename_i kvs g
      obtain ⟨o, ws, q, hv⟩ := r.at_ i a _ hi g
      refine .inr ⟨a, ws, rfl, .inr ⟨o, q⟩, fun l hl => ?_⟩
      obtain ⟨e2, r2, hat⟩ := r.new (u := .lst (ws.map fun kv => kV kv.1)) (o := .lst (kvs.map fun p => keyV p.1)) hl fun e => ⟨_, upd_same, (keys_dv hv).ext e⟩
      exact p.ok e2 r2 (by simp only [DV]; exact ⟨l, hat, rfl⟩)
    · exact old p
  · exact old p
end F2
end
section
namespace F2
open PySem PySem.Spec PyProof.Rows L2
/-- a comprehension's block, decided -/
def blkB (N : List Str) (sc scope : Scope) (own : List (Str × Nat)) : Bool :=
  decide (scope.kind = .function) && (scope.names.all fun y => decide (scope.names.lookup y.1 = some y.2)) && (own.all fun p => decide (N[p.2]? = some p.1)) &&
    (scope.names.all fun y => decide (y.2 = .free → sc.names.lookup y.1 = some .cell ∨ sc.names.lookup y.1 = some .free)) && (scope.names.all fun y => decide (y.2 = .local ∨ y.2 = .cell → y.1 ∈ own.map (·.1) ∨ y.1 ∉ N))
theorem blk_of {N : List Str} {sc scope : Scope} {own : List (Str × Nat)} (h : blkB N sc scope own = true) : BlkOk N sc scope own := by
  unfold blkB at h
  simp only [Bool.and_eq_true, List.all_eq_true, decide_eq_true_eq] at h
  obtain ⟨⟨⟨⟨h1, h2⟩, h3⟩, h4⟩, h5⟩ := h
  exact ⟨h1, fun y hy => h2 y hy, fun p hp => h3 p hp, fun y hy => h4 y hy, fun y hy => h5 y hy⟩
end F2
end
section
namespace F2
open PySem PySem.Spec PyProof.Rows L2

/-! ### unfolding: every combinator as it runs -/
section
variable {ρ : Rho} {G : GH}
@[simp] theorem x_fC (d : D) : fC d ρ G = .ok d G := rfl
theorem x_fV (i : Nat) : fV i ρ G = match ρ[i]? with
  | some (some d) => .ok d G
  | _ => .st := rfl
@[simp] theorem x_fV0 (d : D) (r : Rho) : fV 0 (some d :: r) G = .ok d G := rfl
@[simp] theorem x_fVs (i : Nat) (a : Option D) (r : Rho) : fV (i + 1) (a :: r) G = fV i r G := rfl
@[simp] theorem x_fV1 (a : Option D) (d : D) (r : Rho) : fV 1 (a :: some d :: r) G = .ok d G := rfl
@[simp] theorem x_fV2 (a b : Option D) (d : D) (r : Rho) : fV 2 (a :: b :: some d :: r) G = .ok d G := rfl
@[simp] theorem x_fV3 (a b c : Option D) (d : D) (r : Rho) : fV 3 (a :: b :: c :: some d :: r) G = .ok d G := rfl
@[simp] theorem x_fV4 (a b c e : Option D) (d : D) (r : Rho) : fV 4 (a :: b :: c :: e :: some d :: r) G = .ok d G := rfl
@[simp] theorem x_fV5 (a b c e f : Option D) (d : D) (r : Rho) : fV 5 (a :: b :: c :: e :: f :: some d :: r) G = .ok d G := rfl
@[simp] theorem x_fV6 (a b c e f g : Option D) (d : D) (r : Rho) : fV 6 (a :: b :: c :: e :: f :: g :: some d :: r) G = .ok d G := rfl
@[simp] theorem x_fV7 (a b c e f g h : Option D) (d : D) (r : Rho) : fV 7 (a :: b :: c :: e :: f :: g :: h :: some d :: r) G = .ok d G := rfl
@[simp] theorem x_fV8 (a b c e f g h i : Option D) (d : D) (r : Rho) : fV 8 (a :: b :: c :: e :: f :: g :: h :: i :: some d :: r) G = .ok d G := rfl
@[simp] theorem x_fV9 (a b c e f g h i j : Option D) (d : D) (r : Rho) : fV 9 (a :: b :: c :: e :: f :: g :: h :: i :: j :: some d :: r) G = .ok d G := rfl
@[simp] theorem x_fV10 (a b c e f g h i j k : Option D) (d : D) (r : Rho) : fV 10 (a :: b :: c :: e :: f :: g :: h :: i :: j :: k :: some d :: r) G = .ok d G := rfl
@[simp] theorem x_fA0 : fA0 ρ G = .ok [] G := rfl
@[simp] theorem x_fAc (f : FE) (g : FA) : fAc f g ρ G = (f ρ G).bind fun x G1 => (g ρ G1).bind fun xs G2 => .ok (x :: xs) G2 := rfl
@[simp] theorem x_fTup (g : FA) : fTup g ρ G = (g ρ G).bind fun xs G1 => if xs.length ≤ 16777216 then .ok (.tup xs) G1 else .st := rfl
@[simp] theorem x_fLst (g : FA) : fLst g ρ G = (g ρ G).bind fun xs G1 => if xs.length ≤ 16777216 then .ok (.ref G1.length) (G1 ++ [.lst xs]) else .st := rfl
@[simp] theorem x_f1 (g : D → GH → R D) (f : FE) : f1 g f ρ G = (f ρ G).bind fun x G1 => g x G1 := rfl
@[simp] theorem x_f2 (g : D → D → GH → R D) (f h : FE) : f2 g f h ρ G = (f ρ G).bind fun x G1 => (h ρ G1).bind fun y G2 => g x y G2 := rfl
@[simp] theorem x_fB (f : FE) : fB f ρ G = (f ρ G).bind fun x G1 => match x with
  | .bl b => .ok b G1
  | _ => .st := rfl
@[simp] theorem x_fTru (f : FE) : fTru f ρ G = (f ρ G).bind fun x G1 => match truB x G1 with
  | some b => .ok b G1
  | none => .st := rfl
@[simp] theorem x_fNotT (f : FT) : fNotT f ρ G = (f ρ G).bind fun b G1 => .ok (!b) G1 := rfl
@[simp] theorem x_fAndT (f g : FT) : fAndT f g ρ G = (f ρ G).bind fun b G1 => if b = true then g ρ G1 else .ok false G1 := rfl
@[simp] theorem x_fOrT (f g : FT) : fOrT f g ρ G = (f ρ G).bind fun b G1 => if b = true then .ok true G1 else g ρ G1 := rfl
@[simp] theorem x_fAnd (f g : FE) : fAnd f g ρ G = (f ρ G).bind fun x G1 => match truB x G1 with
  | some b => if b = true then g ρ G1 else .ok x G1
  | none => .st := rfl
@[simp] theorem x_fOr (f g : FE) : fOr f g ρ G = (f ρ G).bind fun x G1 => match truB x G1 with
  | some b => if b = true then .ok x G1 else g ρ G1
  | none => .st := rfl
@[simp] theorem x_fNot (f : FE) : fNot f ρ G = (f ρ G).bind fun x G1 => match truB x G1 with
  | some b => .ok (.bl (!b)) G1
  | none => .st := rfl
@[simp] theorem x_fIf (t : FT) (f g : FE) : fIf t f g ρ G = (t ρ G).bind fun b G1 => if b = true then f ρ G1 else g ρ G1 := rfl
@[simp] theorem x_fYes : fYes ρ G = .ok true G := rfl
@[simp] theorem x_fCall (g : List D → GH → R D) (as : FA) : fCall g as ρ G = (as ρ G).bind fun xs G1 => g xs G1 := rfl
@[simp] theorem x_fMeth (T : String) (g : D → List D → GH → R D) (f : FE) (as : FA) : fMeth T g f as ρ G = (f ρ G).bind fun x G1 => if isTyM T x G1 = true then (as ρ G1).bind fun xs G2 => g x xs G2 else .st := rfl
@[simp] theorem x_fO0 : fO0 ρ G = .ok none G := rfl
@[simp] theorem x_fO1 (f : FE) : fO1 f ρ G = (f ρ G).bind fun x G1 => match x with
  | .int i => .ok (some i) G1
  | _ => .st := rfl
@[simp] theorem x_fSl (f : FE) (l h : Rho → GH → R (Option Int)) : fSl f l h ρ G = (f ρ G).bind fun x G1 => (l ρ G1).bind fun lo G2 => (h ρ G2).bind fun hi G3 => gSl x lo hi G3 := rfl
@[simp] theorem x_fD0K : fD0K ρ G = .ok (.ref G.length) (G ++ [.dK []]) := rfl
@[simp] theorem x_fD0T : fD0T ρ G = .ok (.ref G.length) (G ++ [.dT []]) := rfl
@[simp] theorem x_fCal (n : Nat) (g : FD) (dfl : List D) (t : FA) : fCal n g dfl t ρ G = (t ρ G).bind fun xs G1 => if (xs ++ dfl).length = n then g (xs ++ dfl) G1 else .st := rfl
@[simp] theorem x_fMethD (C m : Str) (n : Nat) (g : FD) (dfl : List D) (o : FE) (t : FA) : fMethD C m n g dfl o t ρ G = (o ρ G).bind fun x G1 => match x with
  | .ref i => match G1[i]? with
    | some (.ins c fs) => if c = C ∧ fs.lookup m = none then (t ρ G1).bind fun xs G2 => if (x :: (xs ++ dfl)).length = n then g (x :: (xs ++ dfl)) G2 else .st else .st
    | _ => .st
  | _ => .st := rfl
@[simp] theorem x_fMakeD (C : Str) (n : Nat) (g : FD) (dfl : List D) (t : FA) : fMakeD C n g dfl t ρ G = (t ρ G).bind fun xs G1 => if (D.ref G1.length :: (xs ++ dfl)).length = n then (g (.ref G1.length :: (xs ++ dfl)) (G1 ++ [.ins C []])).bind fun d G2 => match d with
  | .non => .ok (.ref G1.length) G2
  | _ => .st
  else .st := rfl
@[simp] theorem x_fLc (f : FE) (p : Pat) (tt : FT) (te : FE) (own : List Nat) : fLc f p tt te own ρ G = (f ρ G).bind fun x G1 => match iterD x G1 with
  | some (xs, lk, ck, G2) => lcRun p tt te own ck lk xs ρ G2
  | none => .st := rfl
@[simp] theorem x_fLcR (k : Nat) (f : FA) (p : Pat) (tt : FT) (te : FE) (own : List Nat) : fLcR k f p tt te own ρ G = (f ρ G).bind fun as G1 => match rngA k as with
  | some xs => lcRun p tt te own none none xs ρ G1
  | none => .st := rfl
/-! statements -/
@[simp] theorem x_sNil : sNil ρ G = .nx ρ G := rfl
theorem x_sSeq (s t : FS) : sSeq s t ρ G = match s ρ G with
  | .nx ρ' G' => t ρ' G'
  | r => r := rfl
@[simp] theorem x_sNever : sNever ρ G = .st := rfl
@[simp] theorem x_sExpr (f : FE) : sExpr f ρ G = (f ρ G).toS ρ fun _ G1 => .nx ρ G1 := rfl
@[simp] theorem x_sRet (f : FE) : sRet f ρ G = (f ρ G).toS ρ fun d G1 => .rt d G1 := rfl
@[simp] theorem x_sRetN : sRetN ρ G = .rt .non G := rfl
@[simp] theorem x_sIf (t : FT) (a b : FS) : sIf t a b ρ G = (t ρ G).toS ρ fun c G1 => if c = true then a ρ G1 else b ρ G1 := rfl
@[simp] theorem x_sSet (p : Pat) (f : FE) : sSet p f ρ G = (f ρ G).toS ρ fun d G1 => match setP p d ρ with
  | some ρ' => .nx ρ' G1
  | none => .st := rfl
@[simp] theorem x_sBrk : sBrk ρ G = .bk ρ G := rfl
@[simp] theorem x_sCont : sCont ρ G = .ct ρ G := rfl
@[simp] theorem x_sSetIx (o i v : FE) : sSetIx o i v ρ G = (v ρ G).toS ρ fun d G1 => (o ρ G1).toS ρ fun x G2 => (i ρ G2).toS ρ fun y G3 => (gSetIx x y d G3).toS ρ fun _ G4 => .nx ρ G4 := rfl
@[simp] theorem x_sSetFld (C n : Str) (o v : FE) : sSetFld C n o v ρ G = (v ρ G).toS ρ fun d G1 => (o ρ G1).toS ρ fun x G2 => (gSetFld C n x d G2).toS ρ fun _ G3 => .nx ρ G3 := rfl
@[simp] theorem x_sDel (o i : FE) : sDel o i ρ G = (o ρ G).toS ρ fun x G1 => (i ρ G1).toS ρ fun y G2 => (gDel x y G2).toS ρ fun _ G3 => .nx ρ G3 := rfl
theorem x_sFor (f : FE) (p : Pat) (body : FS) : sFor f p body ρ G = (f ρ G).toS ρ fun x G1 => match iterD x G1 with
  | some (xs, lk, ck, G2) => unlS lk (forIt p body ck xs xs ρ G2)
  | none => .st := rfl
theorem x_sForR (k : Nat) (f : FA) (p : Pat) (body : FS) : sForR k f p body ρ G = (f ρ G).toS ρ fun as G1 => match rngA k as with
  | some xs => forIt p body none xs xs ρ G1
  | none => .st := rfl
end
theorem seq_nx {s t : FS} {ρ ρ' : Rho} {G G' : GH} (h : s ρ G = .nx ρ' G') : sSeq s t ρ G = t ρ' G' := by rw [x_sSeq, h]
@[simp] theorem x_runB (n : Nat) (b : FS) (ds : List D) (G : GH) : runB n b ds G = match b (ds.map some ++ List.replicate (n - ds.length) none) G with
  | .nx _ G' => .ok .non G'
  | .rt d G' => .ok d G'
  | .er c j _ G' => .er c j G'
  | _ => .st := rfl
@[simp] theorem x_setP_nm (i : Nat) (d : D) (ρ : Rho) : setP (.nm i) d ρ = some (ρ.set i (some d)) := by simp [setP]
@[simp] theorem x_setP_tu (ps : List Pat) (xs : List D) (ρ : Rho) : setP (.tu ps) (.tup xs) ρ = setPs ps xs ρ := by simp [setP, asTup]
@[simp] theorem x_setP_ktu (ps : List Pat) (xs : List D) (ρ : Rho) : setP (.tu ps) (.ktup xs) ρ = setPs ps xs ρ := by simp [setP, asTup]
@[simp] theorem x_setPs_nil (ρ : Rho) : setPs [] [] ρ = some ρ := by simp [setPs]
@[simp] theorem x_setPs_cons (p : Pat) (ps : List Pat) (x : D) (xs : List D) (ρ : Rho) : setPs (p :: ps) (x :: xs) ρ = match setP p x ρ with
  | some ρ' => setPs ps xs ρ'
  | none => none := by rw [setPs] <;> rfl
/-! ### texts -/
theorem chars_inj : ∀ (l m : List Char), l.map Char.toNat = m.map Char.toNat → l = m
  | [], [], _ => rfl
  | [], _ :: _, h => by simp at h
  | _ :: _, [], h => by simp at h
  | a :: l, b :: m, h => by
    simp only [List.map_cons, List.cons.injEq] at h
    rw [Char.toNat_inj.mp h.1, chars_inj l m h.2]
@[simp] theorem ofString_inj {a b : String} : (Str.ofString a = Str.ofString b) ↔ a = b := by
  constructor
  · intro h
    rw [Str.ofString_eq_toList, Str.ofString_eq_toList] at h
    have h1 := congrArg Str.cps h
    have h2 : a.toList.map Char.toNat = b.toList.map Char.toNat := congrArg Array.toList h1
    apply String.toList_injective
    exact chars_inj _ _ h2
  · intro h; rw [h]
/-! ### operations on what is known -/
@[simp] theorem g_add_int (i j : Int) (G : GH) : gAdd (.int i) (.int j) G = .ok (.int (i + j)) G := rfl
@[simp] theorem g_add_tup (a b : List D) (G : GH) : gAdd (.tup a) (.tup b) G = if a.length + b.length ≤ 16777216 then .ok (.tup (a ++ b)) G else .st := rfl
@[simp] theorem g_sub_int (i j : Int) (G : GH) : gSub (.int i) (.int j) G = .ok (.int (i - j)) G := rfl
theorem g_mul_int {i j : Int} {G : GH} (h : -(2 ^ 64) < j ∧ j < 2 ^ 64) : gMul (.int i) (.int j) G = .ok (.int (i * j)) G := by
  unfold gMul gI
  dsimp only
  rw [if_pos (decide_eq_true (.inr h))]
theorem g_div_int {i j : Int} {G : GH} (h : 0 < j ∧ j < 1073741824) : gDiv (.int i) (.int j) G = .ok (.int (i / j)) G := by
  unfold gDiv gI
  dsimp only
  rw [if_pos (decide_eq_true h)]
theorem g_mod_int {i j : Int} {G : GH} (h : 0 < j) : gMod (.int i) (.int j) G = .ok (.int (i % j)) G := by
  unfold gMod gI
  dsimp only
  rw [if_pos (decide_eq_true h)]
@[simp] theorem g_mul_if (i j : Int) (G : GH) : gMul (.int i) (.int j) G = if (-18446744073709551616 < i ∧ i < 18446744073709551616) ∨ (-18446744073709551616 < j ∧ j < 18446744073709551616) then .ok (.int (i * j)) G else .st := by
  unfold gMul gI
  simp only [decide_eq_true_eq]
  rfl
@[simp] theorem g_div_if (i j : Int) (G : GH) : gDiv (.int i) (.int j) G = if 0 < j ∧ j < 1073741824 then .ok (.int (i / j)) G else .st := by
  unfold gDiv gI
  simp only [decide_eq_true_eq]
@[simp] theorem g_mod_if (i j : Int) (G : GH) : gMod (.int i) (.int j) G = if 0 < j then .ok (.int (i % j)) G else .st := by
  unfold gMod gI
  simp only [decide_eq_true_eq]
@[simp] theorem g_neg_int (i : Int) (G : GH) : gNeg (.int i) G = .ok (.int (-i)) G := rfl
@[simp] theorem g_lt_int (i j : Int) (G : GH) : gLt (.int i) (.int j) G = .ok (.bl (decide (i < j))) G := rfl
@[simp] theorem g_le_int (i j : Int) (G : GH) : gLe (.int i) (.int j) G = .ok (.bl (decide (i ≤ j))) G := rfl
@[simp] theorem g_gt_int (i j : Int) (G : GH) : gGt (.int i) (.int j) G = .ok (.bl (decide (j < i))) G := rfl
@[simp] theorem g_ge_int (i j : Int) (G : GH) : gGe (.int i) (.int j) G = .ok (.bl (decide (j ≤ i))) G := rfl
@[simp] theorem g_eq_int (i j : Int) (G : GH) : gEq (.int i) (.int j) G = .ok (.bl (decide (i = j))) G := rfl
@[simp] theorem g_ne_int (i j : Int) (G : GH) : gNe (.int i) (.int j) G = .ok (.bl (!decide (i = j))) G := rfl
@[simp] theorem g_eq_str (i j : Str) (G : GH) : gEq (.str i) (.str j) G = .ok (.bl (decide (i = j))) G := rfl
@[simp] theorem g_ne_str (i j : Str) (G : GH) : gNe (.str i) (.str j) G = .ok (.bl (!decide (i = j))) G := rfl
@[simp] theorem g_isN (x : D) (G : GH) : gIsN x G = .ok (.bl (isNonD x)) G := rfl
@[simp] theorem g_notN (x : D) (G : GH) : gNotN x G = .ok (.bl (!isNonD x)) G := rfl
@[simp] theorem g_int_int (i : Int) (G : GH) : gInt [.int i] G = .ok (.int i) G := rfl
@[simp] theorem g_int_bl (b : Bool) (G : GH) : gInt [.bl b] G = .ok (.int (if b then 1 else 0)) G := rfl
@[simp] theorem g_abs_int (i : Int) (G : GH) : gAbs [.int i] G = .ok (.int (if i < 0 then -i else i)) G := rfl
@[simp] theorem g_list_scr (xs : List D) (G : GH) : gListD [.scr xs] G = .ok (.ref G.length) (G ++ [.lst xs]) := rfl
theorem g_list_dK {n : Nat} {kvs : List (Key × D)} {G : GH} (h : G[n]? = some (.dK kvs)) : gListD [.ref n] G = .ok (.ref G.length) (G ++ [.lst (kvs.map fun p => keyV p.1)]) := by
  unfold gListD
  dsimp only
  rw [h]
@[simp] theorem g_len_tup (xs : List D) (G : GH) : gLen [.tup xs] G = .ok (.int xs.length) G := rfl
@[simp] theorem g_len_scr (xs : List D) (G : GH) : gLen [.scr xs] G = .ok (.int xs.length) G := rfl
@[simp] theorem g_tuple_tup (xs : List D) (G : GH) : gTuple [.tup xs] G = .ok (.tup xs) G := rfl
@[simp] theorem g_ix_tup (xs : List D) (i : Int) (G : GH) : gIx (.tup xs) (.int i) G = match atI xs i with
  | some d => .ok d G
  | none => .st := rfl
@[simp] theorem g_ix_ktup (xs : List D) (i : Int) (G : GH) : gIx (.ktup xs) (.int i) G = match atI xs i with
  | some d => .ok d G
  | none => .st := rfl
@[simp] theorem g_ix_scr (xs : List D) (i : Int) (G : GH) : gIx (.scr xs) (.int i) G = match atI xs i with
  | some d => .ok d G
  | none => .st := rfl
theorem g_ix_lst {n : Nat} {xs : List D} {i : Int} {G : GH} (h : G[n]? = some (.lst xs)) : gIx (.ref n) (.int i) G = match atI xs i with
  | some d => .ok d G
  | none => .st := by
  unfold gIx itemsD
  dsimp only
  rw [h] <;> rfl
theorem g_len_lst {n : Nat} {xs : List D} {G : GH} (h : G[n]? = some (.lst xs)) : gLen [.ref n] G = .ok (.int xs.length) G := by
  unfold gLen lenB
  dsimp only
  rw [h]
theorem g_tuple_lst {n : Nat} {xs : List D} {G : GH} (h : G[n]? = some (.lst xs)) : gTuple [.ref n] G = .ok (.tup xs) G := by
  unfold gTuple itemsD
  dsimp only
  rw [h]
theorem g_list_lst {n : Nat} {xs : List D} {G : GH} (h : G[n]? = some (.lst xs)) : gListD [.ref n] G = .ok (.ref G.length) (G ++ [.lst xs]) := by
  unfold gListD gList itemsD
  dsimp only
  rw [h]
theorem g_add_lst {n m : Nat} {xs ys : List D} {G : GH} (h : G[n]? = some (.lst xs)) (h2 : G[m]? = some (.lst ys)) (hl : xs.length + ys.length ≤ 16777216) : gAdd (.ref n) (.ref m) G = .ok (.ref G.length) (G ++ [.lst (xs ++ ys)]) := by
  unfold gAdd
  dsimp only
  rw [h, h2]
  dsimp only
  rw [if_pos hl]
theorem g_sl_lst {n : Nat} {xs : List D} {lo hi : Option Int} {G : GH} (h : G[n]? = some (.lst xs)) : gSl (.ref n) lo hi G = .ok (.ref G.length) (G ++ [.lst (cutG xs lo hi)]) := by
  unfold gSl itemsD
  dsimp only
  rw [h]
theorem g_setix_lst {n : Nat} {xs : List D} {i : Int} {v : D} {G : GH} (h : G[n]? = some (.lst xs)) : gSetIx (.ref n) (.int i) v G = match ixN xs.length i with
  | some j => .ok () (G.set n (.lst (xs.set j v)))
  | none => .st := by
  unfold gSetIx
  dsimp only
  rw [h] <;> rfl
theorem g_append {n : Nat} {xs : List D} {v : D} {G : GH} (h : G[n]? = some (.lst xs)) (hl : xs.length < 16777216) : gAppend (.ref n) [v] G = .ok .non (G.set n (.lst (xs ++ [v]))) := by
  unfold gAppend
  dsimp only
  rw [h]
  dsimp only
  rw [if_pos hl]
theorem isTyM_lst {n : Nat} {xs : List D} {G : GH} (h : G[n]? = some (.lst xs)) : isTyM "list" (.ref n) G = true := by
  unfold isTyM
  dsimp only
  rw [h]
  rfl
@[simp] theorem atI_0 {α : Type} (x : α) (xs : List α) : atI (x :: xs) 0 = some x := by
  unfold atI ixN
  rw [if_pos (by omega), if_pos (by simp <;> omega)]; rfl
@[simp] theorem atI_1 {α : Type} (x y : α) (xs : List α) : atI (x :: y :: xs) 1 = some y := by
  unfold atI ixN
  rw [if_pos (by omega), if_pos (by simp <;> omega)]; rfl
@[simp] theorem atI_2 {α : Type} (x y z : α) (xs : List α) : atI (x :: y :: z :: xs) 2 = some z := by
  unfold atI ixN
  rw [if_pos (by omega), if_pos (by simp <;> omega)]; rfl
@[simp] theorem atI_3 {α : Type} (x y z w : α) (xs : List α) : atI (x :: y :: z :: w :: xs) 3 = some w := by
  unfold atI ixN
  rw [if_pos (by omega), if_pos (by simp <;> omega)]; rfl
theorem atI_nat {α : Type} {xs : List α} {i : Int} (h0 : 0 ≤ i) (h1 : i < xs.length) : atI xs i = xs[i.toNat]? := by
  unfold atI ixN
  rw [if_pos h0, if_pos h1]; rfl
theorem atI_mem {α : Type} {xs : List α} {i : Int} (h0 : 0 ≤ i) (h1 : i < xs.length) : ∃ d, atI xs i = some d ∧ d ∈ xs := by
  have h2 : i.toNat < xs.length := by omega
  exact ⟨xs[i.toNat], by rw [atI_nat h0 h1]; simp [h2], List.getElem_mem h2⟩
/-! ### plain trees: equal to themselves -/
def plB : Nat → D → Bool
  | 0, _ => false
  | _ + 1, .non => true
  | _ + 1, .bl _ => true
  | _ + 1, .int _ => true
  | _ + 1, .str _ => true
  | n + 1, .tup xs => xs.all (plB n)
  | _ + 1, _ => false
theorem pys_pl {f : D → Option PyData} : ∀ {xs : List D}, (∀ x ∈ xs, ∃ p, f x = some p ∧ p.plain = true) → ∃ ps, pys f xs = some ps ∧ PyData.plainAll ps = true
  | [], _ => ⟨[], rfl, rfl⟩
  | x :: xs, h => by
    obtain ⟨p, h1, h2⟩ := h x (List.mem_cons_self ..)
    obtain ⟨ps, h3, h4⟩ := pys_pl (xs := xs) fun y hy => h y (List.mem_cons_of_mem _ hy)
    exact ⟨p :: ps, by simp only [pys, h1, h3], by rw [PyData.plainAll, h2, h4]; rfl⟩
theorem py_pl (G : GH) : ∀ (n : Nat) (d : D), plB n d = true → ∃ p, py G n d = some p ∧ p.plain = true
  | 0, _, h => by cases h
  | n + 1, .non, _ => ⟨.none, by simp only [py], rfl⟩
  | n + 1, .bl b, _ => ⟨.bool b, by simp only [py], rfl⟩
  | n + 1, .int i, _ => ⟨.int i, by simp only [py], rfl⟩
  | n + 1, .str x, _ => ⟨.str x, by simp only [py], rfl⟩
  | n + 1, .tup xs, h => by
    have h' : xs.all (plB n) = true := h
    obtain ⟨ps, h1, h2⟩ := pys_pl (f := py G n) (xs := xs) fun x hx => py_pl G n x (List.all_eq_true.mp h' x hx)
    exact ⟨.tuple ps, by simp only [py, h1, Option.map_some], by rw [PyData.plain]; exact h2⟩
theorem plB_mono : ∀ {n m : Nat} {d : D}, n ≤ m → plB n d = true → plB m d = true
  | 0, _, _, _, h => by cases h
  | n + 1, 0, _, hm, _ => absurd hm (by omega)
  | n + 1, m + 1, .tup xs, hm, h => by
    have h' : xs.all (plB n) = true := h
    show xs.all (plB m) = true
    rw [List.all_eq_true] at h' ⊢
    exact fun x hx => plB_mono (by omega) (h' x hx)
  | n + 1, m + 1, .non, _, _ => rfl
  | n + 1, m + 1, .bl _, _, _ => rfl
  | n + 1, m + 1, .int _, _, _ => rfl
  | n + 1, m + 1, .str _, _, _ => rfl
theorem eqv_self {p : PyData} (h : p.plain = true) : PyData.eqv p p = true := PySem.SeqAt.eqv_refl_plain p h
theorem eqDeep_self {d : D} {G : GH} (h : plB 64 d = true) : eqDeep d d G = some true := by
  obtain ⟨p, h1, h2⟩ := py_pl G 64 d h
  unfold eqDeep
  rw [h1]
  dsimp only
  rw [eqv_self h2]
theorem eqB_self {d : D} {G : GH} (h : plB 64 d = true) : eqB d d G = some true := by
  cases d with
  | int i => simp [eqB]
  | str i => simp [eqB]
  | bl i => simp [eqB]
  | ref i => cases h
  | non => exact eqDeep_self (d := .non) (G := G) h
  | tup xs => exact eqDeep_self (d := .tup xs) (G := G) h
  | ktup xs => cases h
  | scr xs => cases h
theorem g_eq_self {d : D} {G : GH} (h : plB 64 d = true) : gEq d d G = .ok (.bl true) G := by
  unfold gEq; rw [eqB_self h]; rfl
theorem g_ne_self {d : D} {G : GH} (h : plB 64 d = true) : gNe d d G = .ok (.bl false) G := by
  unfold gNe; rw [eqB_self h]; rfl
@[simp] theorem g_isi_tup (xs : List D) (G : GH) : gIsi "tuple" (.tup xs) G = .ok (.bl true) G := rfl
@[simp] theorem tru_bl (b : Bool) (G : GH) : truB (.bl b) G = some b := rfl
/-! ### loops -/
theorem forIt_inv {p : Pat} {body : FS} {ck : Option Nat} {all : List D} (I : List D → Rho → GH → Prop)
    (end_ : ∀ ρ G, I [] ρ G → chkL ck all G)
    (step : ∀ x r ρ G, I (x :: r) ρ G → chkL ck all G ∧ ∃ ρ1, setP p x ρ = some ρ1 ∧ ∃ ρ' G', (body ρ1 G = .nx ρ' G' ∨ body ρ1 G = .ct ρ' G') ∧ I r ρ' G') :
    ∀ (xs : List D) (ρ : Rho) (G : GH), I xs ρ G → ∃ ρ' G', forIt p body ck all xs ρ G = .nx ρ' G' ∧ I [] ρ' G'
  | [], ρ, G, h => ⟨ρ, G, by rw [forIt, if_pos (end_ ρ G h)], h⟩
  | x :: r, ρ, G, h => by
    obtain ⟨h1, ρ1, h2, ρ', G', h3, h4⟩ := step x r ρ G h
    obtain ⟨ρ2, G2, h5, h6⟩ := forIt_inv I end_ step r ρ' G' h4
    refine ⟨ρ2, G2, ?_, h6⟩
    rw [forIt, if_pos h1, h2]
    dsimp only
    rcases h3 with e | e
    · rw [e]; exact h5
    · rw [e]; exact h5
/-- .. by the turn -/
theorem forIt_idx {p : Pat} {body : FS} {ck : Option Nat} {all : List D} (I : Nat → Rho → GH → Prop) (hck : ∀ i ρ G, I i ρ G → chkL ck all G)
    (step : ∀ (i : Nat) (h : i < all.length) ρ G, I i ρ G → ∃ ρ1, setP p all[i] ρ = some ρ1 ∧ ∃ ρ' G', (body ρ1 G = .nx ρ' G' ∨ body ρ1 G = .ct ρ' G') ∧ I (i + 1) ρ' G') {ρ : Rho} {G : GH} (h0 : I 0 ρ G) :
    ∃ ρ' G', forIt p body ck all all ρ G = .nx ρ' G' ∧ I all.length ρ' G' := by
  obtain ⟨ρ', G', e, i, h1, h2, h3⟩ := forIt_inv (p := p) (body := body) (ck := ck) (all := all) (fun xs ρ G => ∃ i, xs = all.drop i ∧ i ≤ all.length ∧ I i ρ G) (fun ρ G ⟨i, _, _, h⟩ => hck i ρ G h)
    (fun x r ρ G ⟨i, h1, h2, h3⟩ => by
      have hlt : i < all.length := by
        rcases Nat.lt_or_ge i all.length with h | h
        · exact h
        · rw [List.drop_eq_nil_of_le h] at h1; cases h1
      rw [List.drop_eq_getElem_cons hlt] at h1
      simp only [List.cons.injEq] at h1
      obtain ⟨rfl, rfl⟩ := h1
      obtain ⟨ρ1, a1, ρ', G', a2, a3⟩ := step i hlt ρ G h3
      exact ⟨hck i ρ G h3, ρ1, a1, ρ', G', a2, i + 1, rfl, hlt, a3⟩) all ρ G ⟨0, rfl, Nat.zero_le _, h0⟩
  have hi : i = all.length := by
    have : (all.drop i).length = 0 := by rw [← h1]; rfl
    rw [List.length_drop] at this
    omega
  subst hi
  exact ⟨ρ', G', e, h3⟩
theorem chkL_none {xs : List D} {G : GH} : chkL none xs G := fun _ h => nomatch h
/-- a comprehension that maps -/
theorem lcIt_map {p : Pat} {te : FE} {ck : Option Nat} {all : List D} {ρw : Rho} {A : GH} {f : D → D} (hck : ∀ n, ck = some n → A[n]? = some (.lst all)) :
    ∀ (xs : List D) (acc : List D) (B : GH), acc.length + xs.length ≤ 16777216 →
      (∀ x ∈ xs, ∃ ρ1, setP p x ρw = some ρ1 ∧ ∀ acc B, ∃ B', te ρ1 (A ++ .lst acc :: B) = .ok (f x) (A ++ .lst acc :: B')) →
      ∃ B', lcIt p fYes te ck all A.length ρw xs (A ++ .lst acc :: B) = .ok () (A ++ .lst (acc ++ xs.map f) :: B')
  | [], acc, B, hl, hx => ⟨B, by
      rw [lcIt, if_pos, List.map_nil, List.append_nil]
      intro n hn
      have := hck n hn
      rw [List.getElem?_append_left (List.getElem?_eq_some_iff.mp this).1]; exact this⟩
  | x :: xs, acc, B, hl, hx => by
    obtain ⟨ρ1, h1, h2⟩ := hx x (List.mem_cons_self ..)
    obtain ⟨B1, h3⟩ := h2 acc B
    obtain ⟨B2, h4⟩ := lcIt_map hck xs (acc ++ [f x]) B1 (by simp at hl ⊢; omega) fun y hy => hx y (List.mem_cons_of_mem _ hy)
    refine ⟨B2, ?_⟩
    rw [lcIt, if_pos]
    · rw [h1]
      dsimp only
      rw [x_fYes]
      simp only [noEr_ok, R.bind_ok, if_true]
      rw [h3]
      simp only [noEr_ok, R.bind_ok]
      rw [List.getElem?_append_right (Nat.le_refl _), Nat.sub_self, List.getElem?_cons_zero]
      dsimp only
      rw [if_pos (by simp at hl; omega)]
      have : (A ++ GO.lst acc :: B1).set A.length (.lst (acc ++ [f x])) = A ++ .lst (acc ++ [f x]) :: B1 := by
        rw [List.set_append_right _ _ (Nat.le_refl _), Nat.sub_self]; rfl
      rw [this, h4]
      simp
    · intro n hn
      have := hck n hn
      rw [List.getElem?_append_left (List.getElem?_eq_some_iff.mp this).1]; exact this
theorem lcRun_map {p : Pat} {te : FE} {ck : Option Nat} {lk : Option Nat} {own : List Nat} {xs : List D} {ρ : Rho} {A : GH} {f : D → D} (hck : ∀ n, ck = some n → A[n]? = some (.lst xs)) (hl : xs.length ≤ 16777216)
    (hx : ∀ x ∈ xs, ∃ ρ1, setP p x (wipeD ρ own) = some ρ1 ∧ ∀ acc B, ∃ B', te ρ1 (A ++ .lst acc :: B) = .ok (f x) (A ++ .lst acc :: B')) :
    ∃ B', lcRun p fYes te own ck lk xs ρ A = .ok (.ref A.length) (unlockG lk (A ++ .lst (xs.map f) :: B')) := by
  obtain ⟨B', h⟩ := lcIt_map (ρw := wipeD ρ own) (te := te) (p := p) hck xs [] [] (by simpa using hl) hx
  refine ⟨B', ?_⟩
  unfold lcRun
  rw [h]
  simp
/-! ### dicts of keys -/
theorem valD_nil {κ : Type} [DecidableEq κ] (k : κ) : valD ([] : List (κ × D)) k = none := rfl
theorem valD_cons {κ : Type} [DecidableEq κ] (p : κ × D) (l : List (κ × D)) (k : κ) : valD (p :: l) k = if p.1 = k then some p.2 else valD l k := by
  unfold valD
  rw [List.find?_cons]
  by_cases h : p.1 = k
  · simp [h]
  · simp [h]
theorem valD_get {κ : Type} [DecidableEq κ] : ∀ {l : List (κ × D)} {i : Nat} {k : κ} {d : D}, (l.map (·.1)).Nodup → l[i]? = some (k, d) → valD l k = some d
  | [], _, _, _, _, h => by simp at h
  | p :: l, 0, k, d, _, h => by
    simp at h; subst h
    rw [valD_cons, if_pos rfl]
  | p :: l, i + 1, k, d, nd, h => by
    have nd' := List.nodup_cons.mp (show (p.1 :: l.map (·.1)).Nodup from nd)
    have h' : l[i]? = some (k, d) := by simpa using h
    have hk : k ∈ l.map (·.1) := List.mem_map.mpr ⟨(k, d), List.mem_of_getElem? h', rfl⟩
    rw [valD_cons, if_neg (fun e => nd'.1 (by rw [e]; exact hk))]
    exact valD_get nd'.2 h'
theorem putKD_new {κ : Type} [DecidableEq κ] {l : List (κ × D)} {k : κ} {v : D} (h : k ∉ l.map (·.1)) : putKD l k v = l ++ [(k, v)] := by
  unfold putKD
  rw [if_neg]
  simp only [List.any_eq_true, not_exists, not_and, decide_eq_true_eq]
  intro p hp e
  exact h (List.mem_map.mpr ⟨p, hp, e⟩)
theorem g_setix_dK {n : Nat} {kvs : List (Key × D)} {i v : D} {k : Key} {G : GH} (h : G[n]? = some (.dK kvs)) (hk : keyD i = some k) (hl : kvs.length < 16777216) : gSetIx (.ref n) i v G = .ok () (G.set n (.dK (putKD kvs k v))) := by
  unfold gSetIx
  dsimp only
  rw [h]
  dsimp only
  rw [hk]
  dsimp only
  rw [if_pos hl]
theorem g_ix_dK {n : Nat} {kvs : List (Key × D)} {i d : D} {k : Key} {G : GH} (h : G[n]? = some (.dK kvs) ∨ G[n]? = some (.fK kvs)) (hk : keyD i = some k) (hv : valD kvs k = some d) : gIx (.ref n) i G = .ok d G := by
  have e1 : itemsD G (.ref n) = none := by
    unfold itemsD
    dsimp only
    rcases h with h | h <;> rw [h]
  have e2 : askD G n i = some (some d) := by
    unfold askD
    rcases h with h | h <;> rw [h] <;> dsimp only <;> rw [hk, Option.map_some, hv]
  have e3 : gIx (.ref n) i G = match itemsD G (.ref n) with
    | some xs => (match i with
      | .int i => (match atI xs i with
        | some d => .ok d G
        | none => .st)
      | _ => .st)
    | none => (match askD G n i with
      | some (some d) => .ok d G
      | _ => .st) := by cases i <;> rfl
  rw [e3, e1, e2]
@[simp] theorem keyD_keyV (k : Key) : keyD (keyV k) = some k := by cases k <;> rfl
theorem iter_dK {n : Nat} {kvs : List (Key × D)} {G : GH} (h : G[n]? = some (.dK kvs)) : iterD (.ref n) G = some (kvs.map (fun p => keyV p.1), some n, none, G.set n (.fK kvs)) := by
  unfold iterD
  dsimp only
  rw [h]
theorem iter_lst {n : Nat} {xs : List D} {G : GH} (h : G[n]? = some (.lst xs)) : iterD (.ref n) G = some (xs, none, some n, G) := by
  unfold iterD
  dsimp only
  rw [h]
@[simp] theorem iter_tup (xs : List D) (G : GH) : iterD (.tup xs) G = some (xs, none, none, G) := rfl
end F2
end
section
namespace Wk10
open PySem PySem.Spec PyProof.Rows L2 F2
abbrev top (i : Nat) : Stmt := PySem.Challenge.pw_pourparler_k10_stages.main.body.getD i (.Pass ⟨0, 0, 0, 0⟩)
abbrev inClass (c : Stmt) (j : Nat) : Stmt := (match c with | .ClassDef (body := b) .. => b | _ => []).getD j (.Pass ⟨0, 0, 0, 0⟩)
/-!  is_reference -/
abbrev s0 : Stmt := top 1
abbrev N0 : List Str := ["talk"]
abbrev P0 : List Str := ["talk"]
noncomputable def b0 (φ : Nat → FD) : FS := sSeq (sRet (fOr (f2 gEq (f2 gIx (fV 0) (fC (.int 0))) (fC (.str "name"))) (f2 gEq (f2 gIx (fV 0) (fC (.int 0))) (fC (.str "dual"))))) (sNil)
def d0 : He.DefD := ⟨("is_reference", none), "is_reference", "is_reference", defArgs s0, defBody s0, defScope s0, [], []⟩
theorem sc0 : FnScope N0 P0 (defScope s0) := ⟨rfl, rfl, rfl, by decide +kernel, rfl, by decide +kernel, by decide +kernel⟩
/-!  dual_kind -/
abbrev s1 : Stmt := top 2
abbrev N1 : List Str := ["kind"]
abbrev P1 : List Str := ["kind"]
noncomputable def b1 (φ : Nat → FD) : FS := sSeq (sIf (fB (f2 gEq (f2 gIx (fV 0) (fC (.int 0))) (fC (.str "name")))) (sSeq (sRet (fTup (fAc (fC (.str "dual")) (fAc (f2 gIx (fV 0) (fC (.int 1))) (fA0))))) (sNil)) (sNil)) (sSeq (sRet (fTup (fAc (fC (.str "name")) (fAc (f2 gIx (fV 0) (fC (.int 1))) (fA0))))) (sNil))
def d1 : He.DefD := ⟨("dual_kind", none), "dual_kind", "dual_kind", defArgs s1, defBody s1, defScope s1, [], []⟩
theorem sc1 : FnScope N1 P1 (defScope s1) := ⟨rfl, rfl, rfl, by decide +kernel, rfl, by decide +kernel, by decide +kernel⟩
/-!  dual -/
abbrev s2 : Stmt := top 3
abbrev N2 : List Str := ["talk", "rows", "label", "payload", "following"]
abbrev P2 : List Str := ["talk"]
noncomputable def b2 (φ : Nat → FD) : FS := sSeq (sIf (fTru (fCal 1 (φ 0) [] (fAc (fV 0) (fA0)))) (sSeq (sRet (fCal 1 (φ 1) [] (fAc (fV 0) (fA0)))) (sNil)) (sNil)) (sSeq (sIf (fB (f2 gEq (f2 gIx (fV 0) (fC (.int 0))) (fC (.str "end")))) (sSeq (sRet (fV 0)) (sNil)) (sNil)) (sSeq (sSet (.nm 1) (fCall gTuple (fAc (fLc (f2 gIx (fV 0) (fC (.int 1))) (.tu [.nm 2, .nm 3, .nm 4]) (fYes) (fTup (fAc (fV 2) (fAc (fV 3) (fAc (fCal 1 (φ 2) [] (fAc (fV 4) (fA0))) (fA0))))) [2, 3, 4]) (fA0)))) (sSeq (sIf (fB (f2 gEq (f2 gIx (fV 0) (fC (.int 0))) (fC (.str "say")))) (sSeq (sRet (fTup (fAc (fC (.str "hear")) (fAc (fV 1) (fA0))))) (sNil)) (sNil)) (sSeq (sRet (fTup (fAc (fC (.str "say")) (fAc (fV 1) (fA0))))) (sNil)))))
def d2 : He.DefD := ⟨("dual", none), "dual", "dual", defArgs s2, defBody s2, defScope s2, [], []⟩
theorem sc2 : FnScope N2 P2 (defScope s2) := ⟨rfl, rfl, rfl, by decide +kernel, rfl, by decide +kernel, by decide +kernel⟩
/-!  head -/
abbrev s3 : Stmt := top 4
abbrev N3 : List Str := ["table", "talk", "turned"]
abbrev P3 : List Str := ["table", "talk"]
noncomputable def b3_1 (φ : Nat → FD) : FS := sSeq (sIf (fB (f2 gEq (f2 gIx (fV 1) (fC (.int 0))) (fC (.str "dual")))) (sSeq (sSet (.nm 2) (fNot (fV 2))) (sNil)) (sNil)) (sSeq (sSet (.nm 1) (f2 gIx (fV 0) (f2 gIx (fV 1) (fC (.int 1))))) (sNil))
noncomputable def b3 (φ : Nat → FD) : FS := sSeq (sSet (.nm 2) (fC (.bl false))) (sSeq (sWhile (fTru (fCal 1 (φ 0) [] (fAc (fV 1) (fA0)))) (b3_1 φ)) (sSeq (sIf (fTru (fV 2)) (sSeq (sRet (fCal 1 (φ 2) [] (fAc (fV 1) (fA0)))) (sNil)) (sNil)) (sSeq (sRet (fV 1)) (sNil))))
def d3 : He.DefD := ⟨("head", none), "head", "head", defArgs s3, defBody s3, defScope s3, [], []⟩
theorem sc3 : FnScope N3 P3 (defScope s3) := ⟨rfl, rfl, rfl, by decide +kernel, rfl, by decide +kernel, by decide +kernel⟩
/-!  stages -/
abbrev s4 : Stmt := top 5
abbrev N4 : List Str := ["table", "talk", "found", "at", "label", "payload", "following", "stage"]
abbrev P4 : List Str := ["table", "talk"]
noncomputable def b4_1 (φ : Nat → FD) : FS := sSeq (sSet (.nm 7) (fCal 2 (φ 3) [] (fAc (fV 0) (fAc (fV 6) (fA0))))) (sSeq (sIf (fB (f2 gNotIn (fV 7) (fV 2))) (sSeq (sExpr (fMeth "list" gAppend (fV 2) (fAc (fV 7) (fA0)))) (sNil)) (sNil)) (sNil))
noncomputable def b4_2 (φ : Nat → FD) : FS := sSeq (sIf (fB (f2 gNe (f2 gIx (f2 gIx (fV 2) (fV 3)) (fC (.int 0))) (fC (.str "end")))) (sSeq (sFor (f2 gIx (f2 gIx (fV 2) (fV 3)) (fC (.int 1))) (.tu [.nm 4, .nm 5, .nm 6]) (b4_1 φ)) (sNil)) (sNil)) (sSeq (sSet (.nm 3) (f2 gAdd (fV 3) (fC (.int 1)))) (sNil))
noncomputable def b4 (φ : Nat → FD) : FS := sSeq (sSet (.nm 2) (fLst (fAc (fCal 2 (φ 3) [] (fAc (fV 0) (fAc (fV 1) (fA0)))) (fA0)))) (sSeq (sSet (.nm 3) (fC (.int 0))) (sSeq (sWhile (fB (f2 gLt (fV 3) (fCall gLen (fAc (fV 2) (fA0))))) (b4_2 φ)) (sSeq (sRet (fV 2)) (sNil))))
def d4 : He.DefD := ⟨("stages", none), "stages", "stages", defArgs s4, defBody s4, defScope s4, [], []⟩
theorem sc4 : FnScope N4 P4 (defScope s4) := ⟨rfl, rfl, rfl, by decide +kernel, rfl, by decide +kernel, by decide +kernel⟩
/-!  _law_wide -/
abbrev s5 : Stmt := top 7
abbrev N5 : List Str := ["_law_script", "_law_k", "_law_cell", "_law_mixed"]
abbrev P5 : List Str := ["_law_script", "_law_k"]
noncomputable def b5 (φ : Nat → FD) : FS := sSeq (sSet (.nm 2) (fC (.int 0))) (sSeq (sIf (fB (f2 gLt (fV 1) (fCall gLen (fAc (fV 0) (fA0))))) (sSeq (sSet (.nm 2) (fCall gAbs (fAc (f2 gIx (fV 0) (fV 1)) (fA0)))) (sNil)) (sNil)) (sSeq (sIf (fB (f2 gGe (fV 2) (fC (.int 1000000000000000000)))) (sSeq (sRet (fV 2)) (sNil)) (sNil)) (sSeq (sSet (.nm 3) (f2 gMod (fCall gInt (fAc (f2 gAdd (f2 gMul (f2 gAdd (fV 2) (fC (.int 1))) (fC (.int 6364136223846793005))) (f2 gMul (f2 gAdd (fV 1) (fC (.int 1))) (fC (.int 1442695040888963407)))) (fA0))) (fC (.int 2305843009213693951)))) (sSeq (sRet (f2 gMod (fCall gInt (fAc (f2 gAdd (f2 gMul (fV 3) (fC (.int 3202034522624059733))) (f2 gDiv (fV 3) (fC (.int 1000003)))) (fA0))) (fC (.int 2305843009213693951)))) (sNil)))))
def d5 : He.DefD := ⟨("_law_wide", none), "_law_wide", "_law_wide", defArgs s5, defBody s5, defScope s5, [], []⟩
theorem sc5 : FnScope N5 P5 (defScope s5) := ⟨rfl, rfl, rfl, by decide +kernel, rfl, by decide +kernel, by decide +kernel⟩
/-!  _law_take -/
abbrev s6 : Stmt := top 8
abbrev N6 : List Str := ["_law_pool_here", "_law_most", "_law_value"]
abbrev P6 : List Str := ["_law_pool_here", "_law_most"]
noncomputable def b6 (φ : Nat → FD) : FS := sSeq (sIf (fB (f2 gLt (f2 gIx (fV 0) (fC (.int 0))) (fC (.int 1000)))) (sSeq (sSetIx (fV 0) (fC (.int 2)) (f2 gAdd (f2 gIx (fV 0) (fC (.int 2))) (fC (.int 1)))) (sSeq (sSetIx (fV 0) (fC (.int 0)) (fCal 2 (φ 5) [] (fAc (f2 gIx (fV 0) (fC (.int 1))) (fAc (f2 gIx (fV 0) (fC (.int 2))) (fA0))))) (sNil))) (sNil)) (sSeq (sSet (.nm 2) (f2 gMod (fCall gInt (fAc (f2 gIx (fV 0) (fC (.int 0))) (fA0))) (fV 1))) (sSeq (sSetIx (fV 0) (fC (.int 0)) (f2 gDiv (f2 gIx (fV 0) (fC (.int 0))) (fV 1))) (sSeq (sRet (fV 2)) (sNil))))
def d6 : He.DefD := ⟨("_law_take", none), "_law_take", "_law_take", defArgs s6, defBody s6, defScope s6, [], []⟩
theorem sc6 : FnScope N6 P6 (defScope s6) := ⟨rfl, rfl, rfl, by decide +kernel, rfl, by decide +kernel, by decide +kernel⟩
/-!  _law_pool -/
abbrev s7 : Stmt := top 9
abbrev N7 : List Str := ["_law_script"]
abbrev P7 : List Str := ["_law_script"]
noncomputable def b7 (φ : Nat → FD) : FS := sSeq (sRet (fLst (fAc (fC (.int 0)) (fAc (fCall gListD (fAc (fV 0) (fA0))) (fAc (f1 gNeg (fC (.int 1))) (fA0)))))) (sNil)
def d7 : He.DefD := ⟨("_law_pool", none), "_law_pool", "_law_pool", defArgs s7, defBody s7, defScope s7, [], []⟩
theorem sc7 : FnScope N7 P7 (defScope s7) := ⟨rfl, rfl, rfl, by decide +kernel, rfl, by decide +kernel, by decide +kernel⟩
/-!  _law_names -/
abbrev s8 : Stmt := top 10
abbrev N8 : List Str := ["_law_pool_here", "_law_first", "_law_second"]
abbrev P8 : List Str := ["_law_pool_here"]
noncomputable def b8 (φ : Nat → FD) : FS := sSeq (sSet (.nm 1) (f2 gIx (fLst (fAc (fC (.str "T")) (fAc (fC (.str "Ta")) (fAc (fC (.str "Talk")) (fAc (fC (.str "X9")) (fAc (fC (.str "Calc")) (fAc (fC (.str "B")) (fA0)))))))) (fCal 2 (φ 6) [] (fAc (fV 0) (fAc (fC (.int 6)) (fA0)))))) (sSeq (sSet (.nm 2) (f2 gIx (fLst (fAc (fC (.str "U")) (fAc (fC (.str "Tb")) (fAc (fC (.str "Tal")) (fAc (fC (.str "X8")) (fAc (fC (.str "Dial")) (fAc (fC (.str "A")) (fA0)))))))) (fCal 2 (φ 6) [] (fAc (fV 0) (fAc (fC (.int 6)) (fA0)))))) (sSeq (sRet (fSl (fLst (fAc (fV 1) (fAc (fV 2) (fAc (fC (.str "Zz")) (fA0))))) (fO0) (fO1 (f2 gAdd (fC (.int 1)) (fCal 2 (φ 6) [] (fAc (fV 0) (fAc (fC (.int 3)) (fA0)))))))) (sNil)))
def d8 : He.DefD := ⟨("_law_names", none), "_law_names", "_law_names", defArgs s8, defBody s8, defScope s8, [], []⟩
theorem sc8 : FnScope N8 P8 (defScope s8) := ⟨rfl, rfl, rfl, by decide +kernel, rfl, by decide +kernel, by decide +kernel⟩
/-!  _law_kind -/
abbrev s9 : Stmt := top 11
abbrev N9 : List Str := ["_law_pool_here", "_law_names_here", "_law_choice"]
abbrev P9 : List Str := ["_law_pool_here", "_law_names_here"]
noncomputable def b9 (φ : Nat → FD) : FS := sSeq (sSet (.nm 2) (fCal 2 (φ 6) [] (fAc (fV 0) (fAc (fC (.int 6)) (fA0))))) (sSeq (sIf (fB (f2 gLt (fV 2) (fC (.int 3)))) (sSeq (sRet (f2 gIx (fLst (fAc (fC .non) (fAc (fC (.str "int")) (fAc (fC (.str "bool")) (fA0))))) (fV 2))) (sNil)) (sNil)) (sSeq (sRet (fTup (fAc (f2 gIx (fLst (fAc (fC (.str "name")) (fAc (fC (.str "dual")) (fA0)))) (f2 gMod (fV 2) (fC (.int 2)))) (fAc (f2 gIx (fV 1) (fCal 2 (φ 6) [] (fAc (fV 0) (fAc (fCall gLen (fAc (fV 1) (fA0))) (fA0))))) (fA0))))) (sNil)))
def d9 : He.DefD := ⟨("_law_kind", none), "_law_kind", "_law_kind", defArgs s9, defBody s9, defScope s9, [], []⟩
theorem sc9 : FnScope N9 P9 (defScope s9) := ⟨rfl, rfl, rfl, by decide +kernel, rfl, by decide +kernel, by decide +kernel⟩
/-!  _law_label -/
abbrev s10 : Stmt := top 12
abbrev N10 : List Str := ["_law_pool_here"]
abbrev P10 : List Str := ["_law_pool_here"]
noncomputable def b10 (φ : Nat → FD) : FS := sSeq (sRet (f2 gIx (fLst (fAc (fC (.str "go")) (fAc (fC (.str "goo")) (fAc (fC (.str "stop")) (fAc (fC (.str "a")) (fAc (fC (.str "b")) (fAc (fC (.str "at")) (fA0)))))))) (fCal 2 (φ 6) [] (fAc (fV 0) (fAc (fC (.int 6)) (fA0)))))) (sNil)
def d10 : He.DefD := ⟨("_law_label", none), "_law_label", "_law_label", defArgs s10, defBody s10, defScope s10, [], []⟩
theorem sc10 : FnScope N10 P10 (defScope s10) := ⟨rfl, rfl, rfl, by decide +kernel, rfl, by decide +kernel, by decide +kernel⟩
/-!  _law_talk -/
abbrev s11 : Stmt := top 13
abbrev N11 : List Str := ["_law_pool_here", "_law_names_here", "_law_depth", "_law_choice", "_law_rows", "_law_k", "_law_label_here", "_law_payload", "_law_row_here"]
abbrev P11 : List Str := ["_law_pool_here", "_law_names_here", "_law_depth"]
noncomputable def b11_1 (φ : Nat → FD) : FS := sSeq (sSet (.nm 6) (fCal 1 (φ 10) [] (fAc (fV 0) (fA0)))) (sSeq (sIf (fB (f2 gNotIn (fV 6) (fLc (fV 4) (.nm 8) (fYes) (f2 gIx (fV 8) (fC (.int 0))) [8]))) (sSeq (sSet (.nm 7) (fCal 2 (φ 9) [] (fAc (fV 0) (fAc (fV 1) (fA0))))) (sSeq (sExpr (fMeth "list" gAppend (fV 4) (fAc (fTup (fAc (fV 6) (fAc (fV 7) (fAc (fCal 3 (φ 11) [] (fAc (fV 0) (fAc (fV 1) (fAc (f2 gSub (fV 2) (fC (.int 1))) (fA0))))) (fA0))))) (fA0)))) (sNil))) (sNil)) (sNil))
noncomputable def b11 (φ : Nat → FD) : FS := sSeq (sSet (.nm 3) (fCal 2 (φ 6) [] (fAc (fV 0) (fAc (fC (.int 8)) (fA0))))) (sSeq (sIf (fB (f2 gEq (fV 3) (fC (.int 0)))) (sSeq (sRet (fTup (fAc (fC (.str "end")) (fA0)))) (sNil)) (sNil)) (sSeq (sIf (fAndT (fB (f2 gLt (fV 3) (fC (.int 3)))) (fB (f2 gLt (fV 2) (fC (.int 2))))) (sSeq (sRet (fTup (fAc (f2 gIx (fLst (fAc (fC (.str "name")) (fAc (fC (.str "dual")) (fA0)))) (f2 gMod (fV 3) (fC (.int 2)))) (fAc (f2 gIx (fV 1) (fCal 2 (φ 6) [] (fAc (fV 0) (fAc (fCall gLen (fAc (fV 1) (fA0))) (fA0))))) (fA0))))) (sNil)) (sNil)) (sSeq (sIf (fB (f2 gEq (fV 2) (fC (.int 0)))) (sSeq (sRet (f2 gAdd (fTup (fAc (f2 gIx (fLst (fAc (fC (.str "name")) (fAc (fC (.str "dual")) (fAc (fC (.str "end")) (fA0))))) (f2 gMod (fV 3) (fC (.int 3)))) (fA0))) (fSl (fTup (fAc (f2 gIx (fV 1) (fCal 2 (φ 6) [] (fAc (fV 0) (fAc (fCall gLen (fAc (fV 1) (fA0))) (fA0))))) (fA0))) (fO0) (fO1 (fCall gInt (fAc (f2 gLt (f2 gMod (fV 3) (fC (.int 3))) (fC (.int 2))) (fA0))))))) (sNil)) (sNil)) (sSeq (sSet (.nm 4) (fLst (fA0))) (sSeq (sForR 1 (fAc (f2 gAdd (fC (.int 1)) (fCal 2 (φ 6) [] (fAc (fV 0) (fAc (fC (.int 3)) (fA0))))) (fA0)) (.nm 5) (b11_1 φ)) (sSeq (sRet (fTup (fAc (f2 gIx (fLst (fAc (fC (.str "say")) (fAc (fC (.str "hear")) (fA0)))) (f2 gMod (fV 3) (fC (.int 2)))) (fAc (fCall gTuple (fAc (fV 4) (fA0))) (fA0))))) (sNil)))))))
def d11 : He.DefD := ⟨("_law_talk", none), "_law_talk", "_law_talk", defArgs s11, defBody s11, defScope s11, [], []⟩
theorem sc11 : FnScope N11 P11 (defScope s11) := ⟨rfl, rfl, rfl, by decide +kernel, rfl, by decide +kernel, by decide +kernel⟩
/-!  _law_table -/
abbrev s12 : Stmt := top 14
abbrev N12 : List Str := ["_law_pool_here", "_law_names_here", "_law_table_here", "_law_k", "_law_talk_here"]
abbrev P12 : List Str := ["_law_pool_here"]
noncomputable def b12_1 (φ : Nat → FD) : FS := sSeq (sSet (.nm 4) (fCal 3 (φ 11) [] (fAc (fV 0) (fAc (fV 1) (fAc (fC (.int 2)) (fA0)))))) (sSeq (sIf (fAndT (fB (f2 gEq (fCal 2 (φ 6) [] (fAc (fV 0) (fAc (fC (.int 9)) (fA0)))) (fC (.int 0)))) (fB (f2 gLt (f2 gAdd (fV 3) (fC (.int 1))) (fCall gLen (fAc (fV 1) (fA0)))))) (sSeq (sSet (.nm 4) (fTup (fAc (f2 gIx (fLst (fAc (fC (.str "name")) (fAc (fC (.str "dual")) (fA0)))) (fCal 2 (φ 6) [] (fAc (fV 0) (fAc (fC (.int 2)) (fA0))))) (fAc (f2 gIx (fV 1) (f2 gAdd (fV 3) (fC (.int 1)))) (fA0))))) (sNil)) (sNil)) (sSeq (sSetIx (fV 2) (f2 gIx (fV 1) (fV 3)) (fV 4)) (sNil)))
noncomputable def b12 (φ : Nat → FD) : FS := sSeq (sSet (.nm 1) (fCal 1 (φ 8) [] (fAc (fV 0) (fA0)))) (sSeq (sSet (.nm 2) (fD0K)) (sSeq (sForR 1 (fAc (fCall gLen (fAc (fV 1) (fA0))) (fA0)) (.nm 3) (b12_1 φ)) (sSeq (sRet (fV 2)) (sNil))))
def d12 : He.DefD := ⟨("_law_table", none), "_law_table", "_law_table", defArgs s12, defBody s12, defScope s12, [], []⟩
theorem sc12 : FnScope N12 P12 (defScope s12) := ⟨rfl, rfl, rfl, by decide +kernel, rfl, by decide +kernel, by decide +kernel⟩
/-!  _law_dual -/
abbrev s13 : Stmt := top 15
abbrev N13 : List Str := ["_law_talk_here", "_law_rows", "_law_row_here"]
abbrev P13 : List Str := ["_law_talk_here"]
noncomputable def b13 (φ : Nat → FD) : FS := sSeq (sIf (fB (f2 gEq (f2 gIx (fV 0) (fC (.int 0))) (fC (.str "name")))) (sSeq (sRet (fTup (fAc (fC (.str "dual")) (fAc (f2 gIx (fV 0) (fC (.int 1))) (fA0))))) (sNil)) (sNil)) (sSeq (sIf (fB (f2 gEq (f2 gIx (fV 0) (fC (.int 0))) (fC (.str "dual")))) (sSeq (sRet (fTup (fAc (fC (.str "name")) (fAc (f2 gIx (fV 0) (fC (.int 1))) (fA0))))) (sNil)) (sNil)) (sSeq (sIf (fB (f2 gEq (f2 gIx (fV 0) (fC (.int 0))) (fC (.str "end")))) (sSeq (sRet (fTup (fAc (fC (.str "end")) (fA0)))) (sNil)) (sNil)) (sSeq (sSet (.nm 1) (fCall gTuple (fAc (fLc (f2 gIx (fV 0) (fC (.int 1))) (.nm 2) (fYes) (fTup (fAc (f2 gIx (fV 2) (fC (.int 0))) (fAc (f2 gIx (fV 2) (fC (.int 1))) (fAc (fCal 1 (φ 13) [] (fAc (f2 gIx (fV 2) (fC (.int 2))) (fA0))) (fA0))))) [2]) (fA0)))) (sSeq (sIf (fB (f2 gEq (f2 gIx (fV 0) (fC (.int 0))) (fC (.str "say")))) (sSeq (sRet (fTup (fAc (fC (.str "hear")) (fAc (fV 1) (fA0))))) (sNil)) (sNil)) (sSeq (sRet (fTup (fAc (fC (.str "say")) (fAc (fV 1) (fA0))))) (sNil))))))
def d13 : He.DefD := ⟨("_law_dual", none), "_law_dual", "_law_dual", defArgs s13, defBody s13, defScope s13, [], []⟩
theorem sc13 : FnScope N13 P13 (defScope s13) := ⟨rfl, rfl, rfl, by decide +kernel, rfl, by decide +kernel, by decide +kernel⟩
/-!  _law_head -/
abbrev s14 : Stmt := top 16
abbrev N14 : List Str := ["_law_table_here", "_law_talk_here"]
abbrev P14 : List Str := ["_law_table_here", "_law_talk_here"]
noncomputable def b14 (φ : Nat → FD) : FS := sSeq (sIf (fB (f2 gEq (f2 gIx (fV 1) (fC (.int 0))) (fC (.str "name")))) (sSeq (sRet (fCal 2 (φ 14) [] (fAc (fV 0) (fAc (f2 gIx (fV 0) (f2 gIx (fV 1) (fC (.int 1)))) (fA0))))) (sNil)) (sNil)) (sSeq (sIf (fB (f2 gEq (f2 gIx (fV 1) (fC (.int 0))) (fC (.str "dual")))) (sSeq (sRet (fCal 1 (φ 13) [] (fAc (fCal 2 (φ 14) [] (fAc (fV 0) (fAc (f2 gIx (fV 0) (f2 gIx (fV 1) (fC (.int 1)))) (fA0)))) (fA0)))) (sNil)) (sNil)) (sSeq (sRet (fV 1)) (sNil)))
def d14 : He.DefD := ⟨("_law_head", none), "_law_head", "_law_head", defArgs s14, defBody s14, defScope s14, [], []⟩
theorem sc14 : FnScope N14 P14 (defScope s14) := ⟨rfl, rfl, rfl, by decide +kernel, rfl, by decide +kernel, by decide +kernel⟩
/-!  _law_stages -/
abbrev s16 : Stmt := top 18
abbrev N16 : List Str := ["_law_table_here", "_law_talk_here", "_law_found", "_law_level", "_law_k", "_law_below", "_law_stage", "_law_row_here", "_law_new"]
abbrev P16 : List Str := ["_law_table_here", "_law_talk_here"]
noncomputable def b16_1 (φ : Nat → FD) : FS := sSeq (sSet (.nm 8) (fCal 2 (φ 14) [] (fAc (fV 0) (fAc (f2 gIx (fV 7) (fC (.int 2))) (fA0))))) (sSeq (sIf (fB (f2 gNotIn (fV 8) (fV 2))) (sSeq (sExpr (fMeth "list" gAppend (fV 2) (fAc (fV 8) (fA0)))) (sSeq (sExpr (fMeth "list" gAppend (fV 5) (fAc (fV 8) (fA0)))) (sNil))) (sNil)) (sNil))
noncomputable def b16_2 (φ : Nat → FD) : FS := sSeq (sIf (fB (f2 gNe (f2 gIx (fV 6) (fC (.int 0))) (fC (.str "end")))) (sSeq (sFor (f2 gIx (fV 6) (fC (.int 1))) (.nm 7) (b16_1 φ)) (sNil)) (sNil)) (sNil)
noncomputable def b16_3 (φ : Nat → FD) : FS := sSeq (sSet (.nm 5) (fLst (fA0))) (sSeq (sFor (fV 3) (.nm 6) (b16_2 φ)) (sSeq (sSet (.nm 3) (fCall gListD (fAc (fV 5) (fA0)))) (sSeq (sIf (fNotT (fTru (fV 3))) (sSeq (sBrk) (sNil)) (sNil)) (sNil))))
noncomputable def b16 (φ : Nat → FD) : FS := sSeq (sSet (.nm 2) (fLst (fAc (fCal 2 (φ 14) [] (fAc (fV 0) (fAc (fV 1) (fA0)))) (fA0)))) (sSeq (sSet (.nm 3) (fCall gListD (fAc (fV 2) (fA0)))) (sSeq (sForR 1 (fAc (fC (.int 200)) (fA0)) (.nm 4) (b16_3 φ)) (sSeq (sRet (fV 2)) (sNil))))
def d16 : He.DefD := ⟨("_law_stages", none), "_law_stages", "_law_stages", defArgs s16, defBody s16, defScope s16, [], []⟩
theorem sc16 : FnScope N16 P16 (defScope s16) := ⟨rfl, rfl, rfl, by decide +kernel, rfl, by decide +kernel, by decide +kernel⟩
/-!  law -/
abbrev s17 : Stmt := top 19
abbrev N17 : List Str := ["_law_script", "_law_pool_here", "_law_table_here", "_law_talks", "_law_talk_here", "_law_result"]
abbrev P17 : List Str := ["_law_script"]
noncomputable def b17_1 (φ : Nat → FD) : FS := sSeq (sSet (.nm 5) (fCal 2 (φ 4) [] (fAc (fCall gDict (fAc (fV 2) (fA0))) (fAc (fV 4) (fA0))))) (sSeq (sIf (fOrT (fNotT (fTru (f1 (gIsi "list") (fV 5)))) (fB (f2 gNe (fV 5) (fCal 2 (φ 16) [] (fAc (fV 2) (fAc (fV 4) (fA0))))))) (sSeq (sRet (fC (.bl false))) (sNil)) (sNil)) (sNil))
noncomputable def b17 (φ : Nat → FD) : FS := sSeq (sSet (.nm 1) (fCal 1 (φ 7) [] (fAc (fV 0) (fA0)))) (sSeq (sSet (.nm 2) (fCal 1 (φ 12) [] (fAc (fV 1) (fA0)))) (sSeq (sSet (.nm 3) (fLst (fAc (fCal 3 (φ 11) [] (fAc (fV 1) (fAc (fCall gListD (fAc (fV 2) (fA0))) (fAc (fC (.int 2)) (fA0))))) (fAc (fTup (fAc (f2 gIx (fLst (fAc (fC (.str "name")) (fAc (fC (.str "dual")) (fA0)))) (fCal 2 (φ 6) [] (fAc (fV 1) (fAc (fC (.int 2)) (fA0))))) (fAc (f2 gIx (fCall gListD (fAc (fV 2) (fA0))) (f1 gNeg (fC (.int 1)))) (fA0)))) (fA0))))) (sSeq (sFor (fV 3) (.nm 4) (b17_1 φ)) (sSeq (sRet (fC (.bl true))) (sNil)))))
def d17 : He.DefD := ⟨("law", none), "law", "law", defArgs s17, defBody s17, defScope s17, [], []⟩
theorem sc17 : FnScope N17 P17 (defScope s17) := ⟨rfl, rfl, rfl, by decide +kernel, rfl, by decide +kernel, by decide +kernel⟩
noncomputable def bod (φ : Nat → FD) : Nat → FD
  | 0 => runB 1 (b0 φ)
  | 1 => runB 1 (b1 φ)
  | 2 => runB 5 (b2 φ)
  | 3 => runB 3 (b3 φ)
  | 4 => runB 8 (b4 φ)
  | 5 => runB 4 (b5 φ)
  | 6 => runB 3 (b6 φ)
  | 7 => runB 1 (b7 φ)
  | 8 => runB 3 (b8 φ)
  | 9 => runB 3 (b9 φ)
  | 10 => runB 1 (b10 φ)
  | 11 => runB 9 (b11 φ)
  | 12 => runB 5 (b12 φ)
  | 13 => runB 3 (b13 φ)
  | 14 => runB 2 (b14 φ)
  | 16 => runB 9 (b16 φ)
  | 17 => runB 6 (b17 φ)
  | _ => fun _ _ => .st
noncomputable def ph : Nat → Nat → FD
  | 0, _ => fun _ _ => .st
  | n + 1, i => bod (ph n) i
theorem ph_0 (n : Nat) : ph (n + 1) 0 = runB 1 (b0 (ph n)) := rfl
theorem ph_1 (n : Nat) : ph (n + 1) 1 = runB 1 (b1 (ph n)) := rfl
theorem ph_2 (n : Nat) : ph (n + 1) 2 = runB 5 (b2 (ph n)) := rfl
theorem ph_3 (n : Nat) : ph (n + 1) 3 = runB 3 (b3 (ph n)) := rfl
theorem ph_4 (n : Nat) : ph (n + 1) 4 = runB 8 (b4 (ph n)) := rfl
theorem ph_5 (n : Nat) : ph (n + 1) 5 = runB 4 (b5 (ph n)) := rfl
theorem ph_6 (n : Nat) : ph (n + 1) 6 = runB 3 (b6 (ph n)) := rfl
theorem ph_7 (n : Nat) : ph (n + 1) 7 = runB 1 (b7 (ph n)) := rfl
theorem ph_8 (n : Nat) : ph (n + 1) 8 = runB 3 (b8 (ph n)) := rfl
theorem ph_9 (n : Nat) : ph (n + 1) 9 = runB 3 (b9 (ph n)) := rfl
theorem ph_10 (n : Nat) : ph (n + 1) 10 = runB 1 (b10 (ph n)) := rfl
theorem ph_11 (n : Nat) : ph (n + 1) 11 = runB 9 (b11 (ph n)) := rfl
theorem ph_12 (n : Nat) : ph (n + 1) 12 = runB 5 (b12 (ph n)) := rfl
theorem ph_13 (n : Nat) : ph (n + 1) 13 = runB 3 (b13 (ph n)) := rfl
theorem ph_14 (n : Nat) : ph (n + 1) 14 = runB 2 (b14 (ph n)) := rfl
theorem ph_16 (n : Nat) : ph (n + 1) 16 = runB 9 (b16 (ph n)) := rfl
theorem ph_17 (n : Nat) : ph (n + 1) 17 = runB 6 (b17 (ph n)) := rfl
structure Fs (K : PySem.W.Frag) (mg : Str → Option Value) : Prop where
  g_is_reference : mg "is_reference" = some (.ref (He.ga K "is_reference"))
  g_dual_kind : mg "dual_kind" = some (.ref (He.ga K "dual_kind"))
  g_dual : mg "dual" = some (.ref (He.ga K "dual"))
  n_tuple : mg "tuple" = none
  g_head : mg "head" = some (.ref (He.ga K "head"))
  n_len : mg "len" = none
  n_abs : mg "abs" = none
  n_int : mg "int" = none
  g__law_wide : mg "_law_wide" = some (.ref (He.ga K "_law_wide"))
  n_list : mg "list" = none
  g__law_take : mg "_law_take" = some (.ref (He.ga K "_law_take"))
  g__law_label : mg "_law_label" = some (.ref (He.ga K "_law_label"))
  g__law_kind : mg "_law_kind" = some (.ref (He.ga K "_law_kind"))
  g__law_talk : mg "_law_talk" = some (.ref (He.ga K "_law_talk"))
  n_range : mg "range" = none
  g__law_names : mg "_law_names" = some (.ref (He.ga K "_law_names"))
  g__law_dual : mg "_law_dual" = some (.ref (He.ga K "_law_dual"))
  g__law_head : mg "_law_head" = some (.ref (He.ga K "_law_head"))
  g__law_pool : mg "_law_pool" = some (.ref (He.ga K "_law_pool"))
  g__law_table : mg "_law_table" = some (.ref (He.ga K "_law_table"))
  n_dict : mg "dict" = none
  g_stages : mg "stages" = some (.ref (He.ga K "stages"))
  n_isinstance : mg "isinstance" = none
  g__law_stages : mg "_law_stages" = some (.ref (He.ga K "_law_stages"))
structure Cs (P : Program) (w : World) (K : PySem.W.Frag) (mg : Str → Option Value) (base : Heap) (k : Nat) (φ : Nat → FD) : Prop where
  c0 : Cal P w K mg base k 1 [[]] (φ 0) (He.fAd K d0.at_)
  c1 : Cal P w K mg base k 1 [[]] (φ 1) (He.fAd K d1.at_)
  c2 : Cal P w K mg base k 1 [[]] (φ 2) (He.fAd K d2.at_)
  c3 : Cal P w K mg base k 2 [[]] (φ 3) (He.fAd K d3.at_)
  c4 : Cal P w K mg base k 2 [[]] (φ 4) (He.fAd K d4.at_)
  c5 : Cal P w K mg base k 2 [[]] (φ 5) (He.fAd K d5.at_)
  c6 : Cal P w K mg base k 2 [[]] (φ 6) (He.fAd K d6.at_)
  c7 : Cal P w K mg base k 1 [[]] (φ 7) (He.fAd K d7.at_)
  c8 : Cal P w K mg base k 1 [[]] (φ 8) (He.fAd K d8.at_)
  c9 : Cal P w K mg base k 2 [[]] (φ 9) (He.fAd K d9.at_)
  c10 : Cal P w K mg base k 1 [[]] (φ 10) (He.fAd K d10.at_)
  c11 : Cal P w K mg base k 3 [[]] (φ 11) (He.fAd K d11.at_)
  c12 : Cal P w K mg base k 1 [[]] (φ 12) (He.fAd K d12.at_)
  c13 : Cal P w K mg base k 1 [[]] (φ 13) (He.fAd K d13.at_)
  c14 : Cal P w K mg base k 2 [[]] (φ 14) (He.fAd K d14.at_)
  c16 : Cal P w K mg base k 2 [[]] (φ 16) (He.fAd K d16.at_)
  c17 : Cal P w K mg base k 1 [[]] (φ 17) (He.fAd K d17.at_)
section
variable {P : Program} {w : World} {K : PySem.W.Frag} {mg : Str → Option Value} {base : Heap} {k : Nat} {φ : Nat → FD}
theorem ok0 {f : Addr} {fd : FuncData} (F : Fs K mg) (D : FunD K d0.name d0.qual d0.params d0.body d0.scope (d0.dvs K) (d0.kws K) f fd) (C : Cs P w K mg base k φ) : FnOk P w K mg base (L2.CX P w) (k + 2) f fd P0 (SpD K P0.length (runB N0.length (b0 φ))) := by
  have sc := sc0
  refine fn_okD D sc fun cdv A outer s H E hr1 tk hp => ?_
  have hr := hr1.mono (Nat.le_succ _)
  have hs := NoSl.of E
  have hu := (show _ + 100 < cLine from by have := hr1.un; omega : (A.deeper (envOfC d0.qual d0.scope s.heap.objs.size f cdv)).units + 100 < cLine)
  exact (dss_cons (ds_ret (de_or (de_cmp (opr_eq hu) o2_eq (de_ix hu (de_var 0) de_int) de_str (nomark _)) (de_one (de_cmp (opr_eq hu) o2_eq (de_ix hu (de_var 0) de_int) de_str (nomark _))))) dss_nil)
theorem ok1 {f : Addr} {fd : FuncData} (F : Fs K mg) (D : FunD K d1.name d1.qual d1.params d1.body d1.scope (d1.dvs K) (d1.kws K) f fd) (C : Cs P w K mg base k φ) : FnOk P w K mg base (L2.CX P w) (k + 2) f fd P1 (SpD K P1.length (runB N1.length (b1 φ))) := by
  have sc := sc1
  refine fn_okD D sc fun cdv A outer s H E hr1 tk hp => ?_
  have hr := hr1.mono (Nat.le_succ _)
  have hs := NoSl.of E
  have hu := (show _ + 100 < cLine from by have := hr1.un; omega : (A.deeper (envOfC d1.qual d1.scope s.heap.objs.size f cdv)).units + 100 < cLine)
  exact (dss_cons (ds_if (dt_cmp (opr_eq hu) o2_eq (de_ix hu (de_var 0) de_int) de_str (nomark _)) (dss_cons (ds_ret (de_tup (da_cons de_str (da_cons (de_ix hu (de_var 0) de_int) da_nil)))) dss_nil) dss_nil) (dss_cons (ds_ret (de_tup (da_cons de_str (da_cons (de_ix hu (de_var 0) de_int) da_nil)))) dss_nil))
theorem ok2 {f : Addr} {fd : FuncData} (F : Fs K mg) (D : FunD K d2.name d2.qual d2.params d2.body d2.scope (d2.dvs K) (d2.kws K) f fd) (C : Cs P w K mg base k φ) : FnOk P w K mg base (L2.CX P w) (k + 2) f fd P2 (SpD K P2.length (runB N2.length (b2 φ))) := by
  have sc := sc2
  refine fn_okD D sc fun cdv A outer s H E hr1 tk hp => ?_
  have hr := hr1.mono (Nat.le_succ _)
  have hs := NoSl.of E
  have hu := (show _ + 100 < cLine from by have := hr1.un; omega : (A.deeper (envOfC d2.qual d2.scope s.heap.objs.size f cdv)).units + 100 < cLine)
  exact (dss_cons (ds_if (dt_tru (de_call C.c0 (by simp) hr tk F.g_is_reference (by rfl) (da_cons (de_var 0) da_nil))) (dss_cons (ds_ret (de_call C.c1 (by simp) hr tk F.g_dual_kind (by rfl) (da_cons (de_var 0) da_nil))) dss_nil) dss_nil) (dss_cons (ds_if (dt_cmp (opr_eq hu) o2_eq (de_ix hu (de_var 0) de_int) de_str (nomark _)) (dss_cons (ds_ret (de_var 0)) dss_nil) dss_nil) (dss_cons (ds_set (i := 1) (de_callTy call_tuple_of oa_tuple (by rfl) F.n_tuple (by rfl) (da_cons (de_lc (own := [("label", 2), ("payload", 3), ("following", 4)]) (by rfl) sc.nd (de_ix hu (de_var 0) de_int) (blk_of (by rfl)) (by decide) (fun _ _ _ _ _ => (dg_tup (by rfl) (dgs_cons (dg_name (i := 2) sc.nd trivial) (dgs_cons (dg_name (i := 3) sc.nd trivial) (dgs_cons (dg_name (i := 4) sc.nd trivial) dgs_nil))) (by rfl))) (fun _ _ _ _ _ => dts_nil) (fun _ _ _ _ _ => (de_tup (da_cons (de_var 2) (da_cons (de_var 3) (da_cons (de_call C.c2 (by simp) hr F2.takes0 F.g_dual (by rfl) (da_cons (de_var 4) da_nil)) da_nil)))))) da_nil)) sc.nd trivial) (dss_cons (ds_if (dt_cmp (opr_eq hu) o2_eq (de_ix hu (de_var 0) de_int) de_str (nomark _)) (dss_cons (ds_ret (de_tup (da_cons de_str (da_cons (de_var 1) da_nil)))) dss_nil) dss_nil) (dss_cons (ds_ret (de_tup (da_cons de_str (da_cons (de_var 1) da_nil)))) dss_nil)))))
theorem ok3 {f : Addr} {fd : FuncData} (F : Fs K mg) (D : FunD K d3.name d3.qual d3.params d3.body d3.scope (d3.dvs K) (d3.kws K) f fd) (C : Cs P w K mg base k φ) : FnOk P w K mg base (L2.CX P w) (k + 2) f fd P3 (SpD K P3.length (runB N3.length (b3 φ))) := by
  have sc := sc3
  refine fn_okD D sc fun cdv A outer s H E hr1 tk hp => ?_
  have hr := hr1.mono (Nat.le_succ _)
  have hs := NoSl.of E
  have hu := (show _ + 100 < cLine from by have := hr1.un; omega : (A.deeper (envOfC d3.qual d3.scope s.heap.objs.size f cdv)).units + 100 < cLine)
  exact (dss_cons (ds_set (i := 2) de_bl sc.nd trivial) (dss_cons (ds_while hp (dt_tru (de_call C.c0 (by simp) hr tk F.g_is_reference (by rfl) (da_cons (de_var 1) da_nil))) (dss_cons (ds_if (dt_cmp (opr_eq hu) o2_eq (de_ix hu (de_var 1) de_int) de_str (nomark _)) (dss_cons (ds_set (i := 2) (de_not (de_var 2)) sc.nd trivial) dss_nil) dss_nil) (dss_cons (ds_set (i := 1) (de_ix hu (de_var 0) (de_ix hu (de_var 1) de_int)) sc.nd trivial) dss_nil))) (dss_cons (ds_if (dt_tru (de_var 2)) (dss_cons (ds_ret (de_call C.c2 (by simp) hr tk F.g_dual (by rfl) (da_cons (de_var 1) da_nil))) dss_nil) dss_nil) (dss_cons (ds_ret (de_var 1)) dss_nil))))
theorem ok4 {f : Addr} {fd : FuncData} (F : Fs K mg) (D : FunD K d4.name d4.qual d4.params d4.body d4.scope (d4.dvs K) (d4.kws K) f fd) (C : Cs P w K mg base k φ) : FnOk P w K mg base (L2.CX P w) (k + 2) f fd P4 (SpD K P4.length (runB N4.length (b4 φ))) := by
  have sc := sc4
  refine fn_okD D sc fun cdv A outer s H E hr1 tk hp => ?_
  have hr := hr1.mono (Nat.le_succ _)
  have hs := NoSl.of E
  have hu := (show _ + 100 < cLine from by have := hr1.un; omega : (A.deeper (envOfC d4.qual d4.scope s.heap.objs.size f cdv)).units + 100 < cLine)
  exact (dss_cons (ds_set (i := 2) (de_lst (da_cons (de_call C.c3 (by simp) hr tk F.g_head (by rfl) (da_cons (de_var 0) (da_cons (de_var 1) da_nil))) da_nil)) sc.nd trivial) (dss_cons (ds_set (i := 3) de_int sc.nd trivial) (dss_cons (ds_while hp (dt_cmp opr_lt o2_lt (de_var 3) (de_callB cr_len oa_len (by rfl) F.n_len (by rfl) (da_cons (de_var 2) da_nil)) (nomark _)) (dss_cons (ds_if (dt_cmp (opr_ne hu) o2_ne (de_ix hu (de_ix hu (de_var 2) (de_var 3)) de_int) de_str (nomark _)) (dss_cons (ds_for hp (by rfl) (de_ix hu (de_ix hu (de_var 2) (de_var 3)) de_int) (dg_tup (by rfl) (dgs_cons (dg_name (i := 4) sc.nd trivial) (dgs_cons (dg_name (i := 5) sc.nd trivial) (dgs_cons (dg_name (i := 6) sc.nd trivial) dgs_nil))) (by rfl)) (dss_cons (ds_set (i := 7) (de_call C.c3 (by simp) hr (F2.Takes.unl tk) F.g_head (by rfl) (da_cons (de_var 0) (da_cons (de_var 6) da_nil))) sc.nd trivial) (dss_cons (ds_if (dt_cmp (opr_notIn hu) o2_notIn (de_var 7) (de_var 2) (by rfl)) (dss_cons (ds_expr (de_bm PySem.F.plainAttrs_list PySem.F.slot_list_append PySem.F.type_list_append mt_append om_append (de_var 2) (da_cons (de_var 7) da_nil))) dss_nil) dss_nil) dss_nil))) dss_nil) dss_nil) (dss_cons (ds_set (i := 3) (de_add (de_var 3) de_int) sc.nd trivial) dss_nil))) (dss_cons (ds_ret (de_var 2)) dss_nil))))
theorem ok5 {f : Addr} {fd : FuncData} (F : Fs K mg) (D : FunD K d5.name d5.qual d5.params d5.body d5.scope (d5.dvs K) (d5.kws K) f fd) (C : Cs P w K mg base k φ) : FnOk P w K mg base (L2.CX P w) (k + 2) f fd P5 (SpD K P5.length (runB N5.length (b5 φ))) := by
  have sc := sc5
  refine fn_okD D sc fun cdv A outer s H E hr1 tk hp => ?_
  have hr := hr1.mono (Nat.le_succ _)
  have hs := NoSl.of E
  have hu := (show _ + 100 < cLine from by have := hr1.un; omega : (A.deeper (envOfC d5.qual d5.scope s.heap.objs.size f cdv)).units + 100 < cLine)
  exact (dss_cons (ds_set (i := 2) de_int sc.nd trivial) (dss_cons (ds_if (dt_cmp opr_lt o2_lt (de_var 1) (de_callB cr_len oa_len (by rfl) F.n_len (by rfl) (da_cons (de_var 0) da_nil)) (nomark _)) (dss_cons (ds_set (i := 2) (de_callB call_abs oa_abs (by rfl) F.n_abs (by rfl) (da_cons (de_ix hu (de_var 0) (de_var 1)) da_nil)) sc.nd trivial) dss_nil) dss_nil) (dss_cons (ds_if (dt_cmp op_ge o2_ge (de_var 2) de_int (nomark _)) (dss_cons (ds_ret (de_var 2)) dss_nil) dss_nil) (dss_cons (ds_set (i := 3) (de_mod (de_callTy call_int1 oa_int (by rfl) F.n_int (by rfl) (da_cons (de_add (de_mul (de_add (de_var 2) de_int) de_int) (de_mul (de_add (de_var 1) de_int) de_int)) da_nil)) de_int) sc.nd trivial) (dss_cons (ds_ret (de_mod (de_callTy call_int1 oa_int (by rfl) F.n_int (by rfl) (da_cons (de_add (de_mul (de_var 3) de_int) (de_div (de_var 3) de_int)) da_nil)) de_int)) dss_nil)))))
theorem ok6 {f : Addr} {fd : FuncData} (F : Fs K mg) (D : FunD K d6.name d6.qual d6.params d6.body d6.scope (d6.dvs K) (d6.kws K) f fd) (C : Cs P w K mg base k φ) : FnOk P w K mg base (L2.CX P w) (k + 2) f fd P6 (SpD K P6.length (runB N6.length (b6 φ))) := by
  have sc := sc6
  refine fn_okD D sc fun cdv A outer s H E hr1 tk hp => ?_
  have hr := hr1.mono (Nat.le_succ _)
  have hs := NoSl.of E
  have hu := (show _ + 100 < cLine from by have := hr1.un; omega : (A.deeper (envOfC d6.qual d6.scope s.heap.objs.size f cdv)).units + 100 < cLine)
  exact (dss_cons (ds_if (dt_cmp opr_lt o2_lt (de_ix hu (de_var 0) de_int) de_int (nomark _)) (dss_cons (ds_setIx hu (de_add (de_ix hu (de_var 0) de_int) de_int) (de_var 0) de_int) (dss_cons (ds_setIx hu (de_call C.c5 (by simp) hr tk F.g__law_wide (by rfl) (da_cons (de_ix hu (de_var 0) de_int) (da_cons (de_ix hu (de_var 0) de_int) da_nil))) (de_var 0) de_int) dss_nil)) dss_nil) (dss_cons (ds_set (i := 2) (de_mod (de_callTy call_int1 oa_int (by rfl) F.n_int (by rfl) (da_cons (de_ix hu (de_var 0) de_int) da_nil)) (de_var 1)) sc.nd trivial) (dss_cons (ds_setIx hu (de_div (de_ix hu (de_var 0) de_int) (de_var 1)) (de_var 0) de_int) (dss_cons (ds_ret (de_var 2)) dss_nil))))
theorem ok7 {f : Addr} {fd : FuncData} (F : Fs K mg) (D : FunD K d7.name d7.qual d7.params d7.body d7.scope (d7.dvs K) (d7.kws K) f fd) (C : Cs P w K mg base k φ) : FnOk P w K mg base (L2.CX P w) (k + 2) f fd P7 (SpD K P7.length (runB N7.length (b7 φ))) := by
  have sc := sc7
  refine fn_okD D sc fun cdv A outer s H E hr1 tk hp => ?_
  have hr := hr1.mono (Nat.le_succ _)
  have hs := NoSl.of E
  have hu := (show _ + 100 < cLine from by have := hr1.un; omega : (A.deeper (envOfC d7.qual d7.scope s.heap.objs.size f cdv)).units + 100 < cLine)
  exact (dss_cons (ds_ret (de_lst (da_cons de_int (da_cons (de_callTy (cr_listDD (by rfl)) oa_listDD (by rfl) F.n_list (by rfl) (da_cons (de_var 0) da_nil)) (da_cons (de_neg de_int) da_nil))))) dss_nil)
theorem ok8 {f : Addr} {fd : FuncData} (F : Fs K mg) (D : FunD K d8.name d8.qual d8.params d8.body d8.scope (d8.dvs K) (d8.kws K) f fd) (C : Cs P w K mg base k φ) : FnOk P w K mg base (L2.CX P w) (k + 2) f fd P8 (SpD K P8.length (runB N8.length (b8 φ))) := by
  have sc := sc8
  refine fn_okD D sc fun cdv A outer s H E hr1 tk hp => ?_
  have hr := hr1.mono (Nat.le_succ _)
  have hs := NoSl.of E
  have hu := (show _ + 100 < cLine from by have := hr1.un; omega : (A.deeper (envOfC d8.qual d8.scope s.heap.objs.size f cdv)).units + 100 < cLine)
  exact (dss_cons (ds_set (i := 1) (de_ix hu (de_lst (da_cons de_str (da_cons de_str (da_cons de_str (da_cons de_str (da_cons de_str (da_cons de_str da_nil))))))) (de_call C.c6 (by simp) hr tk F.g__law_take (by rfl) (da_cons (de_var 0) (da_cons de_int da_nil)))) sc.nd trivial) (dss_cons (ds_set (i := 2) (de_ix hu (de_lst (da_cons de_str (da_cons de_str (da_cons de_str (da_cons de_str (da_cons de_str (da_cons de_str da_nil))))))) (de_call C.c6 (by simp) hr tk F.g__law_take (by rfl) (da_cons (de_var 0) (da_cons de_int da_nil)))) sc.nd trivial) (dss_cons (ds_ret (de_sl (de_lst (da_cons (de_var 1) (da_cons (de_var 2) (da_cons de_str da_nil)))) do_none (do_some (de_add de_int (de_call C.c6 (by simp) hr tk F.g__law_take (by rfl) (da_cons (de_var 0) (da_cons de_int da_nil))))))) dss_nil)))
theorem ok9 {f : Addr} {fd : FuncData} (F : Fs K mg) (D : FunD K d9.name d9.qual d9.params d9.body d9.scope (d9.dvs K) (d9.kws K) f fd) (C : Cs P w K mg base k φ) : FnOk P w K mg base (L2.CX P w) (k + 2) f fd P9 (SpD K P9.length (runB N9.length (b9 φ))) := by
  have sc := sc9
  refine fn_okD D sc fun cdv A outer s H E hr1 tk hp => ?_
  have hr := hr1.mono (Nat.le_succ _)
  have hs := NoSl.of E
  have hu := (show _ + 100 < cLine from by have := hr1.un; omega : (A.deeper (envOfC d9.qual d9.scope s.heap.objs.size f cdv)).units + 100 < cLine)
  exact (dss_cons (ds_set (i := 2) (de_call C.c6 (by simp) hr tk F.g__law_take (by rfl) (da_cons (de_var 0) (da_cons de_int da_nil))) sc.nd trivial) (dss_cons (ds_if (dt_cmp opr_lt o2_lt (de_var 2) de_int (nomark _)) (dss_cons (ds_ret (de_ix hu (de_lst (da_cons de_non (da_cons de_str (da_cons de_str da_nil)))) (de_var 2))) dss_nil) dss_nil) (dss_cons (ds_ret (de_tup (da_cons (de_ix hu (de_lst (da_cons de_str (da_cons de_str da_nil))) (de_mod (de_var 2) de_int)) (da_cons (de_ix hu (de_var 1) (de_call C.c6 (by simp) hr tk F.g__law_take (by rfl) (da_cons (de_var 0) (da_cons (de_callB cr_len oa_len (by rfl) F.n_len (by rfl) (da_cons (de_var 1) da_nil)) da_nil)))) da_nil)))) dss_nil)))
theorem ok10 {f : Addr} {fd : FuncData} (F : Fs K mg) (D : FunD K d10.name d10.qual d10.params d10.body d10.scope (d10.dvs K) (d10.kws K) f fd) (C : Cs P w K mg base k φ) : FnOk P w K mg base (L2.CX P w) (k + 2) f fd P10 (SpD K P10.length (runB N10.length (b10 φ))) := by
  have sc := sc10
  refine fn_okD D sc fun cdv A outer s H E hr1 tk hp => ?_
  have hr := hr1.mono (Nat.le_succ _)
  have hs := NoSl.of E
  have hu := (show _ + 100 < cLine from by have := hr1.un; omega : (A.deeper (envOfC d10.qual d10.scope s.heap.objs.size f cdv)).units + 100 < cLine)
  exact (dss_cons (ds_ret (de_ix hu (de_lst (da_cons de_str (da_cons de_str (da_cons de_str (da_cons de_str (da_cons de_str (da_cons de_str da_nil))))))) (de_call C.c6 (by simp) hr tk F.g__law_take (by rfl) (da_cons (de_var 0) (da_cons de_int da_nil))))) dss_nil)
theorem ok11 {f : Addr} {fd : FuncData} (F : Fs K mg) (D : FunD K d11.name d11.qual d11.params d11.body d11.scope (d11.dvs K) (d11.kws K) f fd) (C : Cs P w K mg base k φ) : FnOk P w K mg base (L2.CX P w) (k + 2) f fd P11 (SpD K P11.length (runB N11.length (b11 φ))) := by
  have sc := sc11
  refine fn_okD D sc fun cdv A outer s H E hr1 tk hp => ?_
  have hr := hr1.mono (Nat.le_succ _)
  have hs := NoSl.of E
  have hu := (show _ + 100 < cLine from by have := hr1.un; omega : (A.deeper (envOfC d11.qual d11.scope s.heap.objs.size f cdv)).units + 100 < cLine)
  exact (dss_cons (ds_set (i := 3) (de_call C.c6 (by simp) hr tk F.g__law_take (by rfl) (da_cons (de_var 0) (da_cons de_int da_nil))) sc.nd trivial) (dss_cons (ds_if (dt_cmp (opr_eq hu) o2_eq (de_var 3) de_int (nomark _)) (dss_cons (ds_ret (de_tup (da_cons de_str da_nil))) dss_nil) dss_nil) (dss_cons (ds_if ((dw_and (dt_cmp opr_lt o2_lt (de_var 3) de_int (nomark _)) (dw_and1 (dt_cmp opr_lt o2_lt (de_var 2) de_int (nomark _))))).dt (dss_cons (ds_ret (de_tup (da_cons (de_ix hu (de_lst (da_cons de_str (da_cons de_str da_nil))) (de_mod (de_var 3) de_int)) (da_cons (de_ix hu (de_var 1) (de_call C.c6 (by simp) hr tk F.g__law_take (by rfl) (da_cons (de_var 0) (da_cons (de_callB cr_len oa_len (by rfl) F.n_len (by rfl) (da_cons (de_var 1) da_nil)) da_nil)))) da_nil)))) dss_nil) dss_nil) (dss_cons (ds_if (dt_cmp (opr_eq hu) o2_eq (de_var 2) de_int (nomark _)) (dss_cons (ds_ret (de_add (de_tup (da_cons (de_ix hu (de_lst (da_cons de_str (da_cons de_str (da_cons de_str da_nil)))) (de_mod (de_var 3) de_int)) da_nil)) (de_sl (de_tup (da_cons (de_ix hu (de_var 1) (de_call C.c6 (by simp) hr tk F.g__law_take (by rfl) (da_cons (de_var 0) (da_cons (de_callB cr_len oa_len (by rfl) F.n_len (by rfl) (da_cons (de_var 1) da_nil)) da_nil)))) da_nil)) do_none (do_some (de_callTy call_int1 oa_int (by rfl) F.n_int (by rfl) (da_cons (de_cmp opr_lt o2_lt (de_mod (de_var 3) de_int) de_int (nomark _)) da_nil)))))) dss_nil) dss_nil) (dss_cons (ds_set (i := 4) (de_lst da_nil) sc.nd trivial) (dss_cons (ds_forR1 hp (by rfl) (by rfl) F.n_range (da_cons (de_add de_int (de_call C.c6 (by simp) hr tk F.g__law_take (by rfl) (da_cons (de_var 0) (da_cons de_int da_nil)))) da_nil) (dg_name (i := 5) sc.nd trivial) (dss_cons (ds_set (i := 6) (de_call C.c10 (by simp) hr (F2.Takes.unl tk) F.g__law_label (by rfl) (da_cons (de_var 0) da_nil)) sc.nd trivial) (dss_cons (ds_if (dt_cmp (opr_notIn hu) o2_notIn (de_var 6) (de_lc (own := [("_law_row_here", 8)]) (by rfl) sc.nd (de_var 4) (blk_of (by rfl)) (by decide) (fun _ _ _ _ _ => (dg_name (i := 8) sc.nd trivial)) (fun _ _ _ _ _ => dts_nil) (fun _ _ _ _ _ => (de_ix hu (de_var 8) de_int))) (by rfl)) (dss_cons (ds_set (i := 7) (de_call C.c9 (by simp) hr (F2.Takes.unl tk) F.g__law_kind (by rfl) (da_cons (de_var 0) (da_cons (de_var 1) da_nil))) sc.nd trivial) (dss_cons (ds_expr (de_bm PySem.F.plainAttrs_list PySem.F.slot_list_append PySem.F.type_list_append mt_append om_append (de_var 4) (da_cons (de_tup (da_cons (de_var 6) (da_cons (de_var 7) (da_cons (de_call C.c11 (by simp) hr (F2.Takes.unl tk) F.g__law_talk (by rfl) (da_cons (de_var 0) (da_cons (de_var 1) (da_cons (de_sub (de_var 2) de_int) da_nil)))) da_nil)))) da_nil))) dss_nil)) dss_nil) dss_nil))) (dss_cons (ds_ret (de_tup (da_cons (de_ix hu (de_lst (da_cons de_str (da_cons de_str da_nil))) (de_mod (de_var 3) de_int)) (da_cons (de_callTy call_tuple_of oa_tuple (by rfl) F.n_tuple (by rfl) (da_cons (de_var 4) da_nil)) da_nil)))) dss_nil)))))))
theorem ok12 {f : Addr} {fd : FuncData} (F : Fs K mg) (D : FunD K d12.name d12.qual d12.params d12.body d12.scope (d12.dvs K) (d12.kws K) f fd) (C : Cs P w K mg base k φ) : FnOk P w K mg base (L2.CX P w) (k + 2) f fd P12 (SpD K P12.length (runB N12.length (b12 φ))) := by
  have sc := sc12
  refine fn_okD D sc fun cdv A outer s H E hr1 tk hp => ?_
  have hr := hr1.mono (Nat.le_succ _)
  have hs := NoSl.of E
  have hu := (show _ + 100 < cLine from by have := hr1.un; omega : (A.deeper (envOfC d12.qual d12.scope s.heap.objs.size f cdv)).units + 100 < cLine)
  exact (dss_cons (ds_set (i := 1) (de_call C.c8 (by simp) hr tk F.g__law_names (by rfl) (da_cons (de_var 0) da_nil)) sc.nd trivial) (dss_cons (ds_set (i := 2) de_d0K sc.nd trivial) (dss_cons (ds_forR1 hp (by rfl) (by rfl) F.n_range (da_cons (de_callB cr_len oa_len (by rfl) F.n_len (by rfl) (da_cons (de_var 1) da_nil)) da_nil) (dg_name (i := 3) sc.nd trivial) (dss_cons (ds_set (i := 4) (de_call C.c11 (by simp) hr (F2.Takes.unl tk) F.g__law_talk (by rfl) (da_cons (de_var 0) (da_cons (de_var 1) (da_cons de_int da_nil)))) sc.nd trivial) (dss_cons (ds_if ((dw_and (dt_cmp (opr_eq hu) o2_eq (de_call C.c6 (by simp) hr (F2.Takes.unl tk) F.g__law_take (by rfl) (da_cons (de_var 0) (da_cons de_int da_nil))) de_int (nomark _)) (dw_and1 (dt_cmp opr_lt o2_lt (de_add (de_var 3) de_int) (de_callB cr_len oa_len (by rfl) F.n_len (by rfl) (da_cons (de_var 1) da_nil)) (nomark _))))).dt (dss_cons (ds_set (i := 4) (de_tup (da_cons (de_ix hu (de_lst (da_cons de_str (da_cons de_str da_nil))) (de_call C.c6 (by simp) hr (F2.Takes.unl tk) F.g__law_take (by rfl) (da_cons (de_var 0) (da_cons de_int da_nil)))) (da_cons (de_ix hu (de_var 1) (de_add (de_var 3) de_int)) da_nil))) sc.nd trivial) dss_nil) dss_nil) (dss_cons (ds_setIx hu (de_var 4) (de_var 2) (de_ix hu (de_var 1) (de_var 3))) dss_nil)))) (dss_cons (ds_ret (de_var 2)) dss_nil))))
theorem ok13 {f : Addr} {fd : FuncData} (F : Fs K mg) (D : FunD K d13.name d13.qual d13.params d13.body d13.scope (d13.dvs K) (d13.kws K) f fd) (C : Cs P w K mg base k φ) : FnOk P w K mg base (L2.CX P w) (k + 2) f fd P13 (SpD K P13.length (runB N13.length (b13 φ))) := by
  have sc := sc13
  refine fn_okD D sc fun cdv A outer s H E hr1 tk hp => ?_
  have hr := hr1.mono (Nat.le_succ _)
  have hs := NoSl.of E
  have hu := (show _ + 100 < cLine from by have := hr1.un; omega : (A.deeper (envOfC d13.qual d13.scope s.heap.objs.size f cdv)).units + 100 < cLine)
  exact (dss_cons (ds_if (dt_cmp (opr_eq hu) o2_eq (de_ix hu (de_var 0) de_int) de_str (nomark _)) (dss_cons (ds_ret (de_tup (da_cons de_str (da_cons (de_ix hu (de_var 0) de_int) da_nil)))) dss_nil) dss_nil) (dss_cons (ds_if (dt_cmp (opr_eq hu) o2_eq (de_ix hu (de_var 0) de_int) de_str (nomark _)) (dss_cons (ds_ret (de_tup (da_cons de_str (da_cons (de_ix hu (de_var 0) de_int) da_nil)))) dss_nil) dss_nil) (dss_cons (ds_if (dt_cmp (opr_eq hu) o2_eq (de_ix hu (de_var 0) de_int) de_str (nomark _)) (dss_cons (ds_ret (de_tup (da_cons de_str da_nil))) dss_nil) dss_nil) (dss_cons (ds_set (i := 1) (de_callTy call_tuple_of oa_tuple (by rfl) F.n_tuple (by rfl) (da_cons (de_lc (own := [("_law_row_here", 2)]) (by rfl) sc.nd (de_ix hu (de_var 0) de_int) (blk_of (by rfl)) (by decide) (fun _ _ _ _ _ => (dg_name (i := 2) sc.nd trivial)) (fun _ _ _ _ _ => dts_nil) (fun _ _ _ _ _ => (de_tup (da_cons (de_ix hu (de_var 2) de_int) (da_cons (de_ix hu (de_var 2) de_int) (da_cons (de_call C.c13 (by simp) hr F2.takes0 F.g__law_dual (by rfl) (da_cons (de_ix hu (de_var 2) de_int) da_nil)) da_nil)))))) da_nil)) sc.nd trivial) (dss_cons (ds_if (dt_cmp (opr_eq hu) o2_eq (de_ix hu (de_var 0) de_int) de_str (nomark _)) (dss_cons (ds_ret (de_tup (da_cons de_str (da_cons (de_var 1) da_nil)))) dss_nil) dss_nil) (dss_cons (ds_ret (de_tup (da_cons de_str (da_cons (de_var 1) da_nil)))) dss_nil))))))
theorem ok14 {f : Addr} {fd : FuncData} (F : Fs K mg) (D : FunD K d14.name d14.qual d14.params d14.body d14.scope (d14.dvs K) (d14.kws K) f fd) (C : Cs P w K mg base k φ) : FnOk P w K mg base (L2.CX P w) (k + 2) f fd P14 (SpD K P14.length (runB N14.length (b14 φ))) := by
  have sc := sc14
  refine fn_okD D sc fun cdv A outer s H E hr1 tk hp => ?_
  have hr := hr1.mono (Nat.le_succ _)
  have hs := NoSl.of E
  have hu := (show _ + 100 < cLine from by have := hr1.un; omega : (A.deeper (envOfC d14.qual d14.scope s.heap.objs.size f cdv)).units + 100 < cLine)
  exact (dss_cons (ds_if (dt_cmp (opr_eq hu) o2_eq (de_ix hu (de_var 1) de_int) de_str (nomark _)) (dss_cons (ds_ret (de_call C.c14 (by simp) hr tk F.g__law_head (by rfl) (da_cons (de_var 0) (da_cons (de_ix hu (de_var 0) (de_ix hu (de_var 1) de_int)) da_nil)))) dss_nil) dss_nil) (dss_cons (ds_if (dt_cmp (opr_eq hu) o2_eq (de_ix hu (de_var 1) de_int) de_str (nomark _)) (dss_cons (ds_ret (de_call C.c13 (by simp) hr tk F.g__law_dual (by rfl) (da_cons (de_call C.c14 (by simp) hr tk F.g__law_head (by rfl) (da_cons (de_var 0) (da_cons (de_ix hu (de_var 0) (de_ix hu (de_var 1) de_int)) da_nil))) da_nil))) dss_nil) dss_nil) (dss_cons (ds_ret (de_var 1)) dss_nil)))
theorem ok16 {f : Addr} {fd : FuncData} (F : Fs K mg) (D : FunD K d16.name d16.qual d16.params d16.body d16.scope (d16.dvs K) (d16.kws K) f fd) (C : Cs P w K mg base k φ) : FnOk P w K mg base (L2.CX P w) (k + 2) f fd P16 (SpD K P16.length (runB N16.length (b16 φ))) := by
  have sc := sc16
  refine fn_okD D sc fun cdv A outer s H E hr1 tk hp => ?_
  have hr := hr1.mono (Nat.le_succ _)
  have hs := NoSl.of E
  have hu := (show _ + 100 < cLine from by have := hr1.un; omega : (A.deeper (envOfC d16.qual d16.scope s.heap.objs.size f cdv)).units + 100 < cLine)
  exact (dss_cons (ds_set (i := 2) (de_lst (da_cons (de_call C.c14 (by simp) hr tk F.g__law_head (by rfl) (da_cons (de_var 0) (da_cons (de_var 1) da_nil))) da_nil)) sc.nd trivial) (dss_cons (ds_set (i := 3) (de_callTy (cr_listDD (by rfl)) oa_listDD (by rfl) F.n_list (by rfl) (da_cons (de_var 2) da_nil)) sc.nd trivial) (dss_cons (ds_forR1 hp (by rfl) (by rfl) F.n_range (da_cons de_int da_nil) (dg_name (i := 4) sc.nd trivial) (dss_cons (ds_set (i := 5) (de_lst da_nil) sc.nd trivial) (dss_cons (ds_for hp (by rfl) (de_var 3) (dg_name (i := 6) sc.nd trivial) (dss_cons (ds_if (dt_cmp (opr_ne hu) o2_ne (de_ix hu (de_var 6) de_int) de_str (nomark _)) (dss_cons (ds_for hp (by rfl) (de_ix hu (de_var 6) de_int) (dg_name (i := 7) sc.nd trivial) (dss_cons (ds_set (i := 8) (de_call C.c14 (by simp) hr (F2.Takes.unl (F2.Takes.unl (F2.Takes.unl tk))) F.g__law_head (by rfl) (da_cons (de_var 0) (da_cons (de_ix hu (de_var 7) de_int) da_nil))) sc.nd trivial) (dss_cons (ds_if (dt_cmp (opr_notIn hu) o2_notIn (de_var 8) (de_var 2) (by rfl)) (dss_cons (ds_expr (de_bm PySem.F.plainAttrs_list PySem.F.slot_list_append PySem.F.type_list_append mt_append om_append (de_var 2) (da_cons (de_var 8) da_nil))) (dss_cons (ds_expr (de_bm PySem.F.plainAttrs_list PySem.F.slot_list_append PySem.F.type_list_append mt_append om_append (de_var 5) (da_cons (de_var 8) da_nil))) dss_nil)) dss_nil) dss_nil))) dss_nil) dss_nil) dss_nil)) (dss_cons (ds_set (i := 3) (de_callTy (cr_listDD (by rfl)) oa_listDD (by rfl) F.n_list (by rfl) (da_cons (de_var 5) da_nil)) sc.nd trivial) (dss_cons (ds_if (dt_not (dt_tru (de_var 3))) (dss_cons ds_break dss_nil) dss_nil) dss_nil))))) (dss_cons (ds_ret (de_var 2)) dss_nil))))
theorem ok17 {f : Addr} {fd : FuncData} (F : Fs K mg) (D : FunD K d17.name d17.qual d17.params d17.body d17.scope (d17.dvs K) (d17.kws K) f fd) (C : Cs P w K mg base k φ) : FnOk P w K mg base (L2.CX P w) (k + 2) f fd P17 (SpD K P17.length (runB N17.length (b17 φ))) := by
  have sc := sc17
  refine fn_okD D sc fun cdv A outer s H E hr1 tk hp => ?_
  have hr := hr1.mono (Nat.le_succ _)
  have hs := NoSl.of E
  have hu := (show _ + 100 < cLine from by have := hr1.un; omega : (A.deeper (envOfC d17.qual d17.scope s.heap.objs.size f cdv)).units + 100 < cLine)
  exact (dss_cons (ds_set (i := 1) (de_call C.c7 (by simp) hr tk F.g__law_pool (by rfl) (da_cons (de_var 0) da_nil)) sc.nd trivial) (dss_cons (ds_set (i := 2) (de_call C.c12 (by simp) hr tk F.g__law_table (by rfl) (da_cons (de_var 1) da_nil)) sc.nd trivial) (dss_cons (ds_set (i := 3) (de_lst (da_cons (de_call C.c11 (by simp) hr tk F.g__law_talk (by rfl) (da_cons (de_var 1) (da_cons (de_callTy (cr_listDD (by rfl)) oa_listDD (by rfl) F.n_list (by rfl) (da_cons (de_var 2) da_nil)) (da_cons de_int da_nil)))) (da_cons (de_tup (da_cons (de_ix hu (de_lst (da_cons de_str (da_cons de_str da_nil))) (de_call C.c6 (by simp) hr tk F.g__law_take (by rfl) (da_cons (de_var 1) (da_cons de_int da_nil)))) (da_cons (de_ix hu (de_callTy (cr_listDD (by rfl)) oa_listDD (by rfl) F.n_list (by rfl) (da_cons (de_var 2) da_nil)) (de_neg de_int)) da_nil))) da_nil))) sc.nd trivial) (dss_cons (ds_for hp (by rfl) (de_var 3) (dg_name (i := 4) sc.nd trivial) (dss_cons (ds_set (i := 5) (de_call C.c4 (by simp) hr (F2.Takes.unl tk) F.g_stages (by rfl) (da_cons (de_callTy call_dictD oa_dict (by rfl) F.n_dict (by rfl) (da_cons (de_var 2) da_nil)) (da_cons (de_var 4) da_nil))) sc.nd trivial) (dss_cons (ds_if ((dw_or (dt_not (dt_tru (de_isi (by decide) (de_var 5) F.n_isinstance F.n_list (by rfl)))) (dw_or1 (dt_cmp (opr_ne hu) o2_ne (de_var 5) (de_call C.c16 (by simp) hr (F2.Takes.unl tk) F.g__law_stages (by rfl) (da_cons (de_var 2) (da_cons (de_var 4) da_nil))) (nomark _))))).dt (dss_cons (ds_ret de_bl) dss_nil) dss_nil) dss_nil))) (dss_cons (ds_ret de_bl) dss_nil)))))
theorem bi0 {f : Addr} {fd : FuncData} (Df : FunD K d0.name d0.qual d0.params d0.body d0.scope (d0.dvs K) (d0.kws K) f fd) : ∀ dfl ∈ ([[]] : List (List D)), Fills K fd P0 dfl := by
  intro dfl h; obtain rfl := List.mem_singleton.mp h
  exact Fills.none (FunD.bindsN (ps := P0) Df fun _ _ _ _ _ _ us hl => match us, hl with | [_], _ => rfl)
theorem bi1 {f : Addr} {fd : FuncData} (Df : FunD K d1.name d1.qual d1.params d1.body d1.scope (d1.dvs K) (d1.kws K) f fd) : ∀ dfl ∈ ([[]] : List (List D)), Fills K fd P1 dfl := by
  intro dfl h; obtain rfl := List.mem_singleton.mp h
  exact Fills.none (FunD.bindsN (ps := P1) Df fun _ _ _ _ _ _ us hl => match us, hl with | [_], _ => rfl)
theorem bi2 {f : Addr} {fd : FuncData} (Df : FunD K d2.name d2.qual d2.params d2.body d2.scope (d2.dvs K) (d2.kws K) f fd) : ∀ dfl ∈ ([[]] : List (List D)), Fills K fd P2 dfl := by
  intro dfl h; obtain rfl := List.mem_singleton.mp h
  exact Fills.none (FunD.bindsN (ps := P2) Df fun _ _ _ _ _ _ us hl => match us, hl with | [_], _ => rfl)
theorem bi3 {f : Addr} {fd : FuncData} (Df : FunD K d3.name d3.qual d3.params d3.body d3.scope (d3.dvs K) (d3.kws K) f fd) : ∀ dfl ∈ ([[]] : List (List D)), Fills K fd P3 dfl := by
  intro dfl h; obtain rfl := List.mem_singleton.mp h
  exact Fills.none (FunD.bindsN (ps := P3) Df fun _ _ _ _ _ _ us hl => match us, hl with | [_, _], _ => rfl)
theorem bi4 {f : Addr} {fd : FuncData} (Df : FunD K d4.name d4.qual d4.params d4.body d4.scope (d4.dvs K) (d4.kws K) f fd) : ∀ dfl ∈ ([[]] : List (List D)), Fills K fd P4 dfl := by
  intro dfl h; obtain rfl := List.mem_singleton.mp h
  exact Fills.none (FunD.bindsN (ps := P4) Df fun _ _ _ _ _ _ us hl => match us, hl with | [_, _], _ => rfl)
theorem bi5 {f : Addr} {fd : FuncData} (Df : FunD K d5.name d5.qual d5.params d5.body d5.scope (d5.dvs K) (d5.kws K) f fd) : ∀ dfl ∈ ([[]] : List (List D)), Fills K fd P5 dfl := by
  intro dfl h; obtain rfl := List.mem_singleton.mp h
  exact Fills.none (FunD.bindsN (ps := P5) Df fun _ _ _ _ _ _ us hl => match us, hl with | [_, _], _ => rfl)
theorem bi6 {f : Addr} {fd : FuncData} (Df : FunD K d6.name d6.qual d6.params d6.body d6.scope (d6.dvs K) (d6.kws K) f fd) : ∀ dfl ∈ ([[]] : List (List D)), Fills K fd P6 dfl := by
  intro dfl h; obtain rfl := List.mem_singleton.mp h
  exact Fills.none (FunD.bindsN (ps := P6) Df fun _ _ _ _ _ _ us hl => match us, hl with | [_, _], _ => rfl)
theorem bi7 {f : Addr} {fd : FuncData} (Df : FunD K d7.name d7.qual d7.params d7.body d7.scope (d7.dvs K) (d7.kws K) f fd) : ∀ dfl ∈ ([[]] : List (List D)), Fills K fd P7 dfl := by
  intro dfl h; obtain rfl := List.mem_singleton.mp h
  exact Fills.none (FunD.bindsN (ps := P7) Df fun _ _ _ _ _ _ us hl => match us, hl with | [_], _ => rfl)
theorem bi8 {f : Addr} {fd : FuncData} (Df : FunD K d8.name d8.qual d8.params d8.body d8.scope (d8.dvs K) (d8.kws K) f fd) : ∀ dfl ∈ ([[]] : List (List D)), Fills K fd P8 dfl := by
  intro dfl h; obtain rfl := List.mem_singleton.mp h
  exact Fills.none (FunD.bindsN (ps := P8) Df fun _ _ _ _ _ _ us hl => match us, hl with | [_], _ => rfl)
theorem bi9 {f : Addr} {fd : FuncData} (Df : FunD K d9.name d9.qual d9.params d9.body d9.scope (d9.dvs K) (d9.kws K) f fd) : ∀ dfl ∈ ([[]] : List (List D)), Fills K fd P9 dfl := by
  intro dfl h; obtain rfl := List.mem_singleton.mp h
  exact Fills.none (FunD.bindsN (ps := P9) Df fun _ _ _ _ _ _ us hl => match us, hl with | [_, _], _ => rfl)
theorem bi10 {f : Addr} {fd : FuncData} (Df : FunD K d10.name d10.qual d10.params d10.body d10.scope (d10.dvs K) (d10.kws K) f fd) : ∀ dfl ∈ ([[]] : List (List D)), Fills K fd P10 dfl := by
  intro dfl h; obtain rfl := List.mem_singleton.mp h
  exact Fills.none (FunD.bindsN (ps := P10) Df fun _ _ _ _ _ _ us hl => match us, hl with | [_], _ => rfl)
theorem bi11 {f : Addr} {fd : FuncData} (Df : FunD K d11.name d11.qual d11.params d11.body d11.scope (d11.dvs K) (d11.kws K) f fd) : ∀ dfl ∈ ([[]] : List (List D)), Fills K fd P11 dfl := by
  intro dfl h; obtain rfl := List.mem_singleton.mp h
  exact Fills.none (FunD.bindsN (ps := P11) Df fun _ _ _ _ _ _ us hl => match us, hl with | [_, _, _], _ => rfl)
theorem bi12 {f : Addr} {fd : FuncData} (Df : FunD K d12.name d12.qual d12.params d12.body d12.scope (d12.dvs K) (d12.kws K) f fd) : ∀ dfl ∈ ([[]] : List (List D)), Fills K fd P12 dfl := by
  intro dfl h; obtain rfl := List.mem_singleton.mp h
  exact Fills.none (FunD.bindsN (ps := P12) Df fun _ _ _ _ _ _ us hl => match us, hl with | [_], _ => rfl)
theorem bi13 {f : Addr} {fd : FuncData} (Df : FunD K d13.name d13.qual d13.params d13.body d13.scope (d13.dvs K) (d13.kws K) f fd) : ∀ dfl ∈ ([[]] : List (List D)), Fills K fd P13 dfl := by
  intro dfl h; obtain rfl := List.mem_singleton.mp h
  exact Fills.none (FunD.bindsN (ps := P13) Df fun _ _ _ _ _ _ us hl => match us, hl with | [_], _ => rfl)
theorem bi14 {f : Addr} {fd : FuncData} (Df : FunD K d14.name d14.qual d14.params d14.body d14.scope (d14.dvs K) (d14.kws K) f fd) : ∀ dfl ∈ ([[]] : List (List D)), Fills K fd P14 dfl := by
  intro dfl h; obtain rfl := List.mem_singleton.mp h
  exact Fills.none (FunD.bindsN (ps := P14) Df fun _ _ _ _ _ _ us hl => match us, hl with | [_, _], _ => rfl)
theorem bi16 {f : Addr} {fd : FuncData} (Df : FunD K d16.name d16.qual d16.params d16.body d16.scope (d16.dvs K) (d16.kws K) f fd) : ∀ dfl ∈ ([[]] : List (List D)), Fills K fd P16 dfl := by
  intro dfl h; obtain rfl := List.mem_singleton.mp h
  exact Fills.none (FunD.bindsN (ps := P16) Df fun _ _ _ _ _ _ us hl => match us, hl with | [_, _], _ => rfl)
theorem bi17 {f : Addr} {fd : FuncData} (Df : FunD K d17.name d17.qual d17.params d17.body d17.scope (d17.dvs K) (d17.kws K) f fd) : ∀ dfl ∈ ([[]] : List (List D)), Fills K fd P17 dfl := by
  intro dfl h; obtain rfl := List.mem_singleton.mp h
  exact Fills.none (FunD.bindsN (ps := P17) Df fun _ _ _ _ _ _ us hl => match us, hl with | [_], _ => rfl)
structure Ds (K : PySem.W.Frag) : Prop where
  d0 : ∃ fd, FunD K d0.name d0.qual d0.params d0.body d0.scope (d0.dvs K) (d0.kws K) (He.fAd K d0.at_) fd
  d1 : ∃ fd, FunD K d1.name d1.qual d1.params d1.body d1.scope (d1.dvs K) (d1.kws K) (He.fAd K d1.at_) fd
  d2 : ∃ fd, FunD K d2.name d2.qual d2.params d2.body d2.scope (d2.dvs K) (d2.kws K) (He.fAd K d2.at_) fd
  d3 : ∃ fd, FunD K d3.name d3.qual d3.params d3.body d3.scope (d3.dvs K) (d3.kws K) (He.fAd K d3.at_) fd
  d4 : ∃ fd, FunD K d4.name d4.qual d4.params d4.body d4.scope (d4.dvs K) (d4.kws K) (He.fAd K d4.at_) fd
  d5 : ∃ fd, FunD K d5.name d5.qual d5.params d5.body d5.scope (d5.dvs K) (d5.kws K) (He.fAd K d5.at_) fd
  d6 : ∃ fd, FunD K d6.name d6.qual d6.params d6.body d6.scope (d6.dvs K) (d6.kws K) (He.fAd K d6.at_) fd
  d7 : ∃ fd, FunD K d7.name d7.qual d7.params d7.body d7.scope (d7.dvs K) (d7.kws K) (He.fAd K d7.at_) fd
  d8 : ∃ fd, FunD K d8.name d8.qual d8.params d8.body d8.scope (d8.dvs K) (d8.kws K) (He.fAd K d8.at_) fd
  d9 : ∃ fd, FunD K d9.name d9.qual d9.params d9.body d9.scope (d9.dvs K) (d9.kws K) (He.fAd K d9.at_) fd
  d10 : ∃ fd, FunD K d10.name d10.qual d10.params d10.body d10.scope (d10.dvs K) (d10.kws K) (He.fAd K d10.at_) fd
  d11 : ∃ fd, FunD K d11.name d11.qual d11.params d11.body d11.scope (d11.dvs K) (d11.kws K) (He.fAd K d11.at_) fd
  d12 : ∃ fd, FunD K d12.name d12.qual d12.params d12.body d12.scope (d12.dvs K) (d12.kws K) (He.fAd K d12.at_) fd
  d13 : ∃ fd, FunD K d13.name d13.qual d13.params d13.body d13.scope (d13.dvs K) (d13.kws K) (He.fAd K d13.at_) fd
  d14 : ∃ fd, FunD K d14.name d14.qual d14.params d14.body d14.scope (d14.dvs K) (d14.kws K) (He.fAd K d14.at_) fd
  d16 : ∃ fd, FunD K d16.name d16.qual d16.params d16.body d16.scope (d16.dvs K) (d16.kws K) (He.fAd K d16.at_) fd
  d17 : ∃ fd, FunD K d17.name d17.qual d17.params d17.body d17.scope (d17.dvs K) (d17.kws K) (He.fAd K d17.at_) fd
theorem all (F : Fs K mg) (D : Ds K) : ∀ n : Nat, Cs P w K mg base (2 * n) (ph n)
  | 0 => by
    refine ⟨?_, ?_, ?_, ?_, ?_, ?_, ?_, ?_, ?_, ?_, ?_, ?_, ?_, ?_, ?_, ?_, ?_⟩
    · obtain ⟨fd, D0⟩ := D.d0; exact ⟨⟨fd, P0, rfl, fn_st D0, bi0 D0⟩, D0.kp⟩
    · obtain ⟨fd, D1⟩ := D.d1; exact ⟨⟨fd, P1, rfl, fn_st D1, bi1 D1⟩, D1.kp⟩
    · obtain ⟨fd, D2⟩ := D.d2; exact ⟨⟨fd, P2, rfl, fn_st D2, bi2 D2⟩, D2.kp⟩
    · obtain ⟨fd, D3⟩ := D.d3; exact ⟨⟨fd, P3, rfl, fn_st D3, bi3 D3⟩, D3.kp⟩
    · obtain ⟨fd, D4⟩ := D.d4; exact ⟨⟨fd, P4, rfl, fn_st D4, bi4 D4⟩, D4.kp⟩
    · obtain ⟨fd, D5⟩ := D.d5; exact ⟨⟨fd, P5, rfl, fn_st D5, bi5 D5⟩, D5.kp⟩
    · obtain ⟨fd, D6⟩ := D.d6; exact ⟨⟨fd, P6, rfl, fn_st D6, bi6 D6⟩, D6.kp⟩
    · obtain ⟨fd, D7⟩ := D.d7; exact ⟨⟨fd, P7, rfl, fn_st D7, bi7 D7⟩, D7.kp⟩
    · obtain ⟨fd, D8⟩ := D.d8; exact ⟨⟨fd, P8, rfl, fn_st D8, bi8 D8⟩, D8.kp⟩
    · obtain ⟨fd, D9⟩ := D.d9; exact ⟨⟨fd, P9, rfl, fn_st D9, bi9 D9⟩, D9.kp⟩
    · obtain ⟨fd, D10⟩ := D.d10; exact ⟨⟨fd, P10, rfl, fn_st D10, bi10 D10⟩, D10.kp⟩
    · obtain ⟨fd, D11⟩ := D.d11; exact ⟨⟨fd, P11, rfl, fn_st D11, bi11 D11⟩, D11.kp⟩
    · obtain ⟨fd, D12⟩ := D.d12; exact ⟨⟨fd, P12, rfl, fn_st D12, bi12 D12⟩, D12.kp⟩
    · obtain ⟨fd, D13⟩ := D.d13; exact ⟨⟨fd, P13, rfl, fn_st D13, bi13 D13⟩, D13.kp⟩
    · obtain ⟨fd, D14⟩ := D.d14; exact ⟨⟨fd, P14, rfl, fn_st D14, bi14 D14⟩, D14.kp⟩
    · obtain ⟨fd, D16⟩ := D.d16; exact ⟨⟨fd, P16, rfl, fn_st D16, bi16 D16⟩, D16.kp⟩
    · obtain ⟨fd, D17⟩ := D.d17; exact ⟨⟨fd, P17, rfl, fn_st D17, bi17 D17⟩, D17.kp⟩
  | n + 1 => by
    have C := all F D n
    refine ⟨?_, ?_, ?_, ?_, ?_, ?_, ?_, ?_, ?_, ?_, ?_, ?_, ?_, ?_, ?_, ?_, ?_⟩
    · obtain ⟨fd, D0⟩ := D.d0; exact ⟨⟨fd, P0, rfl, ok0 F D0 C, bi0 D0⟩, D0.kp⟩
    · obtain ⟨fd, D1⟩ := D.d1; exact ⟨⟨fd, P1, rfl, ok1 F D1 C, bi1 D1⟩, D1.kp⟩
    · obtain ⟨fd, D2⟩ := D.d2; exact ⟨⟨fd, P2, rfl, ok2 F D2 C, bi2 D2⟩, D2.kp⟩
    · obtain ⟨fd, D3⟩ := D.d3; exact ⟨⟨fd, P3, rfl, ok3 F D3 C, bi3 D3⟩, D3.kp⟩
    · obtain ⟨fd, D4⟩ := D.d4; exact ⟨⟨fd, P4, rfl, ok4 F D4 C, bi4 D4⟩, D4.kp⟩
    · obtain ⟨fd, D5⟩ := D.d5; exact ⟨⟨fd, P5, rfl, ok5 F D5 C, bi5 D5⟩, D5.kp⟩
    · obtain ⟨fd, D6⟩ := D.d6; exact ⟨⟨fd, P6, rfl, ok6 F D6 C, bi6 D6⟩, D6.kp⟩
    · obtain ⟨fd, D7⟩ := D.d7; exact ⟨⟨fd, P7, rfl, ok7 F D7 C, bi7 D7⟩, D7.kp⟩
    · obtain ⟨fd, D8⟩ := D.d8; exact ⟨⟨fd, P8, rfl, ok8 F D8 C, bi8 D8⟩, D8.kp⟩
    · obtain ⟨fd, D9⟩ := D.d9; exact ⟨⟨fd, P9, rfl, ok9 F D9 C, bi9 D9⟩, D9.kp⟩
    · obtain ⟨fd, D10⟩ := D.d10; exact ⟨⟨fd, P10, rfl, ok10 F D10 C, bi10 D10⟩, D10.kp⟩
    · obtain ⟨fd, D11⟩ := D.d11; exact ⟨⟨fd, P11, rfl, ok11 F D11 C, bi11 D11⟩, D11.kp⟩
    · obtain ⟨fd, D12⟩ := D.d12; exact ⟨⟨fd, P12, rfl, ok12 F D12 C, bi12 D12⟩, D12.kp⟩
    · obtain ⟨fd, D13⟩ := D.d13; exact ⟨⟨fd, P13, rfl, ok13 F D13 C, bi13 D13⟩, D13.kp⟩
    · obtain ⟨fd, D14⟩ := D.d14; exact ⟨⟨fd, P14, rfl, ok14 F D14 C, bi14 D14⟩, D14.kp⟩
    · obtain ⟨fd, D16⟩ := D.d16; exact ⟨⟨fd, P16, rfl, ok16 F D16 C, bi16 D16⟩, D16.kp⟩
    · obtain ⟨fd, D17⟩ := D.d17; exact ⟨⟨fd, P17, rfl, ok17 F D17 C, bi17 D17⟩, D17.kp⟩
end
def fn : List He.DefD := [d0, d1, d2, d3, d4, d5, d6, d7, d8, d9, d10, d11, d12, d13, d14, d16, d17]
def fa : List He.Fa := [.glo "is_reference", .glo "dual_kind", .glo "dual", .free "tuple", .glo "head", .free "len", .free "abs", .free "int", .glo "_law_wide", .free "list", .glo "_law_take", .glo "_law_label", .glo "_law_kind", .glo "_law_talk", .free "range", .glo "_law_names", .glo "_law_dual", .glo "_law_head", .glo "_law_pool", .glo "_law_table", .free "dict", .glo "stages", .free "isinstance", .glo "_law_stages", .glo "law"]
abbrev hk : PySem.W.Hook := He.hookD 4 fa fn
def ob (s : PySem.W.SharedT) : He.AlD := He.obsDG 4 fa fn (HandSHeadRun.getT s)
theorem ob_eq (s : PySem.W.SharedT) : ob s = hk.obs s.abs := He.obsDG_eq (HandSHeadRun.getT_eq s)
abbrev R : PySem.W.OpenRow := PySem.W.OpenLaw.row PySem.Challenge.rw_pourparler_k10_stages
abbrev loose : List Str := ["is_reference", "dual_kind", "dual", "head", "stages", "_law_wide", "_law_take", "_law_pool", "_law_names", "_law_kind", "_law_label", "_law_talk", "_law_table", "_law_dual", "_law_head", "_law_row", "_law_stages"]
theorem run (w : World) : HandSHeadRun.RunEq R (PySem.W.view R.prog [19]) hk ob 2000 loose w := by
  intro os
  kernel_rfl
theorem facts {K : PySem.W.Frag} {h : Heap} {mg : Str → Option Value} (X : K.In h) (G : h.Ns mainGlobals mg) (c : He.SaysD fa fn K) : Fs K mg ∧ Ds K ∧ mg "law" = some (.ref (He.ga K "law")) :=
  ⟨⟨He.glo_ok X G (c.fact 0 (f := .glo "is_reference") rfl), He.glo_ok X G (c.fact 1 (f := .glo "dual_kind") rfl), He.glo_ok X G (c.fact 2 (f := .glo "dual") rfl), He.free_ok X G (c.fact 3 (f := .free "tuple") rfl), He.glo_ok X G (c.fact 4 (f := .glo "head") rfl), He.free_ok X G (c.fact 5 (f := .free "len") rfl), He.free_ok X G (c.fact 6 (f := .free "abs") rfl), He.free_ok X G (c.fact 7 (f := .free "int") rfl), He.glo_ok X G (c.fact 8 (f := .glo "_law_wide") rfl), He.free_ok X G (c.fact 9 (f := .free "list") rfl), He.glo_ok X G (c.fact 10 (f := .glo "_law_take") rfl), He.glo_ok X G (c.fact 11 (f := .glo "_law_label") rfl), He.glo_ok X G (c.fact 12 (f := .glo "_law_kind") rfl), He.glo_ok X G (c.fact 13 (f := .glo "_law_talk") rfl), He.free_ok X G (c.fact 14 (f := .free "range") rfl), He.glo_ok X G (c.fact 15 (f := .glo "_law_names") rfl), He.glo_ok X G (c.fact 16 (f := .glo "_law_dual") rfl), He.glo_ok X G (c.fact 17 (f := .glo "_law_head") rfl), He.glo_ok X G (c.fact 18 (f := .glo "_law_pool") rfl), He.glo_ok X G (c.fact 19 (f := .glo "_law_table") rfl), He.free_ok X G (c.fact 20 (f := .free "dict") rfl), He.glo_ok X G (c.fact 21 (f := .glo "stages") rfl), He.free_ok X G (c.fact 22 (f := .free "isinstance") rfl), He.glo_ok X G (c.fact 23 (f := .glo "_law_stages") rfl)⟩, ⟨c.def_ 0 (d := d0) rfl, c.def_ 1 (d := d1) rfl, c.def_ 2 (d := d2) rfl, c.def_ 3 (d := d3) rfl, c.def_ 4 (d := d4) rfl, c.def_ 5 (d := d5) rfl, c.def_ 6 (d := d6) rfl, c.def_ 7 (d := d7) rfl, c.def_ 8 (d := d8) rfl, c.def_ 9 (d := d9) rfl, c.def_ 10 (d := d10) rfl, c.def_ 11 (d := d11) rfl, c.def_ 12 (d := d12) rfl, c.def_ 13 (d := d13) rfl, c.def_ 14 (d := d14) rfl, c.def_ 15 (d := d16) rfl, c.def_ 16 (d := d17) rfl⟩, He.glo_ok X G (c.fact 24 (f := .glo "law") rfl)⟩
end Wk10
open PySem PySem.W PySem.Calls PyProof.Rows
theorem Wk10.holds_of (N : Nat) (hN : 6 * N + 11 < 900) (h : ∀ ns : List Int, ns.length ≤ 63 → ∃ G, Wk10.ph N 17 [.scr (ns.map F2.D.int)] [] = .ok (.bl true) G) (hroom : L2.Room (2 * N) callerA) : PySem.Challenge.rw_pourparler_k10_stages.Holds := by
  w_on; o_law
  refine HandSHeadRun.head_any (r := OpenLaw.row PySem.Challenge.rw_pourparler_k10_stages) (q := view (OpenLaw.row PySem.Challenge.rw_pourparler_k10_stages).prog [19]) (H := Wk10.hk) (ob := Wk10.ob) (M := 2000) (loose := Wk10.loose) (d := HandSHeadRun.topDef (OpenLaw.row PySem.Challenge.rw_pourparler_k10_stages).prog 19) (kwd := []) Wk10.ob_eq
    (by kernel_rfl) (fun s => by kernel_rfl) Wk10.run (by kernel_rfl) (by kernel_rfl) (by kernel_rfl) (by rfl) (by first | assumption | decide +kernel) (by decide +kernel) ⟨rfl, rfl, rfl, rfl, rfl, by decide +kernel⟩ ?hw ?hc
  case hw => w_witness2
  case hc =>
    refine L2.walk_ofE (l := PySem.Challenge.rw_pourparler_k10_stages) (n := 63) (k := 2 * N) (x := "_law_script") (CX := L2.CX0) rfl (by decide) (by kernel_rfl) hroom ?F (fun _ _ _ _ z => z)
    intro w mg fa h0 Y G hmg0
    obtain ⟨K, KX, c⟩ := Y
    have hmg : mg ("law" : PySem.Str) = some (.ref fa) := by
      have e : (HandSHeadRun.topDef (OpenLaw.row PySem.Challenge.rw_pourparler_k10_stages).prog 19).name = ("law" : PySem.Str) := by kernel_rfl
      rw [← e]
      exact hmg0
    obtain ⟨F, D, gl⟩ := Wk10.facts KX G c
    have e := hmg.symm.trans gl
    cases e
    obtain ⟨fd, D17⟩ := D.d17
    have b := L2.FunD.bindsA (ps := Wk10.P17) D17 fun _ _ _ _ _ _ us hl => match us, hl with | [_], _ => rfl
    refine ⟨K, fd, fun vs H Q _ => F2.SpD K 1 (Wk10.ph N 17) vs H Q fun _ _ _ => False, KX, fun s v => b s [v] rfl, fun H a ns hl hO hS => F2.law_entry (h ns hl) H a hO hS, fun base _ _ => ?_⟩
    cases N with
    | zero => exact absurd (h [] (by simp)) (fun ⟨G, z⟩ => nomatch z)
    | succ N => exact F2.FnOk.cx0 (Wk10.ok17 F D17 (Wk10.all F D N))
end
section
namespace Wk10
open PySem PySem.Spec PyProof.Rows L2 F2
/-! ### the draws -/
theorem wide_ok (N : Nat) (G : GH) (xs : List Int) (k : Int) (h0 : G[0]? = some (.lst (xs.map D.int))) (hk : 0 ≤ k) : ∃ v, 0 ≤ v ∧ ph (N + 1) 5 [.ref 0, .int k] G = .ok (.int v) G := by
  rw [ph_5]
  by_cases hl : k < xs.length
  · obtain ⟨c, hc, hm⟩ := atI_mem (xs := xs.map D.int) (i := k) hk (by simpa using hl)
    obtain ⟨c, _, rfl⟩ := List.mem_map.mp hm
    by_cases hb : 1000000000000000000 ≤ (if c < 0 then -c else c)
    · refine ⟨if c < 0 then -c else c, by omega, ?_⟩
      simp [b5, x_sSeq, g_len_lst h0, g_ix_lst h0, hl, hc, hb]
    · simp [b5, x_sSeq, g_len_lst h0, g_ix_lst h0, hl, hc, hb]
      exact Int.emod_nonneg _ (by decide)
  · simp [b5, x_sSeq, g_len_lst h0, g_ix_lst h0, hl]
    exact Int.emod_nonneg _ (by decide)
/-- the pool stands at 1, its numbers at 0 -/
structure Ok (G : GH) : Prop where
  ex : ∃ (x k : Int) (xs : List Int), G[1]? = some (.lst [.int x, .ref 0, .int k]) ∧ G[0]? = some (.lst (xs.map D.int)) ∧ 0 ≤ x ∧ -1 ≤ k
/-- what stands behind the pool stays -/
structure Fr (G G' : GH) : Prop where
  ok : Ok G'
  len : G.length ≤ G'.length
  at_ : ∀ i, 2 ≤ i → i < G.length → G'[i]? = G[i]?
theorem Fr.trans {G G1 G2 : GH} (a : Fr G G1) (b : Fr G1 G2) : Fr G G2 := ⟨b.ok, Nat.le_trans a.len b.len, fun i h1 h2 => by rw [b.at_ i h1 (Nat.lt_of_lt_of_le h2 a.len), a.at_ i h1 h2]⟩
theorem Fr.refl {G : GH} (h : Ok G) : Fr G G := ⟨h, Nat.le_refl _, fun _ _ _ => rfl⟩
theorem Fr.get {G G' : GH} {i : Nat} {o : GO} (f : Fr G G') (h2 : 2 ≤ i) (h : G[i]? = some o) : G'[i]? = some o := by
  rw [f.at_ i h2 (List.getElem?_eq_some_iff.mp h).1]; exact h
theorem Ok.two {G : GH} (h : Ok G) : 2 ≤ G.length := by
  obtain ⟨x, k, xs, h1, _⟩ := h.ex
  exact (List.getElem?_eq_some_iff.mp h1).1
theorem Ok.app {G : GH} (h : Ok G) (B : GH) : Fr G (G ++ B) := by
  obtain ⟨x, k, xs, h1, h2, h3⟩ := h.ex
  have l := h.two
  exact ⟨⟨x, k, xs, by rw [List.getElem?_append_left (by omega)]; exact h1, by rw [List.getElem?_append_left (by omega)]; exact h2, h3⟩, by simp, fun i _ hi => by rw [List.getElem?_append_left hi]⟩
theorem set_lt {G : GH} {n i : Nat} {o : GO} (h : i ≠ n) : (G.set n o)[i]? = G[i]? := List.getElem?_set_ne (Ne.symm h)
/-- an object of ours is rewritten -/
theorem Ok.set {G : GH} (h : Ok G) {n : Nat} {o : GO} (hn : 2 ≤ n) : Ok (G.set n o) := by
  obtain ⟨x, k, xs, h1, h2, h3⟩ := h.ex
  exact ⟨x, k, xs, by rw [set_lt (by omega)]; exact h1, by rw [set_lt (by omega)]; exact h2, h3⟩
theorem last {G : GH} {o : GO} : (G ++ [o])[G.length]? = some o := by simp
theorem take_ok (N : Nat) (G : GH) (m : Int) (hm : 0 < m ∧ m < 1000) (h : Ok G) : ∃ v G', 0 ≤ v ∧ v < m ∧ ph (N + 2) 6 [.ref 1, .int m] G = .ok (.int v) G' ∧ Fr G G' ∧ G'.length = G.length := by
  obtain ⟨x, k, xs, h1, h2, h3, h4⟩ := h.ex
  rw [ph_6]
  have hl := h.two
  have e1 : ∀ o, (G.set 1 o)[1]? = some o := fun o => by rw [List.getElem?_set_self (by omega)]
  have hm1 : m < 1073741824 := by omega
  have hm0 := hm.1
  by_cases hx : x < 1000
  · obtain ⟨v, hv, ev⟩ := wide_ok N (G.set 1 (.lst [.int x, .ref 0, .int (k + 1)])) xs (k + 1) (by rw [set_lt (by omega)]; exact h2) (by omega)
    refine ⟨v % m, G.set 1 (.lst [.int (v / m), .ref 0, .int (k + 1)]), Int.emod_nonneg _ (by omega), Int.emod_lt_of_pos _ (by omega), ?_, ⟨⟨v / m, k + 1, xs, e1 _, by rw [set_lt (by omega)]; exact h2, Int.ediv_nonneg hv (by omega), by omega⟩, by simp, fun i hi _ => by rw [set_lt (by omega)]⟩, by simp⟩
    simp [b6, x_sSeq, g_ix_lst h1, hx, g_setix_lst h1, g_ix_lst (e1 _), ev, g_setix_lst (e1 _), hm0, hm1, ixN]
  · refine ⟨x % m, G.set 1 (.lst [.int (x / m), .ref 0, .int k]), Int.emod_nonneg _ (by omega), Int.emod_lt_of_pos _ (by omega), ?_, ⟨⟨x / m, k, xs, e1 _, by rw [set_lt (by omega)]; exact h2, Int.ediv_nonneg h3 (by omega), by omega⟩, by simp, fun i hi _ => by rw [set_lt (by omega)]⟩, by simp⟩
    simp [b6, x_sSeq, g_ix_lst h1, hx, hm0, hm1, g_setix_lst h1, ixN]
theorem pool_ok (N : Nat) (ns : List Int) : ∃ G, ph (N + 1) 7 [.scr (ns.map D.int)] [] = .ok (.ref 1) G ∧ Ok G ∧ G.length = 2 := by
  refine ⟨[.lst (ns.map D.int), .lst [.int 0, .ref 0, .int (-1)]], ?_, ⟨0, -1, ns, rfl, rfl, by omega, by omega⟩, rfl⟩
  rw [ph_7]
  simp [b7, x_sSeq]
/-- [..][take(pool, n)] -/
theorem pick_ok (N : Nat) (G : GH) (h : Ok G) {A : FA} {ds : List D} {ρ : Rho} {i : Nat} {m : Int} (hi : ∀ G, fV i ρ G = .ok (.ref 1) G) (hA : ∀ G, A ρ G = .ok ds G) (hm : m = ds.length) (h0 : 0 < ds.length ∧ ds.length < 1000) :
    ∃ d G', d ∈ ds ∧ Fr G G' ∧ f2 gIx (fLst A) (fCal 2 (ph (N + 2) 6) [] (fAc (fV i) (fAc (fC (.int m)) fA0))) ρ G = .ok d G' := by
  obtain ⟨v, G', h1, h2, h3, h4, _⟩ := take_ok N (G ++ [.lst ds]) m (by omega) (h.app _).ok
  obtain ⟨d, hd, hmem⟩ := atI_mem (xs := ds) (i := v) h1 (by omega)
  refine ⟨d, G', hmem, (h.app _).trans h4, ?_⟩
  have e := h4.get h.two (last (G := G) (o := .lst ds))
  have hlen : ds.length ≤ 16777216 := by omega
  simp [hA, hi, hlen, h3, g_ix_lst e, hd]
/-- [..][v % m] or the like -/
theorem pick_at {G : GH} (h : Ok G) {A : FA} {ds : List D} {f : FE} {ρ : Rho} {v : Int} (hA : ∀ G, A ρ G = .ok ds G) (hf : ∀ G, f ρ G = .ok (.int v) G) (h0 : ds.length < 1000) (hv : 0 ≤ v ∧ v < ds.length) :
    ∃ d G', d ∈ ds ∧ Fr G G' ∧ f2 gIx (fLst A) f ρ G = .ok d G' := by
  obtain ⟨d, hd, hmem⟩ := atI_mem (xs := ds) (i := v) hv.1 hv.2
  refine ⟨d, G ++ [.lst ds], hmem, h.app _, ?_⟩
  have hlen : ds.length ≤ 16777216 := by omega
  simp [hA, hf, hlen, g_ix_lst (last (G := G) (o := .lst ds)), hd]
/-- names[take(pool, len(names))] -/
theorem name_ok (N : Nat) (G : GH) (h : Ok G) {ss : List Str} {r : Nat} {ρ : Rho} {i j : Nat} (hi : ∀ G, fV i ρ G = .ok (.ref 1) G) (hj : ∀ G, fV j ρ G = .ok (.ref r) G) (hr : 2 ≤ r) (hg : G[r]? = some (.lst (ss.map D.str))) (h0 : 0 < ss.length ∧ ss.length < 1000) :
    ∃ s G', s ∈ ss ∧ Fr G G' ∧ f2 gIx (fV j) (fCal 2 (ph (N + 2) 6) [] (fAc (fV i) (fAc (fCall gLen (fAc (fV j) fA0)) fA0))) ρ G = .ok (.str s) G' := by
  obtain ⟨v, G', h1, h2, h3, h4, _⟩ := take_ok N G ss.length (by omega) h
  obtain ⟨d, hd, hmem⟩ := atI_mem (xs := ss.map D.str) (i := v) h1 (by simpa using h2)
  obtain ⟨s, hs, rfl⟩ := List.mem_map.mp hmem
  refine ⟨s, G', hs, h4, ?_⟩
  simp [hi, hj, g_len_lst hg, h3, g_ix_lst (h4.get hr hg), hd]
end Wk10
end
section
namespace Wk10
open PySem PySem.Spec PyProof.Rows L2 F2
/-! ### names, kinds, labels -/
theorem names_ok (N : Nat) (G : GH) (h : Ok G) : ∃ (r : Nat) (ss : List Str) (G' : GH), ph (N + 3) 8 [.ref 1] G = .ok (.ref r) G' ∧ Fr G G' ∧ G.length ≤ r ∧ G'[r]? = some (.lst (ss.map D.str)) ∧ 1 ≤ ss.length ∧ ss.length ≤ 3 ∧ ss.Nodup := by
  rw [ph_8]
  simp only [x_runB, b8, List.map_cons, List.map_nil, List.length_cons, List.length_nil]
  have hr : ([some (D.ref 1)] ++ List.replicate (3 - (0 + 1)) none : Rho) = [some (.ref 1), none, none] := rfl
  rw [hr]
  obtain ⟨d1, G1, m1, f1, e1⟩ := pick_ok N G h (A := fAc (fC (.str "T")) (fAc (fC (.str "Ta")) (fAc (fC (.str "Talk")) (fAc (fC (.str "X9")) (fAc (fC (.str "Calc")) (fAc (fC (.str "B")) (fA0))))))) (ds := [.str "T", .str "Ta", .str "Talk", .str "X9", .str "Calc", .str "B"]) (ρ := [some (.ref 1), none, none]) (i := 0) (m := 6) (fun _ => rfl) (fun _ => rfl) rfl (by simp)
  have s1 : sSet (.nm 1) (f2 gIx (fLst (fAc (fC (.str "T")) (fAc (fC (.str "Ta")) (fAc (fC (.str "Talk")) (fAc (fC (.str "X9")) (fAc (fC (.str "Calc")) (fAc (fC (.str "B")) (fA0)))))))) (fCal 2 (ph (N + 2) 6) [] (fAc (fV 0) (fAc (fC (.int 6)) (fA0))))) [some (.ref 1), none, none] G = .nx [some (.ref 1), some d1, none] G1 := by
    rw [x_sSet, e1]; rfl
  rw [seq_nx s1]
  obtain ⟨d2, G2, m2, f2', e2⟩ := pick_ok N G1 f1.ok (A := fAc (fC (.str "U")) (fAc (fC (.str "Tb")) (fAc (fC (.str "Tal")) (fAc (fC (.str "X8")) (fAc (fC (.str "Dial")) (fAc (fC (.str "A")) (fA0))))))) (ds := [.str "U", .str "Tb", .str "Tal", .str "X8", .str "Dial", .str "A"]) (ρ := [some (.ref 1), some d1, none]) (i := 0) (m := 6) (fun _ => rfl) (fun _ => rfl) rfl (by simp)
  have s2 : sSet (.nm 2) (f2 gIx (fLst (fAc (fC (.str "U")) (fAc (fC (.str "Tb")) (fAc (fC (.str "Tal")) (fAc (fC (.str "X8")) (fAc (fC (.str "Dial")) (fAc (fC (.str "A")) (fA0)))))))) (fCal 2 (ph (N + 2) 6) [] (fAc (fV 0) (fAc (fC (.int 6)) (fA0))))) [some (.ref 1), some d1, none] G1 = .nx [some (.ref 1), some d1, some d2] G2 := by
    rw [x_sSet, e2]; rfl
  rw [seq_nx s2]
  obtain ⟨v, G3, h1, h2, h3, h4, h5⟩ := take_ok N (G2 ++ [.lst [d1, d2, .str "Zz"]]) 3 (by omega) (f2'.ok.app _).ok
  have e3 := h4.get f2'.ok.two (last (G := G2) (o := .lst [d1, d2, .str "Zz"]))
  have nd : ∃ a b : String, d1 = .str a ∧ d2 = .str b ∧ [a, b, "Zz"].Nodup := by
    simp only [List.mem_cons, List.not_mem_nil, or_false] at m1 m2
    rcases m1 with rfl | rfl | rfl | rfl | rfl | rfl <;> rcases m2 with rfl | rfl | rfl | rfl | rfl | rfl <;> exact ⟨_, _, rfl, rfl, by decide⟩
  obtain ⟨a, b, rfl, rfl, hnd⟩ := nd
  have fin : Fr G (G3 ++ [.lst (cutG [.str a, .str b, .str "Zz"] none (some (1 + v)))]) := ((f1.trans f2').trans ((f2'.ok.app _).trans h4)).trans (h4.ok.app _)
  have hcut : ∃ n : Nat, 1 ≤ n ∧ n ≤ 3 ∧ cutG [D.str a, .str b, .str "Zz"] none (some (1 + v)) = (([a, b, "Zz"].take n).map fun s : String => (Str.ofString s)).map D.str := by
    have hv : v = 0 ∨ v = 1 ∨ v = 2 := by omega
    rcases hv with rfl | rfl | rfl
    · exact ⟨1, by omega, by omega, rfl⟩
    · exact ⟨2, by omega, by omega, rfl⟩
    · exact ⟨3, by omega, by omega, rfl⟩
  obtain ⟨n, n1, n2, hcut⟩ := hcut
  have len3 := (f1.trans (f2'.trans ((f2'.ok.app _).trans h4))).len
  refine ⟨G3.length, ([a, b, "Zz"].take n).map (fun s : String => (Str.ofString s)), _, ?_, fin, len3, by rw [← hcut]; exact last, by simp; omega, by simp; omega, ?_⟩
  · simp [x_sSeq, h3, g_sl_lst e3]
  · have hnd2 : ([a, b, "Zz"].take n).Nodup := (List.take_sublist _ _).nodup hnd
    exact List.pairwise_map.mpr (hnd2.imp fun hne e => hne (ofString_inj.mp e))
/-- a payload's kind -/
def Kd (ss : List Str) (d : D) : Prop := d = .non ∨ d = .str "int" ∨ d = .str "bool" ∨ ∃ (k : String) (s : Str), (k = "name" ∨ k = "dual") ∧ s ∈ ss ∧ d = .tup [.str k, .str s]
theorem mod2 {v : Int} (h : 0 ≤ v) : 0 ≤ v % 2 ∧ v % 2 < 2 := ⟨Int.emod_nonneg _ (by omega), Int.emod_lt_of_pos _ (by omega)⟩
theorem refk_ok {N : Nat} {G : GH} (h : Ok G) {ss : List Str} {r : Nat} {ρ : Rho} {i j c : Nat} {v : Int} (hv : 0 ≤ v) (hi : ∀ G, fV i ρ G = .ok (.ref 1) G) (hj : ∀ G, fV j ρ G = .ok (.ref r) G) (hc : ∀ G, fV c ρ G = .ok (.int v) G) (hr : 2 ≤ r) (hg : G[r]? = some (.lst (ss.map D.str))) (h0 : 0 < ss.length ∧ ss.length < 1000) :
    ∃ (k : String) (s : Str) (G' : GH), (k = "name" ∨ k = "dual") ∧ s ∈ ss ∧ Fr G G' ∧ fTup (fAc (f2 gIx (fLst (fAc (fC (.str "name")) (fAc (fC (.str "dual")) (fA0)))) (f2 gMod (fV c) (fC (.int 2)))) (fAc (f2 gIx (fV j) (fCal 2 (ph (N + 2) 6) [] (fAc (fV i) (fAc (fCall gLen (fAc (fV j) (fA0))) (fA0))))) (fA0))) ρ G = .ok (.tup [.str k, .str s]) G' := by
  obtain ⟨d, G1, m1, f1, e1⟩ := pick_at h (A := fAc (fC (.str "name")) (fAc (fC (.str "dual")) (fA0))) (ds := [.str "name", .str "dual"]) (f := f2 gMod (fV c) (fC (.int 2))) (ρ := ρ) (v := v % 2) (fun _ => rfl) (fun G => by simp [hc]) (by simp) (by have := mod2 hv; simpa using this)
  obtain ⟨s, G2, hs, f2', e2⟩ := name_ok N G1 f1.ok (ss := ss) (r := r) (ρ := ρ) hi hj hr (f1.get hr hg) h0
  have hk : ∃ k : String, (k = "name" ∨ k = "dual") ∧ d = .str k := by
    simp only [List.mem_cons, List.not_mem_nil, or_false] at m1
    rcases m1 with rfl | rfl
    · exact ⟨_, .inl rfl, rfl⟩
    · exact ⟨_, .inr rfl, rfl⟩
  obtain ⟨k, hk, rfl⟩ := hk
  refine ⟨k, s, G2, hk, hs, f1.trans f2', ?_⟩
  rw [x_fTup, x_fAc, e1, R.bind_ok, x_fAc, e2]
  rfl
theorem kind_ok (N : Nat) (G : GH) (h : Ok G) {ss : List Str} {r : Nat} (hr : 2 ≤ r) (hg : G[r]? = some (.lst (ss.map D.str))) (h0 : 0 < ss.length ∧ ss.length < 1000) : ∃ d G', Kd ss d ∧ Fr G G' ∧ ph (N + 3) 9 [.ref 1, .ref r] G = .ok d G' := by
  rw [ph_9]
  obtain ⟨v, G1, h1, h2, h3, h4, h5⟩ := take_ok N G 6 (by omega) h
  simp only [x_runB, b9, List.map_cons, List.map_nil, List.length_cons, List.length_nil]
  have hrho : ([some (D.ref 1), some (.ref r)] ++ List.replicate (3 - (0 + 1 + 1)) none : Rho) = [some (.ref 1), some (.ref r), none] := rfl
  rw [hrho]
  have s1 : sSet (.nm 2) (fCal 2 (ph (N + 2) 6) [] (fAc (fV 0) (fAc (fC (.int 6)) (fA0)))) [some (.ref 1), some (.ref r), none] G = .nx [some (.ref 1), some (.ref r), some (.int v)] G1 := by
    simp [h3]
  rw [seq_nx s1]
  by_cases hv : v < 3
  · obtain ⟨d, G2, m1, f2', e2⟩ := pick_at h4.ok (A := fAc (fC .non) (fAc (fC (.str "int")) (fAc (fC (.str "bool")) (fA0)))) (ds := [.non, .str "int", .str "bool"]) (f := fV 2) (ρ := [some (.ref 1), some (.ref r), some (.int v)]) (v := v) (fun _ => rfl) (fun _ => rfl) (by simp) ⟨h1, by simpa using hv⟩
    refine ⟨d, G2, ?_, h4.trans f2', ?_⟩
    · simp only [List.mem_cons, List.not_mem_nil, or_false] at m1
      rcases m1 with rfl | rfl | rfl
      · exact .inl rfl
      · exact .inr (.inl rfl)
      · exact .inr (.inr (.inl rfl))
    · have s2 : sIf (fB (f2 gLt (fV 2) (fC (.int 3)))) (sSeq (sRet (f2 gIx (fLst (fAc (fC .non) (fAc (fC (.str "int")) (fAc (fC (.str "bool")) (fA0))))) (fV 2))) (sNil)) (sNil) [some (.ref 1), some (.ref r), some (.int v)] G1 = .rt d G2 := by
        rw [x_sIf]
        simp only [x_fB, x_f2, x_fV2, x_fC, R.bind_ok, g_lt_int, hv, decide_true, R.toS_ok, if_true]
        rw [x_sSeq, x_sRet, e2]; rfl
      rw [x_sSeq, s2]
  · obtain ⟨k, s, G2, hk, hs, f2', e2⟩ := refk_ok (N := N) h4.ok (ss := ss) (r := r) (ρ := [some (.ref 1), some (.ref r), some (.int v)]) (i := 0) (j := 1) (c := 2) (v := v) h1 (fun _ => rfl) (fun _ => rfl) (fun _ => rfl) hr (h4.get hr hg) h0
    refine ⟨_, G2, .inr (.inr (.inr ⟨k, s, hk, hs, rfl⟩)), h4.trans f2', ?_⟩
    have s2 : sIf (fB (f2 gLt (fV 2) (fC (.int 3)))) (sSeq (sRet (f2 gIx (fLst (fAc (fC .non) (fAc (fC (.str "int")) (fAc (fC (.str "bool")) (fA0))))) (fV 2))) (sNil)) (sNil) [some (.ref 1), some (.ref r), some (.int v)] G1 = .nx [some (.ref 1), some (.ref r), some (.int v)] G1 := by
      simp [hv]
    rw [seq_nx s2, x_sSeq, x_sRet, e2]
    rfl
def labs : List String := ["go", "goo", "stop", "a", "b", "at"]
theorem label_ok (N : Nat) (G : GH) (h : Ok G) : ∃ (l : String) (G' : GH), l ∈ labs ∧ Fr G G' ∧ ph (N + 3) 10 [.ref 1] G = .ok (.str l) G' := by
  rw [ph_10]
  obtain ⟨d, G1, m1, f1, e1⟩ := pick_ok N G h (A := fAc (fC (.str "go")) (fAc (fC (.str "goo")) (fAc (fC (.str "stop")) (fAc (fC (.str "a")) (fAc (fC (.str "b")) (fAc (fC (.str "at")) (fA0))))))) (ds := [.str "go", .str "goo", .str "stop", .str "a", .str "b", .str "at"]) (ρ := [some (.ref 1)]) (i := 0) (m := 6) (fun _ => rfl) (fun _ => rfl) rfl (by simp)
  have hl : ∃ l : String, l ∈ labs ∧ d = .str l := by
    simp only [List.mem_cons, List.not_mem_nil, or_false] at m1
    rcases m1 with rfl | rfl | rfl | rfl | rfl | rfl <;> exact ⟨_, by decide, rfl⟩
  obtain ⟨l, hl, rfl⟩ := hl
  refine ⟨l, G1, hl, f1, ?_⟩
  simp only [x_runB, b10, List.map_cons, List.map_nil, List.length_cons, List.length_nil]
  have hrho : ([some (D.ref 1)] ++ List.replicate (1 - (0 + 1)) none : Rho) = [some (.ref 1)] := rfl
  rw [hrho, x_sSeq, x_sRet, e1]
  rfl
end Wk10
end
section
namespace Wk10
open PySem PySem.Spec PyProof.Rows L2 F2
/-! ### talks -/
/-- a talk of at most n levels over the names ss -/
def Tk (ss : List Str) : Nat → D → Prop
  | 0, d => d = .tup [.str "end"] ∨ ∃ (k : String) (s : Str), (k = "name" ∨ k = "dual") ∧ s ∈ ss ∧ d = .tup [.str k, .str s]
  | n + 1, d => d = .tup [.str "end"] ∨ (∃ (k : String) (s : Str), (k = "name" ∨ k = "dual") ∧ s ∈ ss ∧ d = .tup [.str k, .str s]) ∨
    ∃ (k : String) (rows : List D), (k = "say" ∨ k = "hear") ∧ d = .tup [.str k, .tup rows] ∧ rows.length ≤ 3 ∧ ∀ r ∈ rows, ∃ (l : String) (p t : D), l ∈ labs ∧ Kd ss p ∧ Tk ss n t ∧ r = .tup [.str l, p, t]
/-- not a name -/
def Hd (d : D) : Prop := d = .tup [.str "end"] ∨ ∃ (k : String) (rows : List D), (k = "say" ∨ k = "hear") ∧ d = .tup [.str k, .tup rows]
theorem Tk.end_ {ss : List Str} : ∀ n, Tk ss n (.tup [.str "end"])
  | 0 => .inl rfl
  | _ + 1 => .inl rfl
theorem Tk.ref {ss : List Str} {k : String} {s : Str} (h1 : k = "name" ∨ k = "dual") (h2 : s ∈ ss) : ∀ n, Tk ss n (.tup [.str k, .str s])
  | 0 => .inr ⟨k, s, h1, h2, rfl⟩
  | _ + 1 => .inr (.inl ⟨k, s, h1, h2, rfl⟩)
theorem pys_strs {G : GH} {n : Nat} : ∀ {xs : List D}, (∀ x ∈ xs, ∃ s : Str, x = .str s) → ∃ ps, pys (py G (n + 1)) xs = some ps
  | [], _ => ⟨[], rfl⟩
  | x :: xs, h => by
    obtain ⟨s, rfl⟩ := h x (List.mem_cons_self ..)
    obtain ⟨ps, e⟩ := pys_strs (G := G) (n := n) (xs := xs) fun y hy => h y (List.mem_cons_of_mem _ hy)
    exact ⟨.str s :: ps, by simp only [pys, py, e]⟩
/-- x not in a list of texts: some answer -/
theorem notIn_some {G : GH} {i : Nat} {xs : List D} {s : Str} (h : G[i]? = some (.lst xs)) (hx : ∀ x ∈ xs, ∃ s : Str, x = .str s) : ∃ b, gNotIn (.str s) (.ref i) G = .ok (.bl b) G := by
  obtain ⟨ps, e⟩ := pys_strs (G := G) (n := 63) hx
  unfold gNotIn inB itemsD
  simp only [h, py, e, Option.map_some]
  exact ⟨_, rfl⟩
section
variable {ss : List Str} {r : Nat}
/-- a row's place -/
def RowOk (ss : List Str) (n : Nat) (d : D) : Prop := ∃ (l : String) (p t : D), l ∈ labs ∧ Kd ss p ∧ Tk ss n t ∧ d = .tup [.str l, p, t]
theorem talk_ok (hr : 2 ≤ r) (h0 : 0 < ss.length ∧ ss.length < 1000) : ∀ (n N : Nat) (G : GH), Ok G → G[r]? = some (.lst (ss.map D.str)) → ∃ d G', Tk ss n d ∧ (2 ≤ n → Hd d) ∧ Fr G G' ∧ ph (N + n + 4) 11 [.ref 1, .ref r, .int n] G = .ok d G' := by
  intro n
  induction n with
  | zero =>
    intro N G h hg
    rw [ph_11]
    obtain ⟨v, G1, h1, h2, h3, h4, h5⟩ := take_ok (N + 1) G 8 (by omega) h
    simp only [x_runB, b11, List.map_cons, List.map_nil, List.length_cons, List.length_nil]
    have hrho : ([some (D.ref 1), some (.ref r), some (.int (0 : Nat))] ++ List.replicate (9 - (0 + 1 + 1 + 1)) none : Rho) = [some (.ref 1), some (.ref r), some (.int 0), none, none, none, none, none, none] := rfl
    rw [hrho]
    have s1 : sSet (.nm 3) (fCal 2 (ph (N + 0 + 3) 6) [] (fAc (fV 0) (fAc (fC (.int 8)) (fA0)))) [some (.ref 1), some (.ref r), some (.int 0), none, none, none, none, none, none] G = .nx [some (.ref 1), some (.ref r), some (.int 0), some (.int v), none, none, none, none, none] G1 := by
      have e : N + 0 + 3 = N + 1 + 2 := by omega
      rw [e]; simp [h3]
    rw [seq_nx s1]
    by_cases v0 : v = 0
    · subst v0
      exact ⟨_, G1, Tk.end_ 0, fun z => absurd z (by omega), h4, by simp [x_sSeq]⟩
    · have s2 : sIf (fB (f2 gEq (fV 3) (fC (.int 0)))) (sSeq (sRet (fTup (fAc (fC (.str "end")) (fA0)))) (sNil)) (sNil) [some (.ref 1), some (.ref r), some (.int 0), some (.int v), none, none, none, none, none] G1 = .nx [some (.ref 1), some (.ref r), some (.int 0), some (.int v), none, none, none, none, none] G1 := by
        simp [v0]
      rw [seq_nx s2]
      by_cases v3 : v < 3
      · obtain ⟨k, s, G2, hk, hs, f2', e2⟩ := refk_ok (N := N + 0 + 1) h4.ok (ss := ss) (r := r) (ρ := [some (.ref 1), some (.ref r), some (.int 0), some (.int v), none, none, none, none, none]) (i := 0) (j := 1) (c := 3) (v := v) h1 (fun _ => rfl) (fun _ => rfl) (fun _ => rfl) hr (h4.get hr hg) h0
        refine ⟨_, G2, Tk.ref hk hs 0, fun z => absurd z (by omega), h4.trans f2', ?_⟩
        rw [x_sSeq, x_sIf]
        simp only [x_fAndT, x_fB, x_f2, x_fV3, x_fV2, x_fC, R.bind_ok, g_lt_int, v3, decide_true, R.toS_ok, if_true]
        simp only [show decide ((0 : Int) < 2) = true from rfl, R.bind_ok, R.toS_ok, if_true]
        rw [x_sSeq, x_sRet, e2]
        rfl
      · -- depth 0: a name, or the end
        obtain ⟨dk, G2, m2, f2', e2⟩ := pick_at h4.ok (A := fAc (fC (.str "name")) (fAc (fC (.str "dual")) (fAc (fC (.str "end")) (fA0)))) (ds := [.str "name", .str "dual", .str "end"]) (f := f2 gMod (fV 3) (fC (.int 3))) (ρ := [some (.ref 1), some (.ref r), some (.int 0), some (.int v), none, none, none, none, none]) (v := v % 3) (fun _ => rfl) (fun G => by simp) (by simp) ⟨Int.emod_nonneg _ (by omega), by have := Int.emod_lt_of_pos v (show (0 : Int) < 3 by omega); simpa using this⟩
        have hdk : dk = ([.str "name", .str "dual", .str "end"] : List D).getD (v % 3).toNat .non := by
          have e2' := e2
          simp only [x_f2, x_fLst, x_fAc, x_fC, x_fA0, R.bind_ok, x_fV3, List.length_cons, List.length_nil] at e2'
          have hm0 : 0 ≤ v % 3 := Int.emod_nonneg _ (by omega)
          have hm1 : v % 3 < 3 := Int.emod_lt_of_pos v (by omega)
          simp [g_ix_lst (last (G := G1) (o := .lst [.str "name", .str "dual", .str "end"])), atI_nat (xs := [D.str "name", .str "dual", .str "end"]) hm0 (by simpa using hm1)] at e2'
          have h3' : (v % 3).toNat < 3 := by omega
          have : (v % 3).toNat = 0 ∨ (v % 3).toNat = 1 ∨ (v % 3).toNat = 2 := by omega
          rcases this with e | e | e <;> rw [e] at e2' ⊢ <;> simp at e2' ⊢ <;> exact e2'.1.symm
        obtain ⟨s, G3, hs, f3', e3⟩ := name_ok (N + 0 + 1) G2 f2'.ok (ss := ss) (r := r) (ρ := [some (.ref 1), some (.ref r), some (.int 0), some (.int v), none, none, none, none, none]) (i := 0) (j := 1) (fun _ => rfl) (fun _ => rfl) hr (f2'.get hr (h4.get hr hg)) h0
        have hout : ∃ d, Tk ss 0 d ∧ sRet (f2 gAdd (fTup (fAc (f2 gIx (fLst (fAc (fC (.str "name")) (fAc (fC (.str "dual")) (fAc (fC (.str "end")) (fA0))))) (f2 gMod (fV 3) (fC (.int 3)))) (fA0))) (fSl (fTup (fAc (f2 gIx (fV 1) (fCal 2 (ph (N + 0 + 1 + 2) 6) [] (fAc (fV 0) (fAc (fCall gLen (fAc (fV 1) (fA0))) (fA0))))) (fA0))) (fO0) (fO1 (fCall gInt (fAc (f2 gLt (f2 gMod (fV 3) (fC (.int 3))) (fC (.int 2))) (fA0)))))) [some (.ref 1), some (.ref r), some (.int 0), some (.int v), none, none, none, none, none] G1 = .rt d G3 := by
          have hv3 : v % 3 = 0 ∨ v % 3 = 1 ∨ v % 3 = 2 := by omega
          have run : sRet (f2 gAdd (fTup (fAc (f2 gIx (fLst (fAc (fC (.str "name")) (fAc (fC (.str "dual")) (fAc (fC (.str "end")) (fA0))))) (f2 gMod (fV 3) (fC (.int 3)))) (fA0))) (fSl (fTup (fAc (f2 gIx (fV 1) (fCal 2 (ph (N + 0 + 1 + 2) 6) [] (fAc (fV 0) (fAc (fCall gLen (fAc (fV 1) (fA0))) (fA0))))) (fA0))) (fO0) (fO1 (fCall gInt (fAc (f2 gLt (f2 gMod (fV 3) (fC (.int 3))) (fC (.int 2))) (fA0)))))) [some (.ref 1), some (.ref r), some (.int 0), some (.int v), none, none, none, none, none] G1 = .rt (.tup (dk :: cutG [.str s] none (some (if v % 3 < 2 then 1 else 0)))) G3 := by
            have hsz : ∀ o, 1 + (cutG [D.str s] none o).length ≤ 16777216 := fun o => by
              have : (cutG [D.str s] none o).length ≤ 1 := by unfold cutG; simp; omega
              omega
            rw [x_sRet, x_f2, x_fTup, x_fAc, e2, R.bind_ok, x_fA0, R.bind_ok, R.bind_ok]
            simp only [List.length_cons, List.length_nil, show (0 + 1 ≤ 16777216) = True from by simp, if_true, R.bind_ok]
            rw [x_fSl, x_fTup, x_fAc, e3]
            simp [gSl]
            rw [if_pos (hsz _)]
            rfl
          rw [run]
          rcases hv3 with e | e | e
          · rw [e] at hdk ⊢
            exact ⟨_, Tk.ref (.inl rfl) hs 0, by rw [hdk]; rfl⟩
          · rw [e] at hdk ⊢
            exact ⟨_, Tk.ref (.inr rfl) hs 0, by rw [hdk]; rfl⟩
          · rw [e] at hdk ⊢
            exact ⟨_, Tk.end_ 0, by rw [hdk]; rfl⟩
        obtain ⟨d, hd, ed⟩ := hout
        refine ⟨d, G3, hd, fun z => absurd z (by omega), (h4.trans f2').trans f3', ?_⟩
        have s3 : sIf (fAndT (fB (f2 gLt (fV 3) (fC (.int 3)))) (fB (f2 gLt (fV 2) (fC (.int 2))))) (sSeq (sRet (fTup (fAc (f2 gIx (fLst (fAc (fC (.str "name")) (fAc (fC (.str "dual")) (fA0)))) (f2 gMod (fV 3) (fC (.int 2)))) (fAc (f2 gIx (fV 1) (fCal 2 (ph (N + 0 + 3) 6) [] (fAc (fV 0) (fAc (fCall gLen (fAc (fV 1) (fA0))) (fA0))))) (fA0))))) (sNil)) (sNil) [some (.ref 1), some (.ref r), some (.int 0), some (.int v), none, none, none, none, none] G1 = .nx [some (.ref 1), some (.ref r), some (.int 0), some (.int v), none, none, none, none, none] G1 := by
          simp [v3]
        rw [seq_nx s3, x_sSeq, x_sIf]
        simp only [x_fB, x_f2, x_fV2, x_fC, R.bind_ok, g_eq_int, decide_true, R.toS_ok, if_true]
        rw [x_sSeq]
        have e' : N + 0 + 3 = N + 0 + 1 + 2 := by omega
        rw [e', ed]
  | succ n ih =>
    intro N G h hg
    show ∃ d G', Tk ss (n + 1) d ∧ (2 ≤ n + 1 → Hd d) ∧ Fr G G' ∧ ph (N + n + 4 + 1) 11 [.ref 1, .ref r, .int ((n + 1 : Nat) : Int)] G = .ok d G'
    rw [ph_11]
    obtain ⟨v, G1, h1, h2, h3, h4, h5⟩ := take_ok (N + n + 2) G 8 (by omega) h
    simp only [x_runB, b11, List.map_cons, List.map_nil, List.length_cons, List.length_nil]
    have hrho : ([some (D.ref 1), some (.ref r), some (.int ((n + 1 : Nat) : Int))] ++ List.replicate (9 - (0 + 1 + 1 + 1)) none : Rho) = [some (.ref 1), some (.ref r), some (.int ((n + 1 : Nat) : Int)), none, none, none, none, none, none] := rfl
    rw [hrho]
    generalize hdp : (((n + 1 : Nat) : Int)) = dp
    have s1 : sSet (.nm 3) (fCal 2 (ph (N + n + 4) 6) [] (fAc (fV 0) (fAc (fC (.int 8)) (fA0)))) [some (.ref 1), some (.ref r), some (.int dp), none, none, none, none, none, none] G = .nx [some (.ref 1), some (.ref r), some (.int dp), some (.int v), none, none, none, none, none] G1 := by
      simp [h3]
    rw [seq_nx s1]
    have hg1 := h4.get hr hg
    by_cases v0 : v = 0
    · subst v0
      exact ⟨_, G1, Tk.end_ _, fun _ => .inl rfl, h4, by simp [x_sSeq]⟩
    · have s2 : sIf (fB (f2 gEq (fV 3) (fC (.int 0)))) (sSeq (sRet (fTup (fAc (fC (.str "end")) (fA0)))) (sNil)) (sNil) [some (.ref 1), some (.ref r), some (.int dp), some (.int v), none, none, none, none, none] G1 = .nx [some (.ref 1), some (.ref r), some (.int dp), some (.int v), none, none, none, none, none] G1 := by
        simp [v0]
      rw [seq_nx s2]
      by_cases v3 : v < 3 ∧ dp < 2
      · obtain ⟨v3, hd2⟩ := v3
        obtain ⟨k, s, G2, hk, hs, f2', e2⟩ := refk_ok (N := N + n + 2) h4.ok (ss := ss) (r := r) (ρ := [some (.ref 1), some (.ref r), some (.int dp), some (.int v), none, none, none, none, none]) (i := 0) (j := 1) (c := 3) (v := v) h1 (fun _ => rfl) (fun _ => rfl) (fun _ => rfl) hr hg1 h0
        refine ⟨_, G2, Tk.ref hk hs _, fun z => absurd z (by omega), h4.trans f2', ?_⟩
        rw [x_sSeq, x_sIf]
        simp only [x_fAndT, x_fB, x_f2, x_fV3, x_fV2, x_fC, R.bind_ok, g_lt_int, v3, hd2, decide_true, R.toS_ok, if_true]
        rw [x_sSeq, x_sRet, e2]
        rfl
      · have s3 : ∀ (a b : FS), sIf (fAndT (fB (f2 gLt (fV 3) (fC (.int 3)))) (fB (f2 gLt (fV 2) (fC (.int 2))))) a b [some (.ref 1), some (.ref r), some (.int dp), some (.int v), none, none, none, none, none] G1 = b [some (.ref 1), some (.ref r), some (.int dp), some (.int v), none, none, none, none, none] G1 := by
          intro a b
          by_cases z : v < 3
          · have z2 : ¬ dp < 2 := fun w => v3 ⟨z, w⟩
            simp [z, z2]
          · simp [z]
        rw [x_sSeq, s3, x_sNil]
        dsimp only
        have s4 : ∀ (a b : FS), sIf (fB (f2 gEq (fV 2) (fC (.int 0)))) a b [some (.ref 1), some (.ref r), some (.int dp), some (.int v), none, none, none, none, none] G1 = b [some (.ref 1), some (.ref r), some (.int dp), some (.int v), none, none, none, none, none] G1 := by
          intro a b
          have z : ¬ dp = 0 := by omega
          simp [z]
        rw [x_sSeq, s4, x_sNil]
        dsimp only
        have s5 : sSet (.nm 4) (fLst (fA0)) [some (.ref 1), some (.ref r), some (.int dp), some (.int v), none, none, none, none, none] G1 = .nx [some (.ref 1), some (.ref r), some (.int dp), some (.int v), some (.ref G1.length), none, none, none, none] (G1 ++ [.lst []]) := by
          simp
        rw [seq_nx s5]
        have h0l := h4.ok.two
        generalize hL : G1.length = L at *
        have fA := h4.ok.app [.lst []]
        have gL : (G1 ++ [GO.lst []])[L]? = some (.lst []) := by rw [← hL]; exact last
        obtain ⟨w, G3, w1, w2, w3, w4, w5⟩ := take_ok (N + n + 2) (G1 ++ [.lst []]) 3 (by omega) fA.ok
        -- the loop
        have hloop : (∀ (x : D) (q5 q6 q7 q8 : Option D) (rows : List D) (G : GH), Fr G1 G → G[L]? = some (.lst rows) → (∀ d ∈ rows, RowOk ss n d) → rows.length < 3 → ∃ q6' q7' rows' G', Fr G1 G' ∧ G'[L]? = some (.lst rows') ∧ (∀ d ∈ rows', RowOk ss n d) ∧ rows'.length ≤ rows.length + 1 ∧
              b11_1 (ph (N + n + 4)) [some (.ref 1), some (.ref r), some (.int dp), some (.int v), some (.ref L), some x, q6, q7, q8] G = .nx [some (.ref 1), some (.ref r), some (.int dp), some (.int v), some (.ref L), some x, q6', q7', q8] G') →
            ∃ q5 q6 q7 q8 rows G', Fr G1 G' ∧ G'[L]? = some (.lst rows) ∧ (∀ d ∈ rows, RowOk ss n d) ∧ rows.length ≤ 3 ∧
              sForR 1 (fAc (f2 gAdd (fC (.int 1)) (fCal 2 (ph (N + n + 4) 6) [] (fAc (fV 0) (fAc (fC (.int 3)) (fA0))))) (fA0)) (.nm 5) (b11_1 (ph (N + n + 4))) [some (.ref 1), some (.ref r), some (.int dp), some (.int v), some (.ref L), none, none, none, none] (G1 ++ [.lst []]) = .nx [some (.ref 1), some (.ref r), some (.int dp), some (.int v), some (.ref L), q5, q6, q7, q8] G' := by
          intro hbd
          have hx : rngA 1 [.int (1 + w)] = some (rngD 0 (1 + w).toNat) := by
            simp only [rngA]
            rw [if_pos (by omega)]
          have hl : (rngD 0 (1 + w).toNat).length ≤ 3 := by simp [rngD]; omega
          obtain ⟨ρ', G', e1, q5, q6, q7, q8, rows, e2, e3, e4, e5, e6⟩ := forIt_inv (p := .nm 5) (body := b11_1 (ph (N + n + 4))) (ck := none) (all := rngD 0 (1 + w).toNat) (fun xs ρ G => ∃ q5 q6 q7 q8 rows, ρ = [some (.ref 1), some (.ref r), some (.int dp), some (.int v), some (.ref L), q5, q6, q7, q8] ∧ Fr G1 G ∧ G[L]? = some (.lst rows) ∧ (∀ d ∈ rows, RowOk ss n d) ∧ rows.length + xs.length ≤ 3)
            (fun _ _ _ => chkL_none) (fun x rs ρ G ⟨q5, q6, q7, q8, rows, e1, e2, e3, e4, e5⟩ => by
              subst e1
              obtain ⟨q6', q7', rows', G', a1, a2, a3, a4, a5⟩ := hbd x q5 q6 q7 q8 rows G e2 e3 e4 (by simp at e5; omega)
              exact ⟨chkL_none, _, by rw [x_setP_nm]; rfl, _, G', .inl a5, _, _, _, _, rows', rfl, a1, a2, a3, by simp at e5; omega⟩)
            (rngD 0 (1 + w).toNat) [some (.ref 1), some (.ref r), some (.int dp), some (.int v), some (.ref L), none, none, none, none] G3 ⟨_, _, _, _, [], rfl, fA.trans w4, w4.get (by omega) gL, by simp, by simpa using hl⟩
          subst e2
          refine ⟨q5, q6, q7, q8, rows, G', e3, e4, e5, by simpa using e6, ?_⟩
          rw [x_sForR]
          simp only [x_fAc, x_f2, x_fC, x_fCal, x_fV0, x_fA0, R.bind_ok, List.append_nil, List.length_cons, List.length_nil, Nat.zero_add, Nat.reduceAdd, if_true, w3, g_add_int, R.toS_ok, hx]
          exact e1
        obtain ⟨q5, q6, q7, q8, rows, G4, a1, a2, a3, a4, a5⟩ := hloop (fun x q5 q6 q7 q8 rows G f3 gr hrow hlen => by
          unfold b11_1
          have lL : L < G.length := (List.getElem?_eq_some_iff.mp gr).1
          obtain ⟨l, Ga, hl, fa, ea⟩ := label_ok (N + n + 1) G f3.ok
          have t1 : sSet (.nm 6) (fCal 1 (ph (N + n + 4) 10) [] (fAc (fV 0) (fA0))) [some (.ref 1), some (.ref r), some (.int dp), some (.int v), some (.ref L), some x, q6, q7, q8] G = .nx [some (.ref 1), some (.ref r), some (.int dp), some (.int v), some (.ref L), some x, some (.str l), q7, q8] Ga := by
            simp [ea]
          rw [seq_nx t1]
          have gra := fa.get (by omega) gr
          -- the labels so far
          obtain ⟨B1, elc⟩ := lcRun_map (p := .nm 8) (te := f2 gIx (fV 8) (fC (.int 0))) (ck := some L) (lk := none) (own := [8]) (xs := rows) (ρ := [some (.ref 1), some (.ref r), some (.int dp), some (.int v), some (.ref L), some x, some (.str l), q7, q8]) (A := Ga) (f := fun d => match d with | .tup (a :: _) => a | d => d)
            (fun m hm => by cases hm; exact gra) (by omega) (fun d hd => by
              obtain ⟨l', p, t, _, _, _, rfl⟩ := hrow d hd
              exact ⟨_, x_setP_nm _ _ _, fun acc B => ⟨B, by simp [wipeD]⟩⟩)
          have glc : (Ga ++ GO.lst (rows.map fun d => match d with | .tup (a :: _) => a | d => d) :: B1)[Ga.length]? = some (.lst (rows.map fun d => match d with | .tup (a :: _) => a | d => d)) := by simp
          obtain ⟨b, eb⟩ := notIn_some (s := Str.ofString l) glc (fun z hz => by
            obtain ⟨d, hd, rfl⟩ := List.mem_map.mp hz
            obtain ⟨l', p, t, _, _, _, rfl⟩ := hrow d hd
            exact ⟨_, rfl⟩)
          have fb := fa.trans (fa.ok.app (GO.lst (rows.map fun d => match d with | .tup (a :: _) => a | d => d) :: B1))
          have t2 : ∀ (a c : FS), sIf (fB (f2 gNotIn (fV 6) (fLc (fV 4) (.nm 8) (fYes) (f2 gIx (fV 8) (fC (.int 0))) [8]))) a c [some (.ref 1), some (.ref r), some (.int dp), some (.int v), some (.ref L), some x, some (.str l), q7, q8] Ga =
              if b = true then a [some (.ref 1), some (.ref r), some (.int dp), some (.int v), some (.ref L), some x, some (.str l), q7, q8] (Ga ++ GO.lst (rows.map fun d => match d with | .tup (a :: _) => a | d => d) :: B1) else c [some (.ref 1), some (.ref r), some (.int dp), some (.int v), some (.ref L), some x, some (.str l), q7, q8] (Ga ++ GO.lst (rows.map fun d => match d with | .tup (a :: _) => a | d => d) :: B1) := by
            intro a c
            have ei : iterD (.ref L) Ga = some (rows, none, some L, Ga) := by unfold iterD; dsimp only; rw [gra]
            rw [x_sIf, x_fB, x_f2, x_fV6, R.bind_ok, x_fLc, x_fV4, R.bind_ok, ei]
            dsimp only
            rw [elc]
            simp only [unlockG_none, R.bind_ok, eb, R.toS_ok]
          have grb := (fa.ok.app (GO.lst (rows.map fun d => match d with | .tup (a :: _) => a | d => d) :: B1)).get (by omega) gra
          generalize (Ga ++ GO.lst (rows.map fun d => match d with | .tup (a :: _) => a | d => d) :: B1) = Gb at *
          rw [x_sSeq, t2]
          by_cases hb : b = true
          · rw [if_pos hb]
            obtain ⟨p, Gc, hp, fc, ec⟩ := kind_ok (N + n + 1) Gb fb.ok hr ((f3.trans fb).get hr hg1) h0
            have t3 : sSet (.nm 7) (fCal 2 (ph (N + n + 4) 9) [] (fAc (fV 0) (fAc (fV 1) (fA0)))) [some (.ref 1), some (.ref r), some (.int dp), some (.int v), some (.ref L), some x, some (.str l), q7, q8] Gb = .nx [some (.ref 1), some (.ref r), some (.int dp), some (.int v), some (.ref L), some x, some (.str l), some p, q8] Gc := by
              simp [ec]
            rw [seq_nx t3]
            obtain ⟨t, Gd, ht, _, fd, ed⟩ := ih N Gc fc.ok (((f3.trans fb).trans fc).get hr hg1)
            have grc := fc.get (by omega) grb
            have grd := fd.get (by omega) grc
            have hdn : dp - 1 = (n : Int) := by omega
            have t4 : sExpr (fMeth "list" gAppend (fV 4) (fAc (fTup (fAc (fV 6) (fAc (fV 7) (fAc (fCal 3 (ph (N + n + 4) 11) [] (fAc (fV 0) (fAc (fV 1) (fAc (f2 gSub (fV 2) (fC (.int 1))) (fA0))))) (fA0))))) (fA0))) [some (.ref 1), some (.ref r), some (.int dp), some (.int v), some (.ref L), some x, some (.str l), some p, q8] Gc =
                .nx [some (.ref 1), some (.ref r), some (.int dp), some (.int v), some (.ref L), some x, some (.str l), some p, q8] (Gd.set L (.lst (rows ++ [.tup [.str l, p, t]]))) := by
              have hlt : rows.length < 16777216 := by omega
              simp [isTyM_lst grc, hdn, ed, g_append grd hlt]
            have lLd : L < Gd.length := (List.getElem?_eq_some_iff.mp grd).1
            refine ⟨some (.str l), some p, rows ++ [.tup [.str l, p, t]], Gd.set L (.lst (rows ++ [.tup [.str l, p, t]])), ?_, by rw [List.getElem?_set_self lLd], ?_, by simp, ?_⟩
            · have f := ((f3.trans fb).trans fc).trans fd
              exact ⟨fd.ok.set (by omega), by rw [List.length_set]; exact f.len, fun i hi hlt => by rw [set_lt (by omega)]; exact f.at_ i hi hlt⟩
            · intro d hd
              rcases List.mem_append.mp hd with hd | hd
              · exact hrow d hd
              · rw [List.mem_singleton.mp hd]; exact ⟨l, p, t, hl, hp, ht, rfl⟩
            · rw [x_sSeq, t4]; rfl
          · rw [if_neg hb]
            exact ⟨some (.str l), q7, rows, Gb, f3.trans fb, grb, hrow, by omega, rfl⟩)
        rw [seq_nx a5]
        obtain ⟨dk, G5, m5, f5, e5⟩ := pick_at a1.ok (A := fAc (fC (.str "say")) (fAc (fC (.str "hear")) (fA0))) (ds := [.str "say", .str "hear"]) (f := f2 gMod (fV 3) (fC (.int 2))) (ρ := [some (.ref 1), some (.ref r), some (.int dp), some (.int v), some (.ref L), q5, q6, q7, q8]) (v := v % 2) (fun _ => rfl) (fun G => by simp) (by simp) (by have := mod2 h1; simpa using this)
        have hk : ∃ k : String, (k = "say" ∨ k = "hear") ∧ dk = .str k := by
          simp only [List.mem_cons, List.not_mem_nil, or_false] at m5
          rcases m5 with rfl | rfl
          · exact ⟨_, .inl rfl, rfl⟩
          · exact ⟨_, .inr rfl, rfl⟩
        obtain ⟨k, hk, rfl⟩ := hk
        refine ⟨.tup [.str k, .tup rows], G5, .inr (.inr ⟨k, rows, hk, rfl, a4, a3⟩), fun _ => .inr ⟨k, rows, hk, rfl⟩, (h4.trans a1).trans f5, ?_⟩
        rw [x_sSeq, x_sRet, x_fTup, x_fAc, e5, R.bind_ok]
        simp [g_tuple_lst (f5.get (by omega) a2)]
end
end Wk10
end
section
namespace Wk10
open PySem PySem.Spec PyProof.Rows L2 F2
/-! ### the table -/
/-- a table's entry: the head of a talk, or a name for the next one -/
def EntOk (ss : List Str) (i : Nat) (v : D) : Prop := (Tk ss 2 v ∧ Hd v) ∨ ∃ (k : String) (s : Str), (k = "name" ∨ k = "dual") ∧ ss[i + 1]? = some s ∧ v = .tup [.str k, .str s]
structure TabOk (ss : List Str) (kvs : List (Key × D)) : Prop where
  keys : kvs.map (·.1) = (ss.take kvs.length).map Sum.inr
  ent : ∀ (i : Nat) (p : Key × D), kvs[i]? = some p → EntOk ss i p.2
theorem TabOk.key {ss : List Str} {kvs : List (Key × D)} (t : TabOk ss kvs) {i : Nat} {p : Key × D} (h : kvs[i]? = some p) : ∃ s, ss[i]? = some s ∧ p.1 = .inr s := by
  have hl := (List.getElem?_eq_some_iff.mp h).1
  have e : (kvs.map (·.1))[i]? = some p.1 := by rw [List.getElem?_map, h]; rfl
  rw [t.keys, List.getElem?_map, List.getElem?_take_of_lt hl] at e
  cases z : ss[i]? with
  | none => rw [z] at e; cases e
  | some s => rw [z] at e; exact ⟨s, rfl, (Option.some.inj e).symm⟩
theorem TabOk.add {ss : List Str} {kvs : List (Key × D)} (t : TabOk ss kvs) (nd : ss.Nodup) {s : Str} {v : D} (hs : ss[kvs.length]? = some s) (hv : EntOk ss kvs.length v) : TabOk ss (putKD kvs (.inr s) v) ∧ (putKD kvs (.inr s) v).length = kvs.length + 1 := by
  have hl := (List.getElem?_eq_some_iff.mp hs).1
  have hno : (Sum.inr s : Key) ∉ kvs.map (·.1) := by
    rw [t.keys]
    intro h
    obtain ⟨z, hz, e⟩ := List.mem_map.mp h
    cases e
    obtain ⟨j, hj, e⟩ := List.mem_iff_getElem.mp hz
    rw [List.length_take] at hj
    rw [List.getElem_take] at e
    have hj2 : j < ss.length := by omega
    have e1 : ss[j]? = some s := by rw [← e]; simp [hj2]
    have := (List.getElem?_inj hj2 nd).mp (show ss[j]? = ss[kvs.length]? by rw [e1, hs])
    omega
  rw [putKD_new hno]
  refine ⟨⟨?_, fun i p hp => ?_⟩, by simp⟩
  · rw [List.map_append, t.keys, List.length_append]
    simp only [List.length_cons, List.length_nil, List.map_cons, List.map_nil, Nat.zero_add]
    rw [List.take_succ, hs, List.map_append]
    rfl
  · by_cases hi : i < kvs.length
    · rw [List.getElem?_append_left hi] at hp; exact t.ent i p hp
    · have hi2 : i = kvs.length := by
        have := (List.getElem?_eq_some_iff.mp hp).1
        simp at this; omega
      subst hi2
      rw [List.getElem?_append_right (Nat.le_refl _), Nat.sub_self] at hp
      simp at hp
      subst hp
      exact hv
theorem TabOk.nodup {ss : List Str} {kvs : List (Key × D)} (t : TabOk ss kvs) (nd : ss.Nodup) : (kvs.map (·.1)).Nodup := by
  rw [t.keys]
  exact List.pairwise_map.mpr (((List.take_sublist _ _).nodup nd).imp fun hne e => hne (Sum.inr.inj e))
theorem table_ok (N : Nat) (G : GH) (h : Ok G) : ∃ (T : Nat) (ss : List Str) (kvs : List (Key × D)) (G' : GH), ph (N + 7) 12 [.ref 1] G = .ok (.ref T) G' ∧ Fr G G' ∧ G.length ≤ T ∧ G'[T]? = some (.dK kvs) ∧ 1 ≤ ss.length ∧ ss.length ≤ 3 ∧ ss.Nodup ∧ TabOk ss kvs ∧ kvs.length = ss.length := by
  rw [ph_12]
  obtain ⟨r, ss, G1, e1, f1, r1, g1, l1, l2, nd⟩ := names_ok (N + 3) G h
  have hG := h.two
  simp only [x_runB, b12, List.map_cons, List.map_nil, List.length_cons, List.length_nil]
  have hrho : ([some (D.ref 1)] ++ List.replicate (5 - (0 + 1)) none : Rho) = [some (.ref 1), none, none, none, none] := rfl
  rw [hrho]
  have s1 : sSet (.nm 1) (fCal 1 (ph (N + 6) 8) [] (fAc (fV 0) (fA0))) [some (.ref 1), none, none, none, none] G = .nx [some (.ref 1), some (.ref r), none, none, none] G1 := by
    simp [e1]
  rw [seq_nx s1]
  have s2 : sSet (.nm 2) (fD0K) [some (.ref 1), some (.ref r), none, none, none] G1 = .nx [some (.ref 1), some (.ref r), some (.ref G1.length), none, none] (G1 ++ [.dK []]) := by
    simp
  rw [seq_nx s2]
  have hT2 := f1.ok.two
  generalize hT : G1.length = T at *
  have fA := f1.ok.app [.dK []]
  have gT : (G1 ++ [GO.dK []])[T]? = some (.dK []) := by rw [← hT]; exact last
  have gr := fA.get (by omega) g1
  have hx : rngA 1 [.int (ss.length : Int)] = some (rngD 0 ss.length) := by
    simp only [rngA]
    rw [if_pos (by omega)]; rfl
  have hlr : (rngD 0 ss.length).length = ss.length := by simp [rngD]
  have lrT : r < T := by
    have := (List.getElem?_eq_some_iff.mp g1).1
    omega
  obtain ⟨ρ', G2, e3, q3, q4, kvs, a1, a2, a3, a4, a5⟩ := forIt_idx (p := .nm 3) (body := b12_1 (ph (N + 6))) (ck := none) (all := rngD 0 ss.length) (fun j ρ G => ∃ q3 q4 kvs, ρ = [some (.ref 1), some (.ref r), some (.ref T), q3, q4] ∧ Fr G1 G ∧ G[T]? = some (.dK kvs) ∧ TabOk ss kvs ∧ kvs.length = j)
    (fun _ _ _ _ => chkL_none) (fun j hj ρ G ⟨q3, q4, kvs, b1, b2, b3, b4, b5⟩ => by
      subst b1
      rw [hlr] at hj
      have ej : (rngD 0 ss.length)[j]'(by rw [hlr]; exact hj) = .int j := by simp [rngD]
      refine ⟨_, by rw [ej, x_setP_nm], ?_⟩
      have hgr := b2.get (by omega) g1
      obtain ⟨d, Ga, hd, hh, fa, ea⟩ := talk_ok (ss := ss) (r := r) (by omega) (by omega) 2 N G b2.ok hgr
      have t1 : sSet (.nm 4) (fCal 3 (ph (N + 6) 11) [] (fAc (fV 0) (fAc (fV 1) (fAc (fC (.int 2)) (fA0))))) [some (.ref 1), some (.ref r), some (.ref T), some (.int j), q4] G = .nx [some (.ref 1), some (.ref r), some (.ref T), some (.int j), some d] Ga := by
        have ea' : ph (N + 6) 11 [.ref 1, .ref r, .int 2] G = .ok d Ga := ea
        simp [ea']
      obtain ⟨w, Gb, w1, w2, w3, w4, w5⟩ := take_ok (N + 4) Ga 9 (by omega) fa.ok
      have hgrb := w4.get (by omega) (fa.get (by omega) hgr)
      -- the entry
      have ent : ∃ v Gc, EntOk ss j v ∧ Fr Gb Gc ∧ sIf (fAndT (fB (f2 gEq (fCal 2 (ph (N + 6) 6) [] (fAc (fV 0) (fAc (fC (.int 9)) (fA0)))) (fC (.int 0)))) (fB (f2 gLt (f2 gAdd (fV 3) (fC (.int 1))) (fCall gLen (fAc (fV 1) (fA0)))))) (sSeq (sSet (.nm 4) (fTup (fAc (f2 gIx (fLst (fAc (fC (.str "name")) (fAc (fC (.str "dual")) (fA0)))) (fCal 2 (ph (N + 6) 6) [] (fAc (fV 0) (fAc (fC (.int 2)) (fA0))))) (fAc (f2 gIx (fV 1) (f2 gAdd (fV 3) (fC (.int 1)))) (fA0))))) (sNil)) (sNil) [some (.ref 1), some (.ref r), some (.ref T), some (.int j), some d] Ga = .nx [some (.ref 1), some (.ref r), some (.ref T), some (.int j), some v] Gc := by
        by_cases hw : w = 0 ∧ j + 1 < ss.length
        · obtain ⟨hw0, hj1⟩ := hw
          subst hw0
          obtain ⟨dk, Gc, mk, fc, ec⟩ := pick_ok (N + 4) Gb w4.ok (A := fAc (fC (.str "name")) (fAc (fC (.str "dual")) (fA0))) (ds := [.str "name", .str "dual"]) (ρ := [some (.ref 1), some (.ref r), some (.ref T), some (.int j), some d]) (i := 0) (m := 2) (fun _ => rfl) (fun _ => rfl) rfl (by simp)
          have hk : ∃ k : String, (k = "name" ∨ k = "dual") ∧ dk = .str k := by
            simp only [List.mem_cons, List.not_mem_nil, or_false] at mk
            rcases mk with rfl | rfl
            · exact ⟨_, .inl rfl, rfl⟩
            · exact ⟨_, .inr rfl, rfl⟩
          obtain ⟨k, hk, rfl⟩ := hk
          have hat : atI (ss.map D.str) ((j : Int) + 1) = some (.str ss[j + 1]) := by
            rw [atI_nat (by omega) (by simp; omega)]
            have : ((j : Int) + 1).toNat = j + 1 := by omega
            rw [this, List.getElem?_map]
            simp [hj1]
          refine ⟨.tup [.str k, .str ss[j + 1]], Gc, .inr ⟨k, ss[j + 1], hk, by simp [hj1], rfl⟩, fc, ?_⟩
          have hlt : ((j : Int) + 1 < (ss.length : Int)) := by omega
          rw [x_sIf]
          have w3' : ph (N + 6) 6 [.ref 1, .int 9] Ga = .ok (.int 0) Gb := w3
          have tst : fAndT (fB (f2 gEq (fCal 2 (ph (N + 6) 6) [] (fAc (fV 0) (fAc (fC (.int 9)) (fA0)))) (fC (.int 0)))) (fB (f2 gLt (f2 gAdd (fV 3) (fC (.int 1))) (fCall gLen (fAc (fV 1) (fA0))))) [some (.ref 1), some (.ref r), some (.ref T), some (.int j), some d] Ga = .ok true Gb := by
            simp [w3', g_len_lst hgrb, hlt]
          rw [tst, R.toS_ok, if_pos rfl, x_sSeq, x_sSet, x_fTup, x_fAc, ec, R.bind_ok]
          simp [g_ix_lst (fc.get (by omega) hgrb), hat]
        · refine ⟨d, Gb, .inl ⟨hd, hh (by omega)⟩, Fr.refl w4.ok, ?_⟩
          have w3' : ph (N + 6) 6 [.ref 1, .int 9] Ga = .ok (.int w) Gb := w3
          have tst : fAndT (fB (f2 gEq (fCal 2 (ph (N + 6) 6) [] (fAc (fV 0) (fAc (fC (.int 9)) (fA0)))) (fC (.int 0)))) (fB (f2 gLt (f2 gAdd (fV 3) (fC (.int 1))) (fCall gLen (fAc (fV 1) (fA0))))) [some (.ref 1), some (.ref r), some (.ref T), some (.int j), some d] Ga = .ok false Gb := by
            by_cases hw0 : w = 0
            · have hlt : ¬ ((j : Int) + 1 < (ss.length : Int)) := fun z => hw ⟨hw0, by omega⟩
              simp [w3', g_len_lst hgrb, hlt, hw0]
            · simp [w3', hw0]
          rw [x_sIf, tst, R.toS_ok, if_neg (by simp)]; rfl
      obtain ⟨v, Gc, hv, fc, ec⟩ := ent
      have fAll := (b2.trans fa).trans (w4.trans fc)
      have gTc := fc.get (by omega) (w4.get (by omega) (fa.get (by omega) b3))
      have hs : ss[kvs.length]? = some ss[j] := by rw [b5]; simp [hj]
      obtain ⟨t, tl⟩ := b4.add nd hs (by rw [b5]; exact hv)
      have lT : T < Gc.length := (List.getElem?_eq_some_iff.mp gTc).1
      refine ⟨[some (.ref 1), some (.ref r), some (.ref T), some (.int j), some v], Gc.set T (.dK (putKD kvs (.inr ss[j]) v)), .inl ?_, _, _, _, rfl, ⟨fc.ok.set (by omega), by rw [List.length_set]; exact fAll.len, fun i hi hlt => by rw [set_lt (by omega)]; exact fAll.at_ i hi hlt⟩, by rw [List.getElem?_set_self lT], t, by rw [tl, b5]⟩
      unfold b12_1
      show sSeq _ _ [some (.ref 1), some (.ref r), some (.ref T), some (.int j), q4] G = _
      rw [seq_nx t1, seq_nx ec]
      have hat : atI (ss.map D.str) (j : Int) = some (.str ss[j]) := by
        rw [atI_nat (by omega) (by simp; omega)]
        simp [hj]
      have hkl : kvs.length < 16777216 := by omega
      simp [x_sSeq, g_ix_lst (fAll.get (by omega) g1), hat, g_setix_dK gTc (show keyD (.str ss[j]) = some (.inr ss[j]) from rfl) hkl])
    (ρ := [some (.ref 1), some (.ref r), some (.ref T), none, none]) (G := G1 ++ [.dK []]) ⟨_, _, [], rfl, fA, gT, ⟨rfl, fun i p hp => by simp at hp⟩, rfl⟩
  subst a1
  refine ⟨T, ss, kvs, G2, ?_, f1.trans a2, by have := f1.len; omega, a3, l1, l2, nd, a4, by rw [a5, hlr]⟩
  have s3 : sForR 1 (fAc (fCall gLen (fAc (fV 1) (fA0))) (fA0)) (.nm 3) (b12_1 (ph (N + 6))) [some (.ref 1), some (.ref r), some (.ref T), none, none] (G1 ++ [.dK []]) = .nx [some (.ref 1), some (.ref r), some (.ref T), q3, q4] G2 := by
    have ea : (fAc (fCall gLen (fAc (fV 1) (fA0))) (fA0)) [some (.ref 1), some (.ref r), some (.ref T), none, none] (G1 ++ [.dK []]) = .ok [.int (ss.length : Int)] (G1 ++ [.dK []]) := by
      rw [x_fAc, x_fCall, x_fAc, x_fV1, R.bind_ok, x_fA0, R.bind_ok, R.bind_ok, g_len_lst gr, R.bind_ok, x_fA0, R.bind_ok, List.length_map]
    rw [x_sForR, ea, R.toS_ok, hx]
    exact e3
  rw [seq_nx s3]
  simp [x_sSeq]
end Wk10
end
section
namespace Wk10
open PySem PySem.Spec PyProof.Rows L2 F2
/-! ### the dual -/
def rowD (f : D → D) : D → D
  | .tup [l, p, t] => .tup [l, p, f t]
  | d => d
def dualD : Nat → D → D
  | _, .tup [.str k, .str s] => .tup [.str (if k = Str.ofString "name" then "dual" else "name"), .str s]
  | n + 1, .tup [.str k, .tup rows] => .tup [.str (if k = Str.ofString "say" then "hear" else "say"), .tup (rows.map (rowD (dualD n)))]
  | _, d => d
@[simp] theorem dualD_end (n : Nat) : dualD n (.tup [.str "end"]) = .tup [.str "end"] := by cases n <;> rfl
@[simp] theorem dualD_ref (n : Nat) (k s : Str) : dualD n (.tup [.str k, .str s]) = .tup [.str (if k = Str.ofString "name" then "dual" else "name"), .str s] := by cases n <;> rfl
@[simp] theorem dualD_rows (n : Nat) (k : Str) (rows : List D) : dualD (n + 1) (.tup [.str k, .tup rows]) = .tup [.str (if k = Str.ofString "say" then "hear" else "say"), .tup (rows.map (rowD (dualD n)))] := rfl
theorem Tk.dual {ss : List Str} : ∀ {n : Nat} {d : D}, Tk ss n d → Tk ss n (dualD n d)
  | 0, d, h => by
    rcases h with rfl | ⟨k, s, hk, hs, rfl⟩
    · exact Tk.end_ 0
    · rw [dualD_ref]
      rcases hk with rfl | rfl
      · simp only [if_true]; exact Tk.ref (.inr rfl) hs 0
      · simp; exact Tk.ref (.inl rfl) hs 0
  | n + 1, d, h => by
    rcases h with rfl | ⟨k, s, hk, hs, rfl⟩ | ⟨k, rows, hk, rfl, hl, hr⟩
    · rw [dualD_end]; exact Tk.end_ _
    · rw [dualD_ref]
      rcases hk with rfl | rfl
      · simp only [if_true]; exact Tk.ref (.inr rfl) hs _
      · simp; exact Tk.ref (.inl rfl) hs _
    · have rest : ∀ r ∈ rows.map (rowD (dualD n)), ∃ (l : String) (p t : D), l ∈ labs ∧ Kd ss p ∧ Tk ss n t ∧ r = .tup [.str l, p, t] := by
        intro r hr'
        obtain ⟨d, hd, rfl⟩ := List.mem_map.mp hr'
        obtain ⟨l, p, t, h1, h2, h3, rfl⟩ := hr d hd
        exact ⟨l, p, dualD n t, h1, h2, Tk.dual h3, rfl⟩
      rcases hk with rfl | rfl
      · exact .inr (.inr ⟨"hear", _, .inr rfl, by simp, by simpa using hl, rest⟩)
      · exact .inr (.inr ⟨"say", _, .inl rfl, by simp, by simpa using hl, rest⟩)
theorem Tk.dual2 {ss : List Str} : ∀ {n : Nat} {d : D}, Tk ss n d → dualD n (dualD n d) = d
  | 0, d, h => by
    rcases h with rfl | ⟨k, s, hk, hs, rfl⟩
    · simp
    · rcases hk with rfl | rfl <;> simp
  | n + 1, d, h => by
    rcases h with rfl | ⟨k, s, hk, hs, rfl⟩ | ⟨k, rows, hk, rfl, hl, hr⟩
    · simp
    · rcases hk with rfl | rfl <;> simp
    · have rest : (rows.map (rowD (dualD n))).map (rowD (dualD n)) = rows := by
        rw [List.map_map]
        refine (List.map_congr_left fun d hd => ?_).trans (List.map_id _)
        obtain ⟨l, p, t, h1, h2, h3, rfl⟩ := hr d hd
        show D.tup [.str l, p, dualD n (dualD n t)] = _
        rw [Tk.dual2 h3]; rfl
      rcases hk with rfl | rfl
      · rw [dualD_rows, dualD_rows, rest]; simp
      · rw [dualD_rows, dualD_rows, rest]; simp
theorem Kd.pl {ss : List Str} {d : D} (h : Kd ss d) : plB 2 d = true := by
  rcases h with rfl | rfl | rfl | ⟨k, s, _, _, rfl⟩ <;> rfl
theorem Tk.pl {ss : List Str} : ∀ {n : Nat} {d : D}, Tk ss n d → plB (3 * n + 2) d = true
  | 0, d, h => by
    rcases h with rfl | ⟨k, s, hk, hs, rfl⟩ <;> rfl
  | n + 1, d, h => by
    rcases h with rfl | ⟨k, s, hk, hs, rfl⟩ | ⟨k, rows, hk, rfl, hl, hr⟩
    · exact plB_mono (show 2 ≤ 3 * (n + 1) + 2 by omega) rfl
    · exact plB_mono (show 2 ≤ 3 * (n + 1) + 2 by omega) rfl
    · show ([D.str k, .tup rows].all (plB (3 * n + 4))) = true
      have e : plB (3 * n + 4) (.tup rows) = true := by
        show rows.all (plB (3 * n + 3)) = true
        rw [List.all_eq_true]
        intro d hd
        obtain ⟨l, p, t, h1, h2, h3, rfl⟩ := hr d hd
        show ([D.str l, p, t].all (plB (3 * n + 2))) = true
        simp only [List.all_cons, List.all_nil, Bool.and_true, Bool.and_eq_true]
        exact ⟨rfl, plB_mono (by omega) h2.pl, Tk.pl h3⟩
      simp only [List.all_cons, List.all_nil, Bool.and_true, Bool.and_eq_true]
      exact ⟨rfl, e⟩
theorem isref_ok (N : Nat) (k : Str) (r : List D) (G : GH) : ph (N + 1) 0 [.tup (.str k :: r)] G = .ok (.bl (decide (k = Str.ofString "name") || decide (k = Str.ofString "dual"))) G := by
  rw [ph_0]
  by_cases h : k = Str.ofString "name"
  · simp [b0, x_sSeq, h]
  · simp [b0, x_sSeq, h]
theorem dkind_ok (N : Nat) (k s : Str) (G : GH) : ph (N + 1) 1 [.tup [.str k, .str s]] G = .ok (.tup [.str (if k = Str.ofString "name" then "dual" else "name"), .str s]) G := by
  rw [ph_1]
  by_cases h : k = Str.ofString "name"
  · simp [b1, x_sSeq, h]
  · simp [b1, x_sSeq, h]
theorem dual_ok {ss : List Str} : ∀ (n N : Nat) (d : D) (G : GH), Tk ss n d → ∃ B, ph (N + n + 3) 2 [d] G = .ok (dualD n d) (G ++ B) := by
  intro n
  induction n with
  | zero =>
    intro N d G h
    rcases h with rfl | ⟨k, s, hk, hs, rfl⟩
    · refine ⟨[], ?_⟩
      rw [ph_2]
      simp [b2, x_sSeq, isref_ok]
    · refine ⟨[], ?_⟩
      rw [ph_2]
      rcases hk with rfl | rfl <;> simp [b2, x_sSeq, isref_ok, dkind_ok]
  | succ n ih =>
    intro N d G h
    show ∃ B, ph (N + n + 3 + 1) 2 [d] G = .ok (dualD (n + 1) d) (G ++ B)
    rcases h with rfl | ⟨k, s, hk, hs, rfl⟩ | ⟨k, rows, hk, rfl, hl, hr⟩
    · refine ⟨[], ?_⟩
      rw [ph_2]
      simp [b2, x_sSeq, isref_ok]
    · refine ⟨[], ?_⟩
      rw [ph_2]
      rcases hk with rfl | rfl <;> simp [b2, x_sSeq, isref_ok, dkind_ok]
    · obtain ⟨B, e⟩ := lcRun_map (p := .tu [.nm 2, .nm 3, .nm 4]) (te := fTup (fAc (fV 2) (fAc (fV 3) (fAc (fCal 1 (ph (N + n + 3) 2) [] (fAc (fV 4) (fA0))) (fA0))))) (ck := none) (lk := none) (own := [2, 3, 4]) (xs := rows) (ρ := [some (.tup [.str k, .tup rows]), none, none, none, none]) (A := G) (f := rowD (dualD n))
        (fun _ h => nomatch h) (by omega) (fun d hd => by
          obtain ⟨l, p, t, h1, h2, h3, rfl⟩ := hr d hd
          refine ⟨[some (.tup [.str k, .tup rows]), none, some (.str l), some p, some t], by simp [wipeD], fun acc B => ?_⟩
          obtain ⟨B1, e1⟩ := ih N t (G ++ .lst acc :: B) h3
          exact ⟨B ++ B1, by simp [e1, rowD]⟩)
      refine ⟨.lst (rows.map (rowD (dualD n))) :: B, ?_⟩
      have gl : (G ++ GO.lst (rows.map (rowD (dualD n))) :: B)[G.length]? = some (.lst (rows.map (rowD (dualD n)))) := by simp
      rw [ph_2]
      rcases hk with rfl | rfl <;> simp [b2, x_sSeq, isref_ok, e, g_tuple_lst gl]
theorem ldual_ok {ss : List Str} : ∀ (n N : Nat) (d : D) (G : GH), Tk ss n d → ∃ B, ph (N + n + 3) 13 [d] G = .ok (dualD n d) (G ++ B) := by
  intro n
  induction n with
  | zero =>
    intro N d G h
    rcases h with rfl | ⟨k, s, hk, hs, rfl⟩
    · refine ⟨[], ?_⟩
      rw [ph_13]
      simp [b13, x_sSeq]
    · refine ⟨[], ?_⟩
      rw [ph_13]
      rcases hk with rfl | rfl <;> simp [b13, x_sSeq]
  | succ n ih =>
    intro N d G h
    show ∃ B, ph (N + n + 3 + 1) 13 [d] G = .ok (dualD (n + 1) d) (G ++ B)
    rcases h with rfl | ⟨k, s, hk, hs, rfl⟩ | ⟨k, rows, hk, rfl, hl, hr⟩
    · refine ⟨[], ?_⟩
      rw [ph_13]
      simp [b13, x_sSeq]
    · refine ⟨[], ?_⟩
      rw [ph_13]
      rcases hk with rfl | rfl <;> simp [b13, x_sSeq]
    · obtain ⟨B, e⟩ := lcRun_map (p := .nm 2) (te := fTup (fAc (f2 gIx (fV 2) (fC (.int 0))) (fAc (f2 gIx (fV 2) (fC (.int 1))) (fAc (fCal 1 (ph (N + n + 3) 13) [] (fAc (f2 gIx (fV 2) (fC (.int 2))) (fA0))) (fA0))))) (ck := none) (lk := none) (own := [2]) (xs := rows) (ρ := [some (.tup [.str k, .tup rows]), none, none]) (A := G) (f := rowD (dualD n))
        (fun _ h => nomatch h) (by omega) (fun d hd => by
          obtain ⟨l, p, t, h1, h2, h3, rfl⟩ := hr d hd
          refine ⟨[some (.tup [.str k, .tup rows]), none, some (.tup [.str l, p, t])], by simp [wipeD], fun acc B => ?_⟩
          obtain ⟨B1, e1⟩ := ih N t (G ++ .lst acc :: B) h3
          exact ⟨B ++ B1, by simp [e1, rowD]⟩)
      refine ⟨.lst (rows.map (rowD (dualD n))) :: B, ?_⟩
      have gl : (G ++ GO.lst (rows.map (rowD (dualD n))) :: B)[G.length]? = some (.lst (rows.map (rowD (dualD n)))) := by simp
      rw [ph_13]
      rcases hk with rfl | rfl <;> simp [b13, x_sSeq, e, g_tuple_lst gl]
end Wk10
end
section
namespace Wk10
open PySem PySem.Spec PyProof.Rows L2 F2
/-! ### walking the table -/
theorem keysV {ss : List Str} {kvs : List (Key × D)} (t : TabOk ss kvs) (hl : kvs.length = ss.length) : (kvs.map fun p => keyV p.1) = ss.map D.str := by
  have e : (kvs.map fun p => keyV p.1) = (kvs.map (·.1)).map keyV := by rw [List.map_map]; rfl
  rw [e, t.keys, hl, List.take_length, List.map_map]
  rfl
theorem EntOk.tk {ss : List Str} {i : Nat} {v : D} (h : EntOk ss i v) : Tk ss 2 v := by
  rcases h with ⟨h, _⟩ | ⟨k, s, hk, hs, rfl⟩
  · exact h
  · exact Tk.ref hk (List.mem_of_getElem? hs) 2
/-- what the table holds for a key -/
def tabF (kvs : List (Key × D)) (x : D) : D := match keyD x with
  | some k => (valD kvs k).getD .non
  | none => .non
theorem tabF_ent {ss : List Str} {kvs : List (Key × D)} (t : TabOk ss kvs) (nd : ss.Nodup) {x : D} (hx : x ∈ kvs.map fun p => keyV p.1) : ∃ (k : Key) (i : Nat) (v : D), x = keyV k ∧ kvs[i]? = some (k, v) ∧ valD kvs k = some v ∧ EntOk ss i v := by
  obtain ⟨p, hp, rfl⟩ := List.mem_map.mp hx
  obtain ⟨i, hi, e⟩ := List.mem_iff_getElem.mp hp
  have e' : kvs[i]? = some (p.1, p.2) := by rw [List.getElem?_eq_some_iff]; exact ⟨hi, e⟩
  exact ⟨p.1, i, p.2, rfl, e', valD_get (t.nodup nd) e', t.ent i _ e'⟩
/-- [table[name] for name in table] -/
theorem tabVals {ss : List Str} {kvs : List (Key × D)} (t : TabOk ss kvs) (nd : ss.Nodup) (hl : kvs.length ≤ 3) {G : GH} {T : Nat} {ρ : Rho} {i j : Nat} (g : G[T]? = some (.dK kvs)) (hi : ∀ v G, fV i ((wipeD ρ [j]).set j (some v)) G = .ok (.ref T) G) (hj : ∀ v G, fV j ((wipeD ρ [j]).set j (some v)) G = .ok v G) (hi0 : ∀ G, fV i ρ G = .ok (.ref T) G) :
    ∃ G', fLc (fV i) (.nm j) fYes (f2 gIx (fV i) (fV j)) [j] ρ G = .ok (.ref G.length) G' ∧ (∃ B, G' = G ++ .lst ((kvs.map fun p => keyV p.1).map (tabF kvs)) :: B) := by
  have lT : T < G.length := (List.getElem?_eq_some_iff.mp g).1
  obtain ⟨B, e⟩ := lcRun_map (p := .nm j) (te := f2 gIx (fV i) (fV j)) (ck := none) (lk := some T) (own := [j]) (xs := kvs.map fun p => keyV p.1) (ρ := ρ) (A := G.set T (.fK kvs)) (f := tabF kvs) (fun _ h => nomatch h) (by simp; omega) (fun x hx => by
    obtain ⟨k, n, v, rfl, h1, h2, h3⟩ := tabF_ent t nd hx
    refine ⟨_, x_setP_nm _ _ _, fun acc B => ⟨B, ?_⟩⟩
    have gg : (G.set T (GO.fK kvs) ++ GO.lst acc :: B)[T]? = some (.fK kvs) := by
      rw [List.getElem?_append_left (by simpa using lT), List.getElem?_set_self lT]
    rw [x_f2, hi, R.bind_ok, hj, R.bind_ok, g_ix_dK (.inr gg) (keyD_keyV k) h2]
    simp [tabF, h2])
  refine ⟨_, ?_, ⟨B, rfl⟩⟩
  rw [x_fLc, hi0, R.bind_ok, iter_dK g]
  dsimp only
  rw [e, List.length_set]
  congr 1
  have gg : (G.set T (GO.fK kvs) ++ GO.lst ((kvs.map fun p => keyV p.1).map (tabF kvs)) :: B)[T]? = some (.fK kvs) := by
    rw [List.getElem?_append_left (by simpa using lT), List.getElem?_set_self lT]
  unfold unlockG
  dsimp only
  rw [gg]
  dsimp only [unlockO]
  rw [List.set_append_left _ _ (by simpa using lT), List.set_set]
  congr 1
  apply List.ext_getElem?
  intro n
  by_cases h : n = T
  · subst h; rw [List.getElem?_set_self lT, g]
  · rw [List.getElem?_set_ne (Ne.symm h)]
theorem tabF_tk {ss : List Str} {kvs : List (Key × D)} (t : TabOk ss kvs) (nd : ss.Nodup) {x : D} (h : x ∈ (kvs.map fun p => keyV p.1).map (tabF kvs)) : Tk ss 2 x := by
  obtain ⟨y, hy, rfl⟩ := List.mem_map.mp h
  obtain ⟨k, n, v, rfl, h1, h2, h3⟩ := tabF_ent t nd hy
  simpa [tabF, h2] using h3.tk
end Wk10
end
section
namespace Wk10
open PySem PySem.Spec PyProof.Rows L2 F2
/-! ### heads -/
theorem Tk.succ {ss : List Str} : ∀ {n : Nat} {d : D}, Tk ss n d → Tk ss (n + 1) d
  | 0, d, h => by
    rcases h with rfl | ⟨k, s, hk, hs, rfl⟩
    · exact Tk.end_ _
    · exact Tk.ref hk hs _
  | n + 1, d, h => by
    rcases h with rfl | ⟨k, s, hk, hs, rfl⟩ | ⟨k, rows, hk, rfl, hl, hr⟩
    · exact Tk.end_ _
    · exact Tk.ref hk hs _
    · exact .inr (.inr ⟨k, rows, hk, rfl, hl, fun r hr' => by
        obtain ⟨l, p, t, h1, h2, h3, e⟩ := hr r hr'
        exact ⟨l, p, t, h1, h2, h3.succ, e⟩⟩)
theorem Tk.up {ss : List Str} {n m : Nat} {d : D} (hm : n ≤ m) (h : Tk ss n d) : Tk ss m d := by
  obtain ⟨k, rfl⟩ := Nat.exists_eq_add_of_le hm
  clear hm
  induction k with
  | zero => exact h
  | succ k ih => exact ih.succ
theorem Hd.shape {d : D} (h : Hd d) : ∃ (k : String) (r : List D), d = .tup (.str k :: r) ∧ k ≠ "name" ∧ k ≠ "dual" := by
  rcases h with rfl | ⟨k, rows, hk, rfl⟩
  · exact ⟨"end", [], rfl, by decide, by decide⟩
  · rcases hk with rfl | rfl
    · exact ⟨"say", _, rfl, by decide, by decide⟩
    · exact ⟨"hear", _, rfl, by decide, by decide⟩
/-- following n names from a talk leads to the head h; turned by an odd number of duals -/
inductive Pth (kvs : List (Key × D)) : D → Bool → D → Nat → Prop where
  | here {t : D} : Hd t → Pth kvs t false t 0
  | name {s : Str} {v h : D} {b : Bool} {n : Nat} : valD kvs (.inr s) = some v → Pth kvs v b h n → Pth kvs (.tup [.str "name", .str s]) b h (n + 1)
  | dual {s : Str} {v h : D} {b : Bool} {n : Nat} : valD kvs (.inr s) = some v → Pth kvs v b h n → Pth kvs (.tup [.str "dual", .str s]) (!b) h (n + 1)
theorem Pth.ref {kvs : List (Key × D)} {k : String} {s : Str} {v h : D} {b : Bool} {n : Nat} (hk : k = "name" ∨ k = "dual") (hv : valD kvs (.inr s) = some v) (p : Pth kvs v b h n) : ∃ b', Pth kvs (.tup [.str k, .str s]) b' h (n + 1) := by
  rcases hk with rfl | rfl
  · exact ⟨_, .name hv p⟩
  · exact ⟨_, .dual hv p⟩
theorem pth_at {ss : List Str} {kvs : List (Key × D)} (t : TabOk ss kvs) (nd : ss.Nodup) (hl : kvs.length = ss.length) : ∀ (m i : Nat) (s : Str) (k : String), ss.length - i ≤ m → ss[i]? = some s → (k = "name" ∨ k = "dual") → ∃ b h n, Pth kvs (.tup [.str k, .str s]) b h n ∧ n ≤ m ∧ Tk ss 2 h ∧ Hd h := by
  intro m
  induction m with
  | zero =>
    intro i s k hm hs hk
    have hi := (List.getElem?_eq_some_iff.mp hs).1
    omega
  | succ m ih =>
    intro i s k hm hs hk
    have hi := (List.getElem?_eq_some_iff.mp hs).1
    have hp : kvs[i]? = some (kvs[i]'(by omega)) := by simp [show i < kvs.length by omega]
    obtain ⟨s', e1, e2⟩ := t.key hp
    rw [hs] at e1
    cases e1
    have hp' : kvs[i]? = some ((.inr s : Key), (kvs[i]'(by omega)).2) := by rw [hp, ← e2]
    have hv : valD kvs (.inr s) = some (kvs[i]'(by omega)).2 := valD_get (t.nodup nd) hp'
    have he := t.ent i _ hp
    rcases he with ⟨h1, h2⟩ | ⟨k2, s2, hk2, hs2, e⟩
    · obtain ⟨b, p⟩ := Pth.ref hk hv (.here h2)
      exact ⟨b, _, _, p, by omega, h1, h2⟩
    · obtain ⟨b, h, n, p, hn, q1, q2⟩ := ih (i + 1) s2 k2 (by omega) hs2 hk2
      rw [e] at hv
      obtain ⟨b', p'⟩ := Pth.ref hk hv p
      exact ⟨b', h, n + 1, p', by omega, q1, q2⟩
/-- every talk over the names leads to a head -/
theorem pth_of {ss : List Str} {kvs : List (Key × D)} (t : TabOk ss kvs) (nd : ss.Nodup) (hl : kvs.length = ss.length) (h3 : ss.length ≤ 3) {m : Nat} {d : D} (hd : Tk ss m d) (hm : m ≤ 2) : ∃ b h n, Pth kvs d b h n ∧ n ≤ 4 ∧ Tk ss 2 h ∧ Hd h := by
  have refc : ∀ (k : String) (s : Str), (k = "name" ∨ k = "dual") → s ∈ ss → ∃ b h n, Pth kvs (.tup [.str k, .str s]) b h n ∧ n ≤ 4 ∧ Tk ss 2 h ∧ Hd h := fun k s hk hs => by
    obtain ⟨i, hi, e⟩ := List.mem_iff_getElem.mp hs
    obtain ⟨b, h, n, p, hn, q⟩ := pth_at t nd hl 3 i s k (by omega) (by rw [List.getElem?_eq_some_iff]; exact ⟨hi, e⟩) hk
    exact ⟨b, h, n, p, by omega, q⟩
  have up : ∀ (m : Nat) (d : D), Tk ss m d → m ≤ 2 → Tk ss 2 d := fun m d h hm => Tk.up hm h
  match m, hd with
  | 0, .inl e => rw [e]; exact ⟨_, _, _, .here (.inl rfl), by omega, Tk.end_ 2, .inl rfl⟩
  | 0, .inr ⟨k, s, hk, hs, e⟩ => rw [e]; exact refc k s hk hs
  | m + 1, .inl e => rw [e]; exact ⟨_, _, _, .here (.inl rfl), by omega, Tk.end_ 2, .inl rfl⟩
  | m + 1, .inr (.inl ⟨k, s, hk, hs, e⟩) => rw [e]; exact refc k s hk hs
  | m + 1, .inr (.inr ⟨k, rows, hk, e, hl', hr⟩) =>
    have hh : Hd d := .inr ⟨k, rows, hk, e⟩
    exact ⟨_, _, _, .here hh, by omega, up (m + 1) d (.inr (.inr ⟨k, rows, hk, e, hl', hr⟩)) hm, hh⟩
/-- .. after its duals -/
def turnD (b : Bool) (h : D) : D := if b = true then dualD 2 h else h
theorem head_loop {kvs : List (Key × D)} {T : Nat} {G : GH} (g : G[T]? = some (.dK kvs) ∨ G[T]? = some (.fK kvs)) {N : Nat} {t : D} {b : Bool} {h : D} {n : Nat} (p : Pth kvs t b h n) : ∀ (c : Bool), whl (fTru (fCal 1 (ph (N + 1) 0) [] (fAc (fV 1) (fA0)))) (b3_1 (ph (N + 1))) (n + 1) [some (.ref T), some t, some (.bl c)] G = .nx [some (.ref T), some h, some (.bl (c != b))] G := by
  induction p with
  | @here t hh =>
    intro c
    obtain ⟨k, r, rfl, k1, k2⟩ := hh.shape
    simp [whl, isref_ok, k1, k2]
  | @name s v h b n hv p ih =>
    intro c
    rw [whl]
    have e : b3_1 (ph (N + 1)) [some (.ref T), some (.tup [.str "name", .str s]), some (.bl c)] G = .nx [some (.ref T), some v, some (.bl c)] G := by
      unfold b3_1
      simp [x_sSeq, g_ix_dK g (show keyD (.str s) = some (.inr s) from rfl) hv]
    simp only [x_fTru, x_fCal, x_fAc, x_fV1, x_fA0, R.bind_ok, List.append_nil, List.length_cons, List.length_nil, Nat.zero_add, if_true, isref_ok, tru_bl, R.toS_ok, decide_true, Bool.true_or, e]
    exact ih c
  | @dual s v h b n hv p ih =>
    intro c
    rw [whl]
    have e : b3_1 (ph (N + 1)) [some (.ref T), some (.tup [.str "dual", .str s]), some (.bl c)] G = .nx [some (.ref T), some v, some (.bl (!c))] G := by
      unfold b3_1
      simp [x_sSeq, g_ix_dK g (show keyD (.str s) = some (.inr s) from rfl) hv]
    simp only [x_fTru, x_fCal, x_fAc, x_fV1, x_fA0, R.bind_ok, List.append_nil, List.length_cons, List.length_nil, Nat.zero_add, if_true, isref_ok, tru_bl, R.toS_ok, decide_true, Bool.or_true, e]
    rw [ih (!c)]
    cases c <;> cases b <;> rfl
theorem head_ok {ss : List Str} {kvs : List (Key × D)} {T : Nat} {G : GH} (g : G[T]? = some (.dK kvs) ∨ G[T]? = some (.fK kvs)) (N : Nat) {t : D} {b : Bool} {h : D} {n : Nat} (p : Pth kvs t b h n) (hh : Tk ss 2 h) : ∃ B, ph (N + 6) 3 [.ref T, t] G = .ok (turnD b h) (G ++ B) := by
  rw [ph_3]
  have e1 : sWhile (fTru (fCal 1 (ph (N + 5) 0) [] (fAc (fV 1) (fA0)))) (b3_1 (ph (N + 5))) [some (.ref T), some t, some (.bl false)] G = .nx [some (.ref T), some h, some (.bl b)] G := by
    refine sWhile_eq (n + 1) ?_ (fun z => nomatch z)
    have := head_loop (N := N + 4) g p false
    rw [this]; cases b <;> rfl
  cases b with
  | false => exact ⟨[], by simp [b3, x_sSeq, e1, turnD]⟩
  | true =>
    obtain ⟨B, e2⟩ := dual_ok 2 N h G hh
    have e2' : ph (N + 5) 2 [h] G = .ok (dualD 2 h) (G ++ B) := e2
    exact ⟨B, by simp [b3, x_sSeq, e1, turnD, e2']⟩
theorem turn_tk {ss : List Str} {h : D} (b : Bool) (hh : Tk ss 2 h) : Tk ss 2 (turnD b h) := by
  unfold turnD
  split
  · exact hh.dual
  · exact hh
theorem turn_not {ss : List Str} {h : D} (b : Bool) (hh : Tk ss 2 h) : dualD 2 (turnD b h) = turnD (!b) h := by
  cases b
  · rfl
  · exact hh.dual2
theorem lhead_ok {ss : List Str} {kvs : List (Key × D)} {T : Nat} {t : D} {b : Bool} {h : D} {n : Nat} (p : Pth kvs t b h n) (hh : Tk ss 2 h) : ∀ (N : Nat) (G : GH), (G[T]? = some (.dK kvs) ∨ G[T]? = some (.fK kvs)) → ∃ B, ph (N + n + 6) 14 [.ref T, t] G = .ok (turnD b h) (G ++ B) := by
  induction p with
  | @here t hd =>
    intro N G g
    rw [ph_14]
    obtain ⟨k, r, rfl, k1, k2⟩ := hd.shape
    exact ⟨[], by simp [b14, x_sSeq, k1, k2, turnD]⟩
  | @name s v h b n hv p ih =>
    intro N G g
    show ∃ B, ph (N + n + 6 + 1) 14 [.ref T, .tup [.str "name", .str s]] G = .ok (turnD b h) (G ++ B)
    rw [ph_14]
    obtain ⟨B, e⟩ := ih hh N G g
    exact ⟨B, by simp [b14, x_sSeq, g_ix_dK g (show keyD (.str s) = some (.inr s) from rfl) hv, e]⟩
  | @dual s v h b n hv p ih =>
    intro N G g
    show ∃ B, ph (N + n + 6 + 1) 14 [.ref T, .tup [.str "dual", .str s]] G = .ok (turnD (!b) h) (G ++ B)
    rw [ph_14]
    obtain ⟨B, e⟩ := ih hh N G g
    obtain ⟨B2, e2⟩ := ldual_ok 2 (N + n + 1) (turnD b h) (G ++ B) (turn_tk b hh)
    rw [turn_not b hh] at e2
    have e2' : ph (N + n + 6) 13 [turnD b h] (G ++ B) = .ok (turnD (!b) h) (G ++ B ++ B2) := e2
    exact ⟨B ++ B2, by simp [b14, x_sSeq, g_ix_dK g (show keyD (.str s) = some (.inr s) from rfl) hv, e, e2']⟩
end Wk10
end
section
namespace Wk10
open PySem PySem.Spec PyProof.Rows L2 F2
theorem hitB_self {G : GH} {kvs : List (Key × D)} : ∀ {ks : List (Key × D)}, (∀ p ∈ ks, valD kvs p.1 = some p.2 ∧ plB 64 p.2 = true) → hitB G kvs ks = some true
  | [], _ => rfl
  | p :: ks, h => by
    obtain ⟨h1, h2⟩ := h p (List.mem_cons_self ..)
    obtain ⟨x, e1, e2⟩ := py_pl G 64 p.2 h2
    rw [hitB, h1]
    dsimp only
    rw [e1, hitB_self fun q hq => h q (List.mem_cons_of_mem _ hq)]
    dsimp only
    rw [eqv_self e2]; rfl
theorem tab_same {ss : List Str} {kvs : List (Key × D)} (t : TabOk ss kvs) (nd : ss.Nodup) {G : GH} {i j : Nat} (h1 : G[i]? = some (.dK kvs)) (h2 : G[j]? = some (.dK kvs)) : gNe (.ref i) (.ref j) G = .ok (.bl false) G := by
  have e : eqB (.ref i) (.ref j) G = some true := by
    unfold eqB
    dsimp only
    rw [h1, h2]
    dsimp only
    rw [if_pos rfl]
    refine hitB_self fun p hp => ?_
    obtain ⟨n, hn, e⟩ := List.mem_iff_getElem.mp hp
    have e' : kvs[n]? = some (p.1, p.2) := by rw [List.getElem?_eq_some_iff]; exact ⟨hn, e⟩
    exact ⟨valD_get (t.nodup nd) e', plB_mono (show 3 * 2 + 2 ≤ 64 by decide) (t.ent n _ e').tk.pl⟩
  unfold gNe
  rw [e]; rfl
theorem turn_hd {ss : List Str} {h : D} (b : Bool) (hh : Tk ss 2 h) (hd : Hd h) : Hd (turnD b h) := by
  cases b with
  | false => exact hd
  | true =>
    rcases hd with rfl | ⟨k, rows, hk, rfl⟩
    · exact .inl (dualD_end 2)
    · rcases hk with rfl | rfl
      · exact .inr ⟨"hear", rows.map (rowD (dualD 1)), .inr rfl, by simp [turnD]⟩
      · exact .inr ⟨"say", rows.map (rowD (dualD 1)), .inl rfl, by simp [turnD]⟩
theorem grow {G B : GH} {i : Nat} {o : GO} (h : G[i]? = some o) : (G ++ B)[i]? = some o := by
  rw [List.getElem?_append_left (List.getElem?_eq_some_iff.mp h).1]; exact h
end Wk10
end
section
namespace Wk10
open PySem PySem.Spec PyProof.Rows L2 F2
/-! ### trees of texts: == decides -/
def sB : Nat → D → Bool
  | 0, _ => false
  | _ + 1, .non => true
  | _ + 1, .str _ => true
  | n + 1, .tup xs => xs.all (sB n)
  | _ + 1, _ => false
theorem eqv_sB (G : GH) : ∀ (n : Nat) (d e : D) (p q : PyData), sB n d = true → sB n e = true → py G n d = some p → py G n e = some q → (PyData.eqv p q = true ↔ d = e)
  | 0, _, _, _, _, h, _, _, _ => by cases h
  | n + 1, d, e, p, q, hd, he, h1, h2 => by
    have ih := eqv_sB G n
    have all : ∀ (xs ys : List D) (ps qs : List PyData), (∀ x ∈ xs, sB n x = true) → (∀ y ∈ ys, sB n y = true) → pys (py G n) xs = some ps → pys (py G n) ys = some qs → (PyData.eqvAll ps qs = true ↔ xs = ys) := by
      intro xs
      induction xs with
      | nil =>
        intro ys ps qs _ hy e1 e2
        cases e1
        cases ys with
        | nil => cases e2; simp [PyData.eqvAll]
        | cons y ys =>
          simp only [pys] at e2
          split at e2
          · cases e2; simp [PyData.eqvAll]
          · cases e2
      | cons x xs ihx =>
        intro ys ps qs hx hy e1 e2
        simp only [pys] at e1
        split at e1
        · rename_i p ps' a1 a2
          cases e1
          cases ys with
          | nil => cases e2; simp [PyData.eqvAll]
          | cons y ys =>
            simp only [pys] at e2
            split at e2
            · rename_i q qs' c1 c2
              cases e2
              have k1 := ih x y p q (hx x (List.mem_cons_self ..)) (hy y (List.mem_cons_self ..)) a1 c1
              have k2 := ihx ys ps' qs' (fun z hz => hx z (List.mem_cons_of_mem _ hz)) (fun z hz => hy z (List.mem_cons_of_mem _ hz)) a2 c2
              rw [PyData.eqvAll, Bool.and_eq_true, k1, k2, List.cons.injEq]
            · cases e2
        · cases e1
    cases d with
    | non =>
      cases e with
      | non => simp only [py, Option.some.injEq] at h1 h2; subst h1 h2; simp [PyData.eqv]
      | str y => simp only [py, Option.some.injEq] at h1 h2; subst h1 h2; simp [PyData.eqv]
      | tup ys => simp only [py, Option.some.injEq] at h1 h2; obtain ⟨qs, _, rfl⟩ := Option.map_eq_some_iff.mp h2; subst h1; simp [PyData.eqv]
      | _ => cases he
    | str x =>
      cases e with
      | non => simp only [py, Option.some.injEq] at h1 h2; subst h1 h2; simp [PyData.eqv]
      | str y => simp only [py, Option.some.injEq] at h1 h2; subst h1 h2; simp [PyData.eqv]
      | tup ys => simp only [py, Option.some.injEq] at h1 h2; obtain ⟨qs, _, rfl⟩ := Option.map_eq_some_iff.mp h2; subst h1; simp [PyData.eqv]
      | _ => cases he
    | tup xs =>
      simp only [py] at h1
      obtain ⟨ps, a1, rfl⟩ := Option.map_eq_some_iff.mp h1
      cases e with
      | non => simp only [py, Option.some.injEq] at h2; subst h2; simp [PyData.eqv]
      | str y => simp only [py, Option.some.injEq] at h2; subst h2; simp [PyData.eqv]
      | tup ys =>
        simp only [py] at h2
        obtain ⟨qs, a2, rfl⟩ := Option.map_eq_some_iff.mp h2
        have hx : xs.all (sB n) = true := hd
        have hy : ys.all (sB n) = true := he
        rw [PyData.eqv, all xs ys ps qs (List.all_eq_true.mp hx) (List.all_eq_true.mp hy) a1 a2, D.tup.injEq]
      | _ => cases he
    | _ => cases hd
theorem sB_pl : ∀ {n : Nat} {d : D}, sB n d = true → plB n d = true
  | 0, _, h => by cases h
  | n + 1, .non, _ => rfl
  | n + 1, .str _, _ => rfl
  | n + 1, .tup xs, h => by
    have h' : xs.all (sB n) = true := h
    show xs.all (plB n) = true
    rw [List.all_eq_true] at h' ⊢
    exact fun x hx => sB_pl (h' x hx)
theorem sB_mono : ∀ {n m : Nat} {d : D}, n ≤ m → sB n d = true → sB m d = true
  | 0, _, _, _, h => by cases h
  | n + 1, 0, _, hm, _ => absurd hm (by omega)
  | n + 1, m + 1, .tup xs, hm, h => by
    have h' : xs.all (sB n) = true := h
    show xs.all (sB m) = true
    rw [List.all_eq_true] at h' ⊢
    exact fun x hx => sB_mono (by omega) (h' x hx)
  | n + 1, m + 1, .non, _, _ => rfl
  | n + 1, m + 1, .str _, _, _ => rfl
theorem any_eqv {G : GH} {x : D} {p : PyData} (hx : sB 64 x = true) (ep : py G 64 x = some p) : ∀ {ys : List D} {ps : List PyData}, (∀ y ∈ ys, sB 64 y = true) → pys (py G 64) ys = some ps → ((ps.any fun z => PyData.eqv z p) = true ↔ x ∈ ys)
  | [], ps, _, e => by cases e; simp
  | y :: ys, ps, h, e => by
    simp only [pys] at e
    split at e
    · rename_i q qs e1 e2
      cases e
      have k1 := eqv_sB G 64 y x q p (h y (List.mem_cons_self ..)) hx e1 ep
      have k2 := any_eqv hx ep (fun z hz => h z (List.mem_cons_of_mem _ hz)) e2
      rw [List.any_cons, Bool.or_eq_true, k1, k2, List.mem_cons]
      constructor
      · rintro (h | h)
        · exact .inl h.symm
        · exact .inr h
      · rintro (h | h)
        · exact .inl h.symm
        · exact .inr h
    · cases e
open Classical in
theorem notIn_sB {G : GH} {i : Nat} {x : D} {ys : List D} (g : G[i]? = some (.lst ys)) (hx : sB 64 x = true) (hy : ∀ y ∈ ys, sB 64 y = true) : gNotIn x (.ref i) G = .ok (.bl (!decide (x ∈ ys))) G := by
  obtain ⟨p, ep, _⟩ := py_pl G 64 x (sB_pl hx)
  obtain ⟨ps, es, _⟩ := pys_pl (f := py G 64) (xs := ys) fun y h => py_pl G 64 y (sB_pl (hy y h))
  have k := any_eqv hx ep hy es
  unfold gNotIn inB itemsD
  dsimp only
  rw [g]
  dsimp only
  rw [ep, es]
  dsimp only [Option.map_some]
  have e : (ps.any fun z => PyData.eqv z p) = decide (x ∈ ys) := by
    by_cases h : x ∈ ys
    · rw [k.mpr h, decide_eq_true h]
    · have h2 : ¬ (ps.any fun z => PyData.eqv z p) = true := fun z => h (k.mp z)
      rw [decide_eq_false h]; simpa using h2
  rw [e]; rfl
/-- two lists of the same trees -/
theorem ne_lists {G : GH} {i j : Nat} {xs : List D} (h1 : G[i]? = some (.lst xs)) (h2 : G[j]? = some (.lst xs)) (hp : ∀ x ∈ xs, plB 63 x = true) : gNe (.ref i) (.ref j) G = .ok (.bl false) G := by
  obtain ⟨ps, e, pl⟩ := pys_pl (f := py G 63) (xs := xs) fun x hx => py_pl G 63 x (hp x hx)
  have e1 : py G 64 (.ref i) = some (.list ps) := by simp only [py, h1, e, Option.map_some]
  have e2 : py G 64 (.ref j) = some (.list ps) := by simp only [py, h2, e, Option.map_some]
  have e3 : eqB (.ref i) (.ref j) G = some true := by
    unfold eqB
    dsimp only
    rw [h1, h2]
    dsimp only
    unfold eqDeep
    rw [e1, e2]
    dsimp only
    rw [eqv_self (p := .list ps) (by rw [PyData.plain]; exact pl)]
  unfold gNe
  rw [e3]; rfl
theorem Kd.sb {ss : List Str} {d : D} (h : Kd ss d) : sB 2 d = true := by
  rcases h with rfl | rfl | rfl | ⟨k, s, _, _, rfl⟩ <;> rfl
theorem Tk.sb {ss : List Str} : ∀ {n : Nat} {d : D}, Tk ss n d → sB (3 * n + 2) d = true
  | 0, d, h => by
    rcases h with rfl | ⟨k, s, hk, hs, rfl⟩ <;> rfl
  | n + 1, d, h => by
    rcases h with rfl | ⟨k, s, hk, hs, rfl⟩ | ⟨k, rows, hk, rfl, hl, hr⟩
    · exact sB_mono (show 2 ≤ 3 * (n + 1) + 2 by omega) rfl
    · exact sB_mono (show 2 ≤ 3 * (n + 1) + 2 by omega) rfl
    · show ([D.str k, .tup rows].all (sB (3 * n + 4))) = true
      have e : sB (3 * n + 4) (.tup rows) = true := by
        show rows.all (sB (3 * n + 3)) = true
        rw [List.all_eq_true]
        intro d hd
        obtain ⟨l, p, t, h1, h2, h3, rfl⟩ := hr d hd
        show ([D.str l, p, t].all (sB (3 * n + 2))) = true
        simp only [List.all_cons, List.all_nil, Bool.and_true, Bool.and_eq_true]
        exact ⟨rfl, sB_mono (by omega) h2.sb, Tk.sb h3⟩
      simp only [List.all_cons, List.all_nil, Bool.and_true, Bool.and_eq_true]
      exact ⟨rfl, e⟩
/-! ### the search, in plain words -/
open Classical in
noncomputable def addS (F : List D) (y : D) : List D := if y ∈ F then F else F ++ [y]
noncomputable def addAll (F : List D) (ys : List D) : List D := ys.foldl addS F
theorem addS_pre (F : List D) (y : D) : ∃ B, addS F y = F ++ B := by
  unfold addS
  split
  · exact ⟨[], by simp⟩
  · exact ⟨[y], rfl⟩
theorem addAll_pre : ∀ (ys F : List D), ∃ B, addAll F ys = F ++ B
  | [], F => ⟨[], by simp [addAll]⟩
  | y :: ys, F => by
    obtain ⟨B1, e1⟩ := addS_pre F y
    obtain ⟨B2, e2⟩ := addAll_pre ys (addS F y)
    exact ⟨B1 ++ B2, by rw [show addAll F (y :: ys) = addAll (addS F y) ys from rfl, e2, e1, List.append_assoc]⟩
theorem addAll_mem {P : D → Prop} : ∀ (ys F : List D), (∀ x ∈ F, P x) → (∀ y ∈ ys, P y) → ∀ x ∈ addAll F ys, P x
  | [], F, hF, _ => hF
  | y :: ys, F, hF, hy => by
    refine addAll_mem ys (addS F y) (fun x hx => ?_) fun z hz => hy z (List.mem_cons_of_mem _ hz)
    unfold addS at hx
    split at hx
    · exact hF x hx
    · rcases List.mem_append.mp hx with h | h
      · exact hF x h
      · rw [List.mem_singleton.mp h]; exact hy y (List.mem_cons_self ..)
theorem addAll_nodup : ∀ (ys F : List D), F.Nodup → (addAll F ys).Nodup
  | [], F, h => h
  | y :: ys, F, h => by
    refine addAll_nodup ys (addS F y) ?_
    unfold addS
    split
    · exact h
    · rename_i hn
      rw [List.nodup_append]
      exact ⟨h, by simp, fun a ha b hb e => hn (by rw [List.mem_singleton.mp hb] at e; rw [← e]; exact ha)⟩
theorem nodup_le : ∀ (F S : List D), F.Nodup → (∀ x ∈ F, x ∈ S) → F.length ≤ S.length
  | [], _, _, _ => by simp
  | x :: F, S, nd, h => by
    obtain ⟨A, B, rfl⟩ := List.append_of_mem (h x (List.mem_cons_self ..))
    have nd' := List.nodup_cons.mp nd
    have := nodup_le F (A ++ B) nd'.2 fun y hy => by
      have := h y (List.mem_cons_of_mem _ hy)
      rcases List.mem_append.mp this with h1 | h1
      · exact List.mem_append_left _ h1
      · rcases List.mem_cons.mp h1 with e | h1
        · rw [e] at hy; exact absurd hy nd'.1
        · exact List.mem_append_right _ h1
    simp at this ⊢
    omega
/-- by the queue: from the place i on, at most k turns -/
noncomputable def runQ (nx : D → List D) : Nat → Nat → List D → List D
  | 0, _, F => F
  | k + 1, i, F => match F[i]? with
    | some x => runQ nx k (i + 1) (addAll F (nx x))
    | none => F
/-- a level: the stages of L one after the other -/
noncomputable def lev (nx : D → List D) (F L : List D) : List D := L.foldl (fun F x => addAll F (nx x)) F
theorem lev_pre (nx : D → List D) : ∀ (L F : List D), ∃ B, lev nx F L = F ++ B
  | [], F => ⟨[], by simp [lev]⟩
  | x :: L, F => by
    obtain ⟨B1, e1⟩ := addAll_pre (nx x) F
    obtain ⟨B2, e2⟩ := lev_pre nx L (addAll F (nx x))
    exact ⟨B1 ++ B2, by rw [show lev nx F (x :: L) = lev nx (addAll F (nx x)) L from rfl, e2, e1, List.append_assoc]⟩
/-- the queue runs through a level -/
theorem runQ_lev (nx : D → List D) : ∀ (L : List D) (k i : Nat) (F R : List D), F.drop i = L ++ R → runQ nx (k + L.length) i F = runQ nx k (i + L.length) (lev nx F L)
  | [], k, i, F, R, h => by simp [lev]
  | x :: L, k, i, F, R, h => by
    have hx : F[i]? = some x := by
      have : (F.drop i)[0]? = some x := by rw [h]; rfl
      simpa using this
    have e : k + (x :: L).length = (k + L.length) + 1 := by simp; omega
    rw [e, runQ, hx]
    dsimp only
    obtain ⟨B, eB⟩ := addAll_pre (nx x) F
    have hi : i < F.length := (List.getElem?_eq_some_iff.mp hx).1
    have h' : (addAll F (nx x)).drop (i + 1) = L ++ (R ++ B) := by
      rw [eB, List.drop_append_of_le_length (by omega)]
      have : F.drop (i + 1) = L ++ R := by
        rw [List.drop_eq_getElem_cons hi] at h
        simp only [List.cons_append, List.cons.injEq] at h
        exact h.2
      rw [this, List.append_assoc]
    rw [runQ_lev nx L k (i + 1) (addAll F (nx x)) (R ++ B) h']
    have e2 : i + 1 + L.length = i + (x :: L).length := by simp; omega
    rw [e2]; rfl
/-- by levels: at most m of them -/
noncomputable def runL (nx : D → List D) : Nat → List D → List D → List D
  | 0, F, _ => F
  | m + 1, F, L => if (lev nx F L).length = F.length then lev nx F L else runL nx m (lev nx F L) ((lev nx F L).drop F.length)
/-- the two searches find the same, in the same order -/
theorem runs_eq (nx : D → List D) (S : List D) (cl : ∀ x ∈ S, ∀ y ∈ nx x, y ∈ S) : ∀ (m k i : Nat) (F : List D), F.Nodup → (∀ x ∈ F, x ∈ S) → S.length < m + F.length → S.length < k + i → i < F.length → runL nx m F (F.drop i) = runQ nx k i F
  | 0, k, i, F, nd, hS, hm, hk, hi => by
    have := nodup_le F S nd hS
    omega
  | m + 1, k, i, F, nd, hS, hm, hk, hi => by
    have hF := nodup_le F S nd hS
    have levP : ∀ (L F : List D), F.Nodup → (∀ x ∈ F, x ∈ S) → (∀ x ∈ L, x ∈ S) → (lev nx F L).Nodup ∧ ∀ x ∈ lev nx F L, x ∈ S := by
      intro L
      induction L with
      | nil => intro F a b _; exact ⟨a, b⟩
      | cons x L ih =>
        intro F a b c
        exact ih (addAll F (nx x)) (addAll_nodup _ _ a) (addAll_mem _ _ b (cl x (c x (List.mem_cons_self ..)))) fun y hy => c y (List.mem_cons_of_mem _ hy)
    obtain ⟨nd2, hS2⟩ := levP (F.drop i) F nd hS fun x hx => hS x (List.mem_of_mem_drop hx)
    obtain ⟨B, eB⟩ := lev_pre nx (F.drop i) F
    have hF2 := nodup_le _ S nd2 hS2
    have hk2 : ∃ k', k = k' + (F.drop i).length := ⟨k - (F.drop i).length, by rw [List.length_drop]; omega⟩
    obtain ⟨k', rfl⟩ := hk2
    rw [runQ_lev nx (F.drop i) k' i F [] (by simp), runL]
    have ei : i + (F.drop i).length = F.length := by rw [List.length_drop]; omega
    rw [ei]
    rw [List.length_drop] at hk
    by_cases h : (lev nx F (F.drop i)).length = F.length
    · rw [if_pos h]
      cases k' with
      | zero => rfl
      | succ k' =>
        rw [runQ, List.getElem?_eq_none (by omega)]
    · rw [if_neg h]
      have hlt : F.length < (lev nx F (F.drop i)).length := by
        rw [eB, List.length_append] at h ⊢
        omega
      exact runs_eq nx S cl m k' F.length _ nd2 hS2 (by omega) (by omega) hlt
end Wk10
end
section
namespace Wk10
open PySem PySem.Spec PyProof.Rows L2 F2
/-! ### the stages that can be reached -/
/-- the head of a talk -/
def hdN (kvs : List (Key × D)) : Nat → D → D
  | 0, d => d
  | n + 1, .tup [.str k, .str s] => match valD kvs (.inr s) with
    | some v => if k = Str.ofString "dual" then dualD 2 (hdN kvs n v) else hdN kvs n v
    | none => .non
  | _, d => d
theorem hdN_hd {kvs : List (Key × D)} {d : D} (h : Hd d) : ∀ n, hdN kvs n d = d
  | 0 => rfl
  | n + 1 => by
    rcases h with rfl | ⟨k, rows, hk, rfl⟩ <;> rfl
theorem hdN_pth {ss : List Str} {kvs : List (Key × D)} {t h : D} {b : Bool} {n : Nat} (p : Pth kvs t b h n) (hh : Tk ss 2 h) : ∀ m, n ≤ m → hdN kvs m t = turnD b h := by
  induction p with
  | @here t hd => intro m _; rw [hdN_hd hd]; rfl
  | @name s v h b n hv p ih =>
    intro m hm
    match m, hm with
    | m + 1, hm =>
      simp only [hdN, hv]
      rw [if_neg (by simp), ih hh m (by omega)]
  | @dual s v h b n hv p ih =>
    intro m hm
    match m, hm with
    | m + 1, hm =>
      simp only [hdN, hv]
      simp only [if_true]
      rw [ih hh m (by omega), turn_not b hh]
/-- the heads behind a stage's rows -/
def nxt (kvs : List (Key × D)) : D → List D
  | .tup [.str _, .tup rows] => rows.map fun r => match r with
    | .tup [_, _, t] => hdN kvs 5 t
    | _ => .non
  | _ => []
/-- a stage -/
def Sg (ss : List Str) (d : D) : Prop := Tk ss 2 d ∧ Hd d
theorem Sg.rows {ss : List Str} {k : String} {rows : List D} (h : Sg ss (.tup [.str k, .tup rows])) : rows.length ≤ 3 ∧ ∀ r ∈ rows, ∃ (l : String) (p t : D), l ∈ labs ∧ Kd ss p ∧ Tk ss 1 t ∧ r = .tup [.str l, p, t] := by
  rcases h.1 with e | ⟨k', s, _, _, e⟩ | ⟨k', rows', _, e, hl, hr⟩
  · simp at e
  · simp at e
  · simp only [D.tup.injEq, List.cons.injEq, and_true] at e
    obtain ⟨_, e⟩ := e
    subst e
    exact ⟨hl, hr⟩
theorem Sg.sb {ss : List Str} {d : D} (h : Sg ss d) : sB 63 d = true := sB_mono (show 3 * 2 + 2 ≤ 63 by decide) h.1.sb
theorem dualD_up {ss : List Str} : ∀ {n m : Nat} {d : D}, Tk ss n d → n ≤ m → dualD m d = dualD n d
  | 0, m, d, h, _ => by
    rcases h with rfl | ⟨k, s, hk, hs, rfl⟩ <;> simp
  | n + 1, 0, d, h, hm => absurd hm (by omega)
  | n + 1, m + 1, d, h, hm => by
    rcases h with rfl | ⟨k, s, hk, hs, rfl⟩ | ⟨k, rows, hk, rfl, hl, hr⟩
    · simp
    · simp
    · rw [dualD_rows, dualD_rows]
      have e : rows.map (rowD (dualD m)) = rows.map (rowD (dualD n)) := by
        refine List.map_congr_left fun d hd => ?_
        obtain ⟨l, p, t, h1, h2, h3, rfl⟩ := hr d hd
        show D.tup [.str l, p, dualD m t] = .tup [.str l, p, dualD n t]
        rw [dualD_up h3 (by omega)]
      rw [e]
/-- the talks within a talk -/
def subs : Nat → D → List D
  | n + 1, .tup [.str k, .tup rows] => .tup [.str k, .tup rows] :: rows.flatMap fun r => match r with
    | .tup [_, _, t] => subs n t
    | _ => []
  | _, d => [d]
theorem subs_self (n : Nat) (d : D) : d ∈ subs n d := by
  unfold subs
  split <;> simp
theorem flat_len {α β : Type} (f : α → List β) (c : Nat) : ∀ (l : List α), (∀ x ∈ l, (f x).length ≤ c) → (l.flatMap f).length ≤ l.length * c
  | [], _ => by simp
  | x :: l, h => by
    rw [List.flatMap_cons, List.length_append, List.length_cons]
    have h1 := h x (List.mem_cons_self ..)
    have h2 := flat_len f c l fun y hy => h y (List.mem_cons_of_mem _ hy)
    rw [Nat.add_mul]; omega
theorem subs_len {ss : List Str} : ∀ {n : Nat} {d : D}, Tk ss n d → (subs n d).length ≤ 4 ^ n
  | 0, d, h => by
    rcases h with rfl | ⟨k, s, hk, hs, rfl⟩ <;> simp [subs]
  | n + 1, d, h => by
    have hp : 1 ≤ 4 ^ n := Nat.one_le_pow _ _ (by decide)
    rcases h with rfl | ⟨k, s, hk, hs, rfl⟩ | ⟨k, rows, hk, rfl, hl, hr⟩
    · simp only [subs, List.length_cons, List.length_nil]; rw [Nat.pow_succ]; omega
    · simp only [subs, List.length_cons, List.length_nil]; rw [Nat.pow_succ]; omega
    · rw [subs, List.length_cons]
      have := flat_len (fun r : D => match r with
        | .tup [_, _, t] => subs n t
        | _ => []) (4 ^ n) rows fun r hr' => by
          obtain ⟨l, p, t, h1, h2, h3, rfl⟩ := hr r hr'
          exact subs_len h3
      have h2 : rows.length * 4 ^ n ≤ 3 * 4 ^ n := Nat.mul_le_mul_right _ hl
      rw [Nat.pow_succ]; omega
theorem subs_closed {ss : List Str} : ∀ {n : Nat} {d y : D}, n ≤ 2 → Tk ss n d → y ∈ subs n d → Tk ss 2 y ∧ ∀ (k : Str) (rows : List D), y = .tup [.str k, .tup rows] → ∀ r ∈ rows, ∃ (l p t : D), r = .tup [l, p, t] ∧ Tk ss 1 t ∧ t ∈ subs n d
  | 0, d, y, hn, h, hy => by
    have e : y = d := by
      rcases h with rfl | ⟨k, s, hk, hs, rfl⟩ <;> simpa [subs] using hy
    subst e
    refine ⟨Tk.up (by omega) h, fun k rows e => ?_⟩
    rcases h with e2 | ⟨k', s, _, _, e2⟩ <;> rw [e2] at e <;> simp at e
  | n + 1, d, y, hn, h, hy => by
    rcases h with rfl | ⟨k, s, hk, hs, rfl⟩ | ⟨k, rows, hk, rfl, hl, hr⟩
    · have e : y = .tup [.str "end"] := by simpa [subs] using hy
      subst e
      exact ⟨Tk.end_ 2, fun k rows e => by simp at e⟩
    · have e : y = .tup [.str k, .str s] := by simpa [subs] using hy
      subst e
      exact ⟨Tk.ref hk hs 2, fun k rows e => by simp at e⟩
    · rw [subs] at hy
      rcases List.mem_cons.mp hy with rfl | hy
      · refine ⟨Tk.up (by omega) (show Tk ss (n + 1) _ from .inr (.inr ⟨k, rows, hk, rfl, hl, hr⟩)), fun k' rows' e r hr' => ?_⟩
        simp only [D.tup.injEq, List.cons.injEq, and_true] at e
        obtain ⟨_, e⟩ := e
        subst e
        obtain ⟨l, p, t, h1, h2, h3, rfl⟩ := hr r hr'
        refine ⟨_, _, _, rfl, Tk.up (by omega) h3, ?_⟩
        rw [subs]
        exact List.mem_cons_of_mem _ (List.mem_flatMap.mpr ⟨_, hr', subs_self n t⟩)
      · obtain ⟨r, hr', hy⟩ := List.mem_flatMap.mp hy
        obtain ⟨l, p, t, h1, h2, h3, rfl⟩ := hr r hr'
        obtain ⟨q1, q2⟩ := subs_closed (by omega) h3 hy
        refine ⟨q1, fun k' rows' e r2 hr2 => ?_⟩
        obtain ⟨l2, p2, t2, e2, e3, e4⟩ := q2 k' rows' e r2 hr2
        refine ⟨l2, p2, t2, e2, e3, ?_⟩
        rw [subs]
        exact List.mem_cons_of_mem _ (List.mem_flatMap.mpr ⟨_, hr', e4⟩)
section
variable {ss : List Str} {kvs : List (Key × D)}
/-- all that can be met from the root d0 -/
def S0 (kvs : List (Key × D)) (d0 : D) : List D := subs 2 d0 ++ kvs.flatMap fun p => subs 2 p.2
def SS (kvs : List (Key × D)) (d0 : D) : List D := S0 kvs d0 ++ (S0 kvs d0).map (dualD 2)
theorem SS_len (t : TabOk ss kvs) (hl : kvs.length ≤ 3) {d0 : D} (h0 : Tk ss 2 d0) : (SS kvs d0).length ≤ 128 := by
  have h1 : (subs 2 d0).length ≤ 16 := subs_len h0
  have h2 := flat_len (fun p : Key × D => subs 2 p.2) 16 kvs fun p hp => by
    obtain ⟨i, hi, e⟩ := List.mem_iff_getElem.mp hp
    exact subs_len (t.ent i p (by rw [List.getElem?_eq_some_iff]; exact ⟨hi, e⟩)).tk
  unfold SS S0
  rw [List.length_append, List.length_map, List.length_append]
  omega
theorem S0_tk (t : TabOk ss kvs) {d0 y : D} (h0 : Tk ss 2 d0) (hy : y ∈ S0 kvs d0) : Tk ss 2 y ∧ ∀ (k : Str) (rows : List D), y = .tup [.str k, .tup rows] → ∀ r ∈ rows, ∃ (l p t : D), r = .tup [l, p, t] ∧ Tk ss 1 t ∧ t ∈ S0 kvs d0 := by
  rcases List.mem_append.mp hy with h | h
  · obtain ⟨q1, q2⟩ := subs_closed (Nat.le_refl 2) h0 h
    exact ⟨q1, fun k rows e r hr => by
      obtain ⟨l, p, t, a, b, c⟩ := q2 k rows e r hr
      exact ⟨l, p, t, a, b, List.mem_append_left _ c⟩⟩
  · obtain ⟨p, hp, hy⟩ := List.mem_flatMap.mp h
    obtain ⟨i, hi, e⟩ := List.mem_iff_getElem.mp hp
    have hv := (t.ent i p (by rw [List.getElem?_eq_some_iff]; exact ⟨hi, e⟩)).tk
    obtain ⟨q1, q2⟩ := subs_closed (Nat.le_refl 2) hv hy
    exact ⟨q1, fun k rows e r hr => by
      obtain ⟨l, p', t, a, b, c⟩ := q2 k rows e r hr
      exact ⟨l, p', t, a, b, List.mem_append_right _ (List.mem_flatMap.mpr ⟨p, hp, c⟩)⟩⟩
/-- a path ends at the talk itself or at a table's entry -/
theorem Pth.root {t h : D} {b : Bool} {n : Nat} (p : Pth kvs t b h n) : (n = 0 ∧ h = t ∧ b = false) ∨ ∃ q ∈ kvs, q.2 = h := by
  induction p with
  | here _ => exact .inl ⟨rfl, rfl, rfl⟩
  | @name s v h b n hv p ih =>
    rcases ih with ⟨_, rfl, _⟩ | ih
    · unfold valD at hv
      obtain ⟨q, hq, e⟩ := Option.map_eq_some_iff.mp hv
      exact .inr ⟨q, List.mem_of_find?_eq_some hq, e⟩
    · exact .inr ih
  | @dual s v h b n hv p ih =>
    rcases ih with ⟨_, rfl, _⟩ | ih
    · unfold valD at hv
      obtain ⟨q, hq, e⟩ := Option.map_eq_some_iff.mp hv
      exact .inr ⟨q, List.mem_of_find?_eq_some hq, e⟩
    · exact .inr ih
theorem turn_SS {d0 h : D} (b : Bool) (hs : h ∈ S0 kvs d0) : turnD b h ∈ SS kvs d0 := by
  cases b with
  | false => exact List.mem_append_left _ hs
  | true => exact List.mem_append_right _ (List.mem_map.mpr ⟨h, hs, rfl⟩)
/-- the head of what is met is met -/
theorem hd_SS (t : TabOk ss kvs) (nd : ss.Nodup) (hl : kvs.length = ss.length) (h3 : ss.length ≤ 3) {d0 x : D} {m : Nat} (hx : Tk ss m x) (hm : m ≤ 2) (hs : x ∈ SS kvs d0 ∨ ¬ Hd x) : Sg ss (hdN kvs 5 x) ∧ hdN kvs 5 x ∈ SS kvs d0 := by
  obtain ⟨b, h, n, p, hn, ht, hd⟩ := pth_of t nd hl h3 hx hm
  have e := hdN_pth p ht 5 (by omega)
  rw [e]
  refine ⟨⟨turn_tk b ht, turn_hd b ht hd⟩, ?_⟩
  rcases p.root with ⟨rfl, rfl, rfl⟩ | ⟨q, hq, rfl⟩
  · rcases hs with hs | hs
    · exact hs
    · exact absurd hd hs
  · exact turn_SS b (List.mem_append_right _ (List.mem_flatMap.mpr ⟨q, hq, subs_self 2 _⟩))
theorem hd_dual_iff {d : D} {n : Nat} (h : Tk ss n d) : Hd (dualD n d) → Hd d := by
  intro hd
  have key : ∀ (k : String) (s : Str), (k = "name" ∨ k = "dual") → ¬ Hd (.tup [.str k, .str s]) := by
    intro k s hk z
    rcases z with e | ⟨k', rows, _, e⟩ <;> simp at e
  match n, h with
  | 0, .inl e => exact .inl e
  | 0, .inr ⟨k, s, hk, hs, e⟩ =>
    rw [e, dualD_ref] at hd
    rcases hk with rfl | rfl
    · exact absurd hd (by simpa using key "dual" s (.inr rfl))
    · exact absurd hd (by simpa using key "name" s (.inl rfl))
  | n + 1, .inl e => exact .inl e
  | n + 1, .inr (.inl ⟨k, s, hk, hs, e⟩) =>
    rw [e, dualD_ref] at hd
    rcases hk with rfl | rfl
    · exact absurd hd (by simpa using key "dual" s (.inr rfl))
    · exact absurd hd (by simpa using key "name" s (.inl rfl))
  | n + 1, .inr (.inr ⟨k, rows, hk, e, _, _⟩) => exact .inr ⟨k, rows, hk, e⟩
theorem nxt_SS (t : TabOk ss kvs) (nd : ss.Nodup) (hl : kvs.length = ss.length) (h3 : ss.length ≤ 3) {d0 : D} (h0 : Tk ss 2 d0) {x : D} (hx : x ∈ SS kvs d0) : ∀ y ∈ nxt kvs x, y ∈ SS kvs d0 := by
  rcases List.mem_append.mp hx with h | h
  · obtain ⟨q1, q2⟩ := S0_tk t h0 h
    intro y hy
    unfold nxt at hy
    split at hy
    · rename_i k rows
      obtain ⟨r, hr, rfl⟩ := List.mem_map.mp hy
      obtain ⟨l, p, f, rfl, hf, hm⟩ := q2 k rows rfl r hr
      exact (hd_SS t nd hl h3 hf (by omega) (.inl (List.mem_append_left _ hm))).2
    · cases hy
  · obtain ⟨z, hz, rfl⟩ := List.mem_map.mp h
    obtain ⟨q1, q2⟩ := S0_tk t h0 hz
    intro y hy
    rcases q1 with rfl | ⟨k, s, hk, hs, rfl⟩ | ⟨k, rows, hk, rfl, hl', hr⟩
    · simp [nxt] at hy
    · simp [nxt] at hy
    · rw [dualD_rows] at hy
      simp only [nxt] at hy
      obtain ⟨r, hr', rfl⟩ := List.mem_map.mp hy
      obtain ⟨r0, hr0, rfl⟩ := List.mem_map.mp hr'
      obtain ⟨l, p, f, rfl, hf, hm⟩ := q2 _ rows rfl r0 hr0
      show hdN kvs 5 (dualD 1 f) ∈ SS kvs d0
      refine (hd_SS t nd hl h3 hf.dual (by omega) ?_).2
      by_cases hd : Hd (dualD 1 f)
      · left
        rw [← dualD_up hf (show 1 ≤ 2 by omega)]
        exact List.mem_append_right _ (List.mem_map.mpr ⟨f, hm, rfl⟩)
      · exact .inr hd
end
end Wk10
end
section
namespace Wk10
open PySem PySem.Spec PyProof.Rows L2 F2
/-- all but what P names stays -/
structure Fq (P : Nat → Prop) (G G' : GH) : Prop where
  len : G.length ≤ G'.length
  at_ : ∀ i, i < G.length → ¬ P i → G'[i]? = G[i]?
theorem Fq.refl {P : Nat → Prop} {G : GH} : Fq P G G := ⟨Nat.le_refl _, fun _ _ _ => rfl⟩
theorem Fq.trans {P : Nat → Prop} {G G1 G2 : GH} (a : Fq P G G1) (b : Fq P G1 G2) : Fq P G G2 := ⟨Nat.le_trans a.len b.len, fun i h n => by rw [b.at_ i (Nat.lt_of_lt_of_le h a.len) n, a.at_ i h n]⟩
theorem Fq.app {P : Nat → Prop} {G : GH} (B : GH) : Fq P G (G ++ B) := ⟨by simp, fun i h _ => by rw [List.getElem?_append_left h]⟩
theorem Fq.set {P : Nat → Prop} {G : GH} {n : Nat} {o : GO} (h : P n) : Fq P G (G.set n o) := ⟨by simp, fun i _ hn => by rw [set_lt (fun e => hn (by rw [e]; exact h))]⟩
theorem Fq.get {P : Nat → Prop} {G G' : GH} {i : Nat} {o : GO} (f : Fq P G G') (n : ¬ P i) (h : G[i]? = some o) : G'[i]? = some o := by
  rw [f.at_ i (List.getElem?_eq_some_iff.mp h).1 n]; exact h
theorem Fq.mono {P Q : Nat → Prop} {G G' : GH} (f : Fq P G G') (h : ∀ i, P i → Q i) : Fq Q G G' := ⟨f.len, fun i hi n => f.at_ i hi fun z => n (h i z)⟩
/-- what a search's list must be -/
structure Fnd (ss : List Str) (S F : List D) : Prop where
  nd : F.Nodup
  sub : ∀ x ∈ F, x ∈ S
  sg : ∀ x ∈ F, Sg ss x
theorem Fnd.add {ss : List Str} {S F : List D} {y : D} (f : Fnd ss S F) (h1 : y ∈ S) (h2 : Sg ss y) : Fnd ss S (addS F y) :=
  ⟨addAll_nodup [y] F f.nd, addAll_mem [y] F f.sub (fun z hz => by rw [List.mem_singleton.mp hz]; exact h1), addAll_mem [y] F f.sg (fun z hz => by rw [List.mem_singleton.mp hz]; exact h2)⟩
theorem Fnd.all {ss : List Str} {S : List D} : ∀ {ys F : List D}, Fnd ss S F → (∀ y ∈ ys, y ∈ S ∧ Sg ss y) → Fnd ss S (addAll F ys)
  | [], F, f, _ => f
  | y :: ys, F, f, h => Fnd.all (ys := ys) (F := addS F y) (f.add (h y (List.mem_cons_self ..)).1 (h y (List.mem_cons_self ..)).2) fun z hz => h z (List.mem_cons_of_mem _ hz)
theorem Fnd.len {ss : List Str} {S F : List D} (f : Fnd ss S F) : F.length ≤ S.length := nodup_le F S f.nd f.sub
section
variable {ss : List Str} {kvs : List (Key × D)} {S : List D} {T : Nat}
/-- the surroundings of a search -/
structure Env (ss : List Str) (kvs : List (Key × D)) (S : List D) : Prop where
  t : TabOk ss kvs
  nd : ss.Nodup
  hl : kvs.length = ss.length
  h3 : ss.length ≤ 3
  cl : ∀ x ∈ S, ∀ y ∈ nxt kvs x, y ∈ S
  sz : S.length ≤ 128
theorem Env.hdp (e : Env ss kvs S) {m : Nat} {x : D} (hx : Tk ss m x) (hm : m ≤ 2) : Sg ss (hdN kvs 5 x) ∧ ∃ b h n, Pth kvs x b h n ∧ n ≤ 4 ∧ Tk ss 2 h ∧ hdN kvs 5 x = turnD b h := by
  obtain ⟨b, h, n, p, hn, ht, hd⟩ := pth_of e.t e.nd e.hl e.h3 hx hm
  have q := hdN_pth p ht 5 (by omega)
  rw [q]
  exact ⟨⟨turn_tk b ht, turn_hd b ht hd⟩, b, h, n, p, hn, ht, rfl⟩
theorem Env.nx (e : Env ss kvs S) {x : D} (hs : x ∈ S) (hg : Sg ss x) : ∀ y ∈ nxt kvs x, y ∈ S ∧ Sg ss y := by
  intro y hy
  refine ⟨e.cl x hs y hy, ?_⟩
  unfold nxt at hy
  split at hy
  · rename_i k rows
    rcases hg.2 with e2 | ⟨k', rows', hk, e2⟩
    · simp at e2
    · simp only [D.tup.injEq, List.cons.injEq, D.str.injEq, and_true] at e2
      obtain ⟨rfl, rfl⟩ := e2
      obtain ⟨r, hr, rfl⟩ := List.mem_map.mp hy
      obtain ⟨l, p, t, h1, h2, h3, rfl⟩ := hg.rows.2 r hr
      exact (e.hdp h3 (by omega)).1
  · cases hy
theorem Env.head (e : Env ss kvs S) {m : Nat} {x : D} (hx : Tk ss m x) (hm : m ≤ 2) (N : Nat) {G : GH} (g : G[T]? = some (.dK kvs)) : ∃ B, ph (N + 6) 3 [.ref T, x] G = .ok (hdN kvs 5 x) (G ++ B) := by
  obtain ⟨_, b, h, n, p, hn, ht, q⟩ := e.hdp hx hm
  rw [q]
  exact head_ok (.inl g) N p ht
theorem Env.lhead (e : Env ss kvs S) {m : Nat} {x : D} (hx : Tk ss m x) (hm : m ≤ 2) (N : Nat) {G : GH} (g : G[T]? = some (.dK kvs)) : ∃ B, ph (N + 10) 14 [.ref T, x] G = .ok (hdN kvs 5 x) (G ++ B) := by
  obtain ⟨_, b, h, n, p, hn, ht, q⟩ := e.hdp hx hm
  rw [q]
  obtain ⟨B, r⟩ := lhead_ok p ht (N + (4 - n)) G (.inl g)
  have en : N + (4 - n) + n + 6 = N + 10 := by omega
  rw [en] at r
  exact ⟨B, r⟩
def fol (kvs : List (Key × D)) (r : D) : D := match r with
  | .tup [_, _, t] => hdN kvs 5 t
  | _ => .non
/-! the program's search -/
theorem prow_turn (e : Env ss kvs S) {N : Nat} {a c q7 : Option D} {L : Nat} {F : List D} {l p t : D} {G : GH} (gT : G[T]? = some (.dK kvs)) (gL : G[L]? = some (.lst F)) (hne : T ≠ L) (f : Fnd ss S F) (ht : Tk ss 1 t) :
    ∃ q7' G', b4_1 (ph (N + 6)) [some (.ref T), a, some (.ref L), c, some l, some p, some t, q7] G = .nx [some (.ref T), a, some (.ref L), c, some l, some p, some t, q7'] G' ∧ G'[L]? = some (.lst (addS F (hdN kvs 5 t))) ∧ Fq (fun i => i = L) G G' := by
  obtain ⟨B, e1⟩ := e.head ht (by omega) N gT
  have hs := (e.hdp ht (by omega)).1
  generalize hdN kvs 5 t = y at *
  have gL' := grow (B := B) gL
  have hlen : F.length < 16777216 := by have := f.len; have := e.sz; omega
  have s1 : sSet (.nm 7) (fCal 2 (ph (N + 6) 3) [] (fAc (fV 0) (fAc (fV 6) (fA0)))) [some (.ref T), a, some (.ref L), c, some l, some p, some t, q7] G = .nx [some (.ref T), a, some (.ref L), c, some l, some p, some t, some y] (G ++ B) := by
    simp [e1]
  have ni := notIn_sB gL' (sB_mono (by omega) hs.sb) (fun z hz => sB_mono (show 63 ≤ 64 by omega) (f.sg z hz).sb)
  unfold b4_1
  rw [seq_nx s1]
  by_cases hy : y ∈ F
  · refine ⟨some y, G ++ B, ?_, ?_, Fq.app B⟩
    · simp [x_sSeq, ni, hy]
    · unfold addS; rw [if_pos hy]; exact gL'
  · refine ⟨some y, (G ++ B).set L (.lst (F ++ [y])), ?_, ?_, (Fq.app B).trans (Fq.set rfl)⟩
    · simp [x_sSeq, ni, hy, isTyM_lst gL', g_append gL' hlen]
    · unfold addS; rw [if_neg hy, List.getElem?_set_self (List.getElem?_eq_some_iff.mp gL').1]
theorem prows (e : Env ss kvs S) {N : Nat} {a c : Option D} {L : Nat} (hne : T ≠ L) {rows : List D} (hr : ∀ r ∈ rows, ∃ (l : String) (p t : D), l ∈ labs ∧ Kd ss p ∧ Tk ss 1 t ∧ r = .tup [.str l, p, t]) (hS : ∀ y ∈ rows.map (fol kvs), y ∈ S ∧ Sg ss y) {q4 q5 q6 q7 : Option D} {F : List D} {G : GH} (gT : G[T]? = some (.dK kvs)) (gL : G[L]? = some (.lst F)) (f : Fnd ss S F) :
    ∃ q4' q5' q6' q7' G', forIt (.tu [.nm 4, .nm 5, .nm 6]) (b4_1 (ph (N + 6))) none rows rows [some (.ref T), a, some (.ref L), c, q4, q5, q6, q7] G = .nx [some (.ref T), a, some (.ref L), c, q4', q5', q6', q7'] G' ∧ G'[L]? = some (.lst (addAll F (rows.map (fol kvs)))) ∧ Fq (fun i => i = L) G G' := by
  obtain ⟨ρ', G', e1, q4', q5', q6', q7', F', a1, a2, a3, a4, a5, _⟩ := forIt_inv (p := .tu [.nm 4, .nm 5, .nm 6]) (body := b4_1 (ph (N + 6))) (ck := none) (all := rows) (fun xs ρ G1 => ∃ q4 q5 q6 q7 F1, ρ = [some (.ref T), a, some (.ref L), c, q4, q5, q6, q7] ∧ G1[L]? = some (.lst F1) ∧ Fq (fun i => i = L) G G1 ∧ Fnd ss S F1 ∧ addAll F1 (xs.map (fol kvs)) = addAll F (rows.map (fol kvs)) ∧ ∀ r ∈ xs, r ∈ rows)
    (fun _ _ _ => chkL_none) (fun x r ρ G1 ⟨q4, q5, q6, q7, F1, b1, b2, b3, b4, b5, b6⟩ => by
      subst b1
      have hx := b6 x (List.mem_cons_self ..)
      obtain ⟨l, p, t, h1, h2, h3, rfl⟩ := hr x hx
      have hy := hS (fol kvs (.tup [.str l, p, t])) (List.mem_map.mpr ⟨_, hx, rfl⟩)
      obtain ⟨q7', G2, e2, e3, e4⟩ := prow_turn e (N := N) (a := a) (c := c) (q7 := q7) (l := .str l) (p := p) (b3.get hne gT) b2 hne b4 h3
      refine ⟨chkL_none, [some (.ref T), a, some (.ref L), c, some (.str l), some p, some t, q7], by simp, _, G2, .inl e2, _, _, _, _, _, rfl, e3, b3.trans e4, b4.add hy.1 hy.2, ?_, fun z hz => b6 z (List.mem_cons_of_mem _ hz)⟩
      rw [← b5]; rfl)
    rows [some (.ref T), a, some (.ref L), c, q4, q5, q6, q7] G ⟨_, _, _, _, F, rfl, gL, Fq.refl, f, rfl, fun _ h => h⟩
  subst a1
  exact ⟨_, _, _, _, G', e1, by rw [a2, ← a5]; rfl, a3⟩
theorem nxt_rows (k : Str) (rows : List D) : nxt kvs (.tup [.str k, .tup rows]) = rows.map (fol kvs) := rfl
theorem pwhile (e : Env ss kvs S) {N : Nat} {a : Option D} {L : Nat} (hne : T ≠ L) : ∀ (k i : Nat) (q4 q5 q6 q7 : Option D) (F : List D) (G : GH), G[T]? = some (.dK kvs) → G[L]? = some (.lst F) → Fnd ss S F → S.length < k + i → i ≤ F.length →
    ∃ c q4' q5' q6' q7' G', whl (fB (f2 gLt (fV 3) (fCall gLen (fAc (fV 2) (fA0))))) (b4_2 (ph (N + 6))) (k + 1) [some (.ref T), a, some (.ref L), some (.int i), q4, q5, q6, q7] G = .nx [some (.ref T), a, some (.ref L), c, q4', q5', q6', q7'] G' ∧ G'[L]? = some (.lst (runQ (nxt kvs) k i F)) ∧ Fq (fun i => i = L) G G' := by
  intro k
  induction k with
  | zero =>
    intro i q4 q5 q6 q7 F G gT gL f hk hi
    have := f.len
    omega
  | succ k ih =>
    intro i q4 q5 q6 q7 F G gT gL f hk hi
    rw [whl]
    have tst : (fB (f2 gLt (fV 3) (fCall gLen (fAc (fV 2) (fA0))))) [some (.ref T), a, some (.ref L), some (.int i), q4, q5, q6, q7] G = .ok (decide ((i : Int) < F.length)) G := by
      simp [g_len_lst gL]
    rw [tst, R.toS_ok]
    by_cases hlt : i < F.length
    · rw [if_pos (by simpa using hlt)]
      have hx : F[i]? = some F[i] := by simp [hlt]
      have hmem : F[i] ∈ F := List.getElem_mem hlt
      have hat : atI F (i : Int) = some F[i] := by rw [atI_nat (by omega) (by omega)]; simp [hlt]
      have hsg := f.sg _ hmem
      have hnx := e.nx (f.sub _ hmem) hsg
      generalize F[i] = x at *
      have body : ∃ q4' q5' q6' q7' G', b4_2 (ph (N + 6)) [some (.ref T), a, some (.ref L), some (.int i), q4, q5, q6, q7] G = .nx [some (.ref T), a, some (.ref L), some (.int ((i + 1 : Nat) : Int)), q4', q5', q6', q7'] G' ∧ G'[L]? = some (.lst (addAll F (nxt kvs x))) ∧ Fq (fun i => i = L) G G' := by
        rcases hsg.2 with rfl | ⟨k2, rows, hk2, rfl⟩
        · refine ⟨q4, q5, q6, q7, G, ?_, gL, Fq.refl⟩
          unfold b4_2
          simp [x_sSeq, g_ix_lst gL, hat]
        · obtain ⟨hl', hr⟩ := hsg.rows
          rw [nxt_rows] at hnx ⊢
          obtain ⟨q4', q5', q6', q7', G', e1, e2, e3⟩ := prows e (N := N) (a := a) (c := some (.int i)) (q4 := q4) (q5 := q5) (q6 := q6) (q7 := q7) hne hr hnx gT gL f
          refine ⟨q4', q5', q6', q7', G', ?_, e2, e3⟩
          have hke : k2 ≠ "end" := by rcases hk2 with rfl | rfl <;> decide
          unfold b4_2
          simp [x_sSeq, g_ix_lst gL, hat, hke, x_sFor, e1]
      obtain ⟨q4', q5', q6', q7', G1, e1, e2, e3⟩ := body
      rw [e1]
      dsimp only
      obtain ⟨B, eB⟩ := addAll_pre (nxt kvs x) F
      obtain ⟨c, r4, r5, r6, r7, G2, d1, d2, d3⟩ := ih (i + 1) q4' q5' q6' q7' (addAll F (nxt kvs x)) G1 (e3.get hne gT) e2 (f.all hnx) (by omega) (by rw [eB, List.length_append]; omega)
      refine ⟨c, r4, r5, r6, r7, G2, d1, ?_, e3.trans d3⟩
      rw [d2, runQ, hx]
    · rw [if_neg (by simpa using hlt)]
      refine ⟨_, _, _, _, _, G, rfl, ?_, Fq.refl⟩
      have hF : F[i]? = none := List.getElem?_eq_none (by omega)
      rw [runQ, hF]
      exact gL
theorem stages_ok (e : Env ss kvs S) (N : Nat) {x : D} (hx : Tk ss 2 x) (hS : hdN kvs 5 x ∈ S) {G : GH} (gT : G[T]? = some (.dK kvs)) :
    ∃ L G', ph (N + 7) 4 [.ref T, x] G = .ok (.ref L) G' ∧ G'[L]? = some (.lst (runQ (nxt kvs) 130 0 [hdN kvs 5 x])) ∧ Fq (fun i => G.length ≤ i) G G' ∧ G.length ≤ L := by
  rw [ph_4]
  obtain ⟨B, e1⟩ := e.head hx (by omega) N gT
  have hs := (e.hdp hx (by omega)).1
  generalize hdN kvs 5 x = y at *
  have gT1 := grow (B := [GO.lst [y]]) (grow (B := B) gT)
  have gL1 : (G ++ B ++ [GO.lst [y]])[(G ++ B).length]? = some (.lst [y]) := last
  have hlt := (List.getElem?_eq_some_iff.mp gT).1
  have hne : T ≠ (G ++ B).length := by simp; omega
  have f1 : Fnd ss S [y] := ⟨by simp, fun z hz => by rw [List.mem_singleton.mp hz]; exact hS, fun z hz => by rw [List.mem_singleton.mp hz]; exact hs⟩
  obtain ⟨c, q4, q5, q6, q7, G', w1, w2, w3⟩ := pwhile e (N := N) (a := some x) hne 130 0 none none none none [y] _ gT1 gL1 f1 (by have := e.sz; omega) (by omega)
  have wh : sWhile (fB (f2 gLt (fV 3) (fCall gLen (fAc (fV 2) (fA0))))) (b4_2 (ph (N + 6))) [some (.ref T), some x, some (.ref (G ++ B).length), some (.int 0), none, none, none, none] (G ++ B ++ [GO.lst [y]]) = .nx [some (.ref T), some x, some (.ref (G ++ B).length), c, q4, q5, q6, q7] G' := sWhile_eq 131 w1 (fun z => nomatch z)
  refine ⟨(G ++ B).length, G', ?_, w2, ?_, by simp⟩
  · have s1 : sSet (.nm 2) (fLst (fAc (fCal 2 (ph (N + 6) 3) [] (fAc (fV 0) (fAc (fV 1) (fA0)))) (fA0))) [some (.ref T), some x, none, none, none, none, none, none] G = .nx [some (.ref T), some x, some (.ref (G ++ B).length), none, none, none, none, none] (G ++ B ++ [GO.lst [y]]) := by
      simp [e1]
    simp only [x_runB, b4, List.map_cons, List.map_nil, List.length_cons, List.length_nil]
    have hrho : ([some (D.ref T), some x] ++ List.replicate (8 - (0 + 1 + 1)) none : Rho) = [some (.ref T), some x, none, none, none, none, none, none] := rfl
    rw [hrho, seq_nx s1]
    have s2 : sSet (.nm 3) (fC (.int 0)) [some (.ref T), some x, some (.ref (G ++ B).length), none, none, none, none, none] (G ++ B ++ [GO.lst [y]]) = .nx [some (.ref T), some x, some (.ref (G ++ B).length), some (.int 0), none, none, none, none] (G ++ B ++ [GO.lst [y]]) := by simp
    rw [seq_nx s2, seq_nx wh]
    simp [x_sSeq]
  · refine Fq.trans ((Fq.app B).trans (Fq.app [GO.lst [y]])) (w3.mono fun i h => ?_)
    rw [h]; simp
end
end Wk10
end
section
namespace Wk10
open PySem PySem.Spec PyProof.Rows L2 F2
/-! ### the law's search -/
section
variable {ss : List Str} {kvs : List (Key × D)} {S : List D} {T : Nat}
theorem lrow_turn (e : Env ss kvs S) {N : Nat} {a v k st q8 : Option D} {L Lb c : Nat} {F : List D} {r : D} {G : GH} (gT : G[T]? = some (.dK kvs)) (gL : G[L]? = some (.lst F)) (gb : G[Lb]? = some (.lst (F.drop c))) (hc : c ≤ F.length) (hne : T ≠ L) (hneb : T ≠ Lb) (hlb : L ≠ Lb) (f : Fnd ss S F)
    (hr : ∃ (l : String) (p t : D), l ∈ labs ∧ Kd ss p ∧ Tk ss 1 t ∧ r = .tup [.str l, p, t]) :
    ∃ q8' G', b16_1 (ph (N + 10)) [some (.ref T), a, some (.ref L), v, k, some (.ref Lb), st, some r, q8] G = .nx [some (.ref T), a, some (.ref L), v, k, some (.ref Lb), st, some r, q8'] G' ∧ G'[L]? = some (.lst (addS F (fol kvs r))) ∧ G'[Lb]? = some (.lst ((addS F (fol kvs r)).drop c)) ∧ Fq (fun i => i = L ∨ i = Lb) G G' := by
  obtain ⟨l, p, t, h1, h2, ht, rfl⟩ := hr
  obtain ⟨B, e1⟩ := e.lhead ht (by omega) N gT
  have hs := (e.hdp ht (by omega)).1
  show ∃ q8' G', _ ∧ G'[L]? = some (.lst (addS F (hdN kvs 5 t))) ∧ G'[Lb]? = some (.lst ((addS F (hdN kvs 5 t)).drop c)) ∧ Fq (fun i => i = L ∨ i = Lb) G G'
  generalize hdN kvs 5 t = y at *
  have gL' := grow (B := B) gL
  have gb' := grow (B := B) gb
  have hlen : F.length < 16777216 := by have := f.len; have := e.sz; omega
  have hlen2 : (F.drop c).length < 16777216 := by rw [List.length_drop]; omega
  have s1 : sSet (.nm 8) (fCal 2 (ph (N + 10) 14) [] (fAc (fV 0) (fAc (f2 gIx (fV 7) (fC (.int 2))) (fA0)))) [some (.ref T), a, some (.ref L), v, k, some (.ref Lb), st, some (.tup [.str l, p, t]), q8] G = .nx [some (.ref T), a, some (.ref L), v, k, some (.ref Lb), st, some (.tup [.str l, p, t]), some y] (G ++ B) := by
    simp [e1]
  have ni := notIn_sB gL' (sB_mono (by omega) hs.sb) (fun z hz => sB_mono (show 63 ≤ 64 by omega) (f.sg z hz).sb)
  unfold b16_1
  rw [seq_nx s1]
  have lL : L < (G ++ B).length := (List.getElem?_eq_some_iff.mp gL').1
  have lb : Lb < (G ++ B).length := (List.getElem?_eq_some_iff.mp gb').1
  by_cases hy : y ∈ F
  · refine ⟨some y, G ++ B, ?_, ?_, ?_, Fq.app B⟩
    · simp [x_sSeq, ni, hy]
    · unfold addS; rw [if_pos hy]; exact gL'
    · unfold addS; rw [if_pos hy]; exact gb'
  · have gb2 : ((G ++ B).set L (.lst (F ++ [y])))[Lb]? = some (.lst (F.drop c)) := by rw [set_lt (Ne.symm hlb)]; exact gb'
    refine ⟨some y, ((G ++ B).set L (.lst (F ++ [y]))).set Lb (.lst (F.drop c ++ [y])), ?_, ?_, ?_, ((Fq.app B).trans (Fq.set (.inl rfl))).trans (Fq.set (.inr rfl))⟩
    · have a1 : sExpr (fMeth "list" gAppend (fV 2) (fAc (fV 8) (fA0))) [some (.ref T), a, some (.ref L), v, k, some (.ref Lb), st, some (.tup [.str l, p, t]), some y] (G ++ B) = .nx [some (.ref T), a, some (.ref L), v, k, some (.ref Lb), st, some (.tup [.str l, p, t]), some y] ((G ++ B).set L (.lst (F ++ [y]))) := by
        rw [x_sExpr, x_fMeth, x_fV2, R.bind_ok, isTyM_lst gL', if_pos rfl, x_fAc, x_fV8, R.bind_ok, x_fA0, R.bind_ok, R.bind_ok, g_append gL' hlen]; rfl
      have a2 : sExpr (fMeth "list" gAppend (fV 5) (fAc (fV 8) (fA0))) [some (.ref T), a, some (.ref L), v, k, some (.ref Lb), st, some (.tup [.str l, p, t]), some y] ((G ++ B).set L (.lst (F ++ [y]))) = .nx [some (.ref T), a, some (.ref L), v, k, some (.ref Lb), st, some (.tup [.str l, p, t]), some y] (((G ++ B).set L (.lst (F ++ [y]))).set Lb (.lst (F.drop c ++ [y]))) := by
        rw [x_sExpr, x_fMeth, x_fV5, R.bind_ok, isTyM_lst gb2, if_pos rfl, x_fAc, x_fV8, R.bind_ok, x_fA0, R.bind_ok, R.bind_ok, g_append gb2 hlen2]; rfl
      have tst : fB (f2 gNotIn (fV 8) (fV 2)) [some (.ref T), a, some (.ref L), v, k, some (.ref Lb), st, some (.tup [.str l, p, t]), some y] (G ++ B) = .ok true (G ++ B) := by
        simp [ni, hy]
      rw [x_sSeq, x_sIf, tst, R.toS_ok, if_pos rfl, seq_nx a1, seq_nx a2]
      rfl
    · unfold addS; rw [if_neg hy, set_lt hlb, List.getElem?_set_self lL]
    · unfold addS
      rw [if_neg hy, List.getElem?_set_self (by rw [List.length_set]; exact lb), List.drop_append_of_le_length hc]
theorem lrows (e : Env ss kvs S) {N : Nat} {a v k st : Option D} {L Lb c : Nat} (hne : T ≠ L) (hneb : T ≠ Lb) (hlb : L ≠ Lb) {rows : List D} (hr : ∀ r ∈ rows, ∃ (l : String) (p t : D), l ∈ labs ∧ Kd ss p ∧ Tk ss 1 t ∧ r = .tup [.str l, p, t]) (hS : ∀ y ∈ rows.map (fol kvs), y ∈ S ∧ Sg ss y) {q7 q8 : Option D} {F : List D} {G : GH} (gT : G[T]? = some (.dK kvs)) (gL : G[L]? = some (.lst F)) (gb : G[Lb]? = some (.lst (F.drop c))) (hc : c ≤ F.length) (f : Fnd ss S F) :
    ∃ q7' q8' G', forIt (.nm 7) (b16_1 (ph (N + 10))) none rows rows [some (.ref T), a, some (.ref L), v, k, some (.ref Lb), st, q7, q8] G = .nx [some (.ref T), a, some (.ref L), v, k, some (.ref Lb), st, q7', q8'] G' ∧ G'[L]? = some (.lst (addAll F (rows.map (fol kvs)))) ∧ G'[Lb]? = some (.lst ((addAll F (rows.map (fol kvs))).drop c)) ∧ Fq (fun i => i = L ∨ i = Lb) G G' := by
  obtain ⟨ρ', G', e1, q7', q8', F', a1, a2, a3, a4, a5, a6, _, _⟩ := forIt_inv (p := .nm 7) (body := b16_1 (ph (N + 10))) (ck := none) (all := rows) (fun xs ρ G1 => ∃ q7 q8 F1, ρ = [some (.ref T), a, some (.ref L), v, k, some (.ref Lb), st, q7, q8] ∧ G1[L]? = some (.lst F1) ∧ G1[Lb]? = some (.lst (F1.drop c)) ∧ Fq (fun i => i = L ∨ i = Lb) G G1 ∧ Fnd ss S F1 ∧ addAll F1 (xs.map (fol kvs)) = addAll F (rows.map (fol kvs)) ∧ c ≤ F1.length ∧ ∀ r ∈ xs, r ∈ rows)
    (fun _ _ _ => chkL_none) (fun x r ρ G1 ⟨q7, q8, F1, b1, b2, b3, b4, b5, b6, b7, b8⟩ => by
      subst b1
      have hx := b8 x (List.mem_cons_self ..)
      have hy := hS (fol kvs x) (List.mem_map.mpr ⟨_, hx, rfl⟩)
      obtain ⟨q8', G2, e2, e3, e4, e5⟩ := lrow_turn e (N := N) (a := a) (v := v) (k := k) (st := st) (q8 := q8) (b4.get (by omega) gT) b2 b3 b7 hne hneb hlb b5 (hr x hx)
      obtain ⟨B, eB⟩ := addS_pre F1 (fol kvs x)
      exact ⟨chkL_none, _, x_setP_nm _ _ _, _, G2, .inl e2, _, _, _, rfl, e3, e4, b4.trans e5, b5.add hy.1 hy.2, by rw [← b6]; rfl, by rw [eB, List.length_append]; omega, fun z hz => b8 z (List.mem_cons_of_mem _ hz)⟩)
    rows [some (.ref T), a, some (.ref L), v, k, some (.ref Lb), st, q7, q8] G ⟨_, _, F, rfl, gL, gb, Fq.refl, f, rfl, hc, fun _ h => h⟩
  subst a1
  have e6 : F' = addAll F (rows.map (fol kvs)) := a6
  subst e6
  exact ⟨_, _, G', e1, a2, a3, a4⟩
/-- one stage of the level -/
theorem lstage (e : Env ss kvs S) {N : Nat} {a v k : Option D} {L Lb c : Nat} (hne : T ≠ L) (hneb : T ≠ Lb) (hlb : L ≠ Lb) {x : D} (hxS : x ∈ S) (hsg : Sg ss x) {q7 q8 : Option D} {F : List D} {G : GH} (gT : G[T]? = some (.dK kvs)) (gL : G[L]? = some (.lst F)) (gb : G[Lb]? = some (.lst (F.drop c))) (hc : c ≤ F.length) (f : Fnd ss S F) :
    ∃ q7' q8' G', b16_2 (ph (N + 10)) [some (.ref T), a, some (.ref L), v, k, some (.ref Lb), some x, q7, q8] G = .nx [some (.ref T), a, some (.ref L), v, k, some (.ref Lb), some x, q7', q8'] G' ∧ G'[L]? = some (.lst (addAll F (nxt kvs x))) ∧ G'[Lb]? = some (.lst ((addAll F (nxt kvs x)).drop c)) ∧ Fq (fun i => i = L ∨ i = Lb) G G' := by
  have hnx := e.nx hxS hsg
  rcases hsg.2 with rfl | ⟨k2, rows, hk2, rfl⟩
  · refine ⟨q7, q8, G, ?_, gL, gb, Fq.refl⟩
    unfold b16_2
    simp [x_sSeq]
  · obtain ⟨hl', hr⟩ := hsg.rows
    rw [nxt_rows] at hnx ⊢
    obtain ⟨q7', q8', G', e1, e2, e3, e4⟩ := lrows e (N := N) (a := a) (v := v) (k := k) (st := some (.tup [.str k2, .tup rows])) (q7 := q7) (q8 := q8) hne hneb hlb hr hnx gT gL gb hc f
    refine ⟨q7', q8', G', ?_, e2, e3, e4⟩
    have hke : k2 ≠ "end" := by rcases hk2 with rfl | rfl <;> decide
    unfold b16_2
    simp [x_sSeq, hke, x_sFor, e1]
/-- the loop over the levels -/
theorem llevels (e : Env ss kvs S) {N : Nat} {a : Option D} {L : Nat} (hne : T ≠ L) (all : List D) : ∀ (xs : List D) (F : List D) (i Lv : Nat) (q4 q5 q6 q7 q8 : Option D) (G : GH), G[T]? = some (.dK kvs) → G[L]? = some (.lst F) → G[Lv]? = some (.lst (F.drop i)) → L ≠ Lv → Fnd ss S F →
    ∃ v q4' q5' q6' q7' q8' G', forIt (.nm 4) (b16_3 (ph (N + 10))) none all xs [some (.ref T), a, some (.ref L), some (.ref Lv), q4, q5, q6, q7, q8] G = .nx [some (.ref T), a, some (.ref L), v, q4', q5', q6', q7', q8'] G' ∧ G'[L]? = some (.lst (runL (nxt kvs) xs.length F (F.drop i))) ∧ Fq (fun i => i = L ∨ G.length ≤ i) G G' := by
  intro xs
  induction xs with
  | nil =>
    intro F i Lv q4 q5 q6 q7 q8 G gT gL gv hlv f
    exact ⟨_, _, _, _, _, _, G, by rw [forIt, if_pos chkL_none], gL, Fq.refl⟩
  | cons y xs ih =>
    intro F i Lv q4 q5 q6 q7 q8 G gT gL gv hlv f
    rw [forIt, if_pos chkL_none, x_setP_nm]
    dsimp only
    have lT := (List.getElem?_eq_some_iff.mp gT).1
    have lL := (List.getElem?_eq_some_iff.mp gL).1
    have lv := (List.getElem?_eq_some_iff.mp gv).1
    -- below
    have s1 : sSet (.nm 5) (fLst (fA0)) [some (.ref T), a, some (.ref L), some (.ref Lv), some y, q5, q6, q7, q8] G = .nx [some (.ref T), a, some (.ref L), some (.ref Lv), some y, some (.ref G.length), q6, q7, q8] (G ++ [GO.lst []]) := by simp
    have gb0 : (G ++ [GO.lst []])[G.length]? = some (.lst (F.drop F.length)) := by rw [List.drop_length]; exact last
    -- the level's stages
    obtain ⟨ρ', G2, e1, q6', q7', q8', F', a1, a2, a3, a4, a5, a6, a7, _, _⟩ := forIt_inv (p := .nm 6) (body := b16_2 (ph (N + 10))) (ck := some Lv) (all := F.drop i) (fun ys ρ G1 => ∃ q6 q7 q8 F1, ρ = [some (.ref T), a, some (.ref L), some (.ref Lv), some y, some (.ref G.length), q6, q7, q8] ∧ G1[L]? = some (.lst F1) ∧ G1[G.length]? = some (.lst (F1.drop F.length)) ∧ Fq (fun j => j = L ∨ j = G.length) (G ++ [GO.lst []]) G1 ∧ Fnd ss S F1 ∧ lev (nxt kvs) F1 ys = lev (nxt kvs) F (F.drop i) ∧ F.length ≤ F1.length ∧ (∃ B, F1 = F ++ B) ∧ ∀ x ∈ ys, x ∈ F)
      (fun ρ G1 ⟨_, _, _, _, _, _, _, h, _⟩ n hn => by cases hn; exact h.get (by omega) (grow gv)) (fun x r ρ G1 ⟨q6, q7, q8, F1, b1, b2, b3, b4, b5, b6, b7, b8, b9⟩ => by
        subst b1
        have hx := b9 x (List.mem_cons_self ..)
        obtain ⟨q7', q8', G3, d1, d2, d3, d4⟩ := lstage e (N := N) (a := a) (v := some (.ref Lv)) (k := some y) (q7 := q7) (q8 := q8) hne (show T ≠ G.length by omega) (show L ≠ G.length by omega) (f.sub x hx) (f.sg x hx) (b4.get (by omega) (grow gT)) b2 b3 b7 b5
        obtain ⟨B2, eB⟩ := addAll_pre (nxt kvs x) F1
        obtain ⟨B1, eB1⟩ := b8
        exact ⟨fun n hn => by cases hn; exact b4.get (by omega) (grow gv), _, x_setP_nm _ _ _, _, G3, .inl d1, _, _, _, _, rfl, d2, d3, b4.trans d4, b5.all (e.nx (f.sub x hx) (f.sg x hx)), by rw [← b6]; rfl, by rw [eB, List.length_append]; omega, ⟨B1 ++ B2, by rw [eB, eB1, List.append_assoc]⟩, fun z hz => b9 z (List.mem_cons_of_mem _ hz)⟩)
      (F.drop i) [some (.ref T), a, some (.ref L), some (.ref Lv), some y, some (.ref G.length), q6, q7, q8] (G ++ [GO.lst []]) ⟨_, _, _, F, rfl, grow gL, gb0, Fq.refl, f, rfl, Nat.le_refl _, ⟨[], by simp⟩, fun x hx => List.mem_of_mem_drop hx⟩
    subst a1
    have e6 : F' = lev (nxt kvs) F (F.drop i) := a6
    subst e6
    generalize hF2 : lev (nxt kvs) F (F.drop i) = F2 at *
    have gvl : (G ++ [GO.lst []])[Lv]? = some (.lst (F.drop i)) := grow gv
    have s2 : sFor (fV 3) (.nm 6) (b16_2 (ph (N + 10))) [some (.ref T), a, some (.ref L), some (.ref Lv), some y, some (.ref G.length), q6, q7, q8] (G ++ [GO.lst []]) = .nx [some (.ref T), a, some (.ref L), some (.ref Lv), some y, some (.ref G.length), q6', q7', q8'] G2 := by
      rw [x_sFor, x_fV3, R.toS_ok, iter_lst gvl]
      dsimp only
      rw [unlS_none]
      exact e1
    have s3 : sSet (.nm 3) (fCall gListD (fAc (fV 5) (fA0))) [some (.ref T), a, some (.ref L), some (.ref Lv), some y, some (.ref G.length), q6', q7', q8'] G2 = .nx [some (.ref T), a, some (.ref L), some (.ref G2.length), some y, some (.ref G.length), q6', q7', q8'] (G2 ++ [GO.lst (F2.drop F.length)]) := by
      simp [g_list_lst a3]
    have len2 := a4.len
    rw [List.length_append] at len2
    have fr : Fq (fun j => j = L ∨ G.length ≤ j) G (G2 ++ [GO.lst (F2.drop F.length)]) := Fq.trans (Fq.app [GO.lst []]) ((a4.mono fun j h => h.elim .inl fun h => .inr (by omega)).trans (Fq.app _))
    have gv3 : (G2 ++ [GO.lst (F2.drop F.length)])[G2.length]? = some (.lst (F2.drop F.length)) := last
    have tst : (fNotT (fTru (fV 3))) [some (.ref T), a, some (.ref L), some (.ref G2.length), some y, some (.ref G.length), q6', q7', q8'] (G2 ++ [GO.lst (F2.drop F.length)]) = .ok (F2.drop F.length).isEmpty (G2 ++ [GO.lst (F2.drop F.length)]) := by
      simp [truB]
    have body : b16_3 (ph (N + 10)) [some (.ref T), a, some (.ref L), some (.ref Lv), some y, q5, q6, q7, q8] G = if (F2.drop F.length).isEmpty = true then .bk [some (.ref T), a, some (.ref L), some (.ref G2.length), some y, some (.ref G.length), q6', q7', q8'] (G2 ++ [GO.lst (F2.drop F.length)]) else .nx [some (.ref T), a, some (.ref L), some (.ref G2.length), some y, some (.ref G.length), q6', q7', q8'] (G2 ++ [GO.lst (F2.drop F.length)]) := by
      unfold b16_3
      rw [seq_nx s1, seq_nx s2, seq_nx s3, x_sSeq, x_sIf, tst, R.toS_ok]
      by_cases h : (F2.drop F.length).isEmpty = true
      · rw [if_pos h, if_pos h, x_sSeq]; rfl
      · rw [if_neg h, if_neg h]; rfl
    show ∃ v q4' q5' q6' q7' q8' G', (match b16_3 (ph (N + 10)) [some (.ref T), a, some (.ref L), some (.ref Lv), some y, q5, q6, q7, q8] G with
      | .nx ρ' G' => forIt (.nm 4) (b16_3 (ph (N + 10))) none all xs ρ' G'
      | .ct ρ' G' => forIt (.nm 4) (b16_3 (ph (N + 10))) none all xs ρ' G'
      | .bk ρ' G' => .nx ρ' G'
      | z => z) = .nx [some (.ref T), a, some (.ref L), v, q4', q5', q6', q7', q8'] G' ∧ _ ∧ _
    rw [body, List.length_cons, runL, hF2]
    have emp : (F2.drop F.length).isEmpty = true ↔ F2.length = F.length := by
      rw [List.isEmpty_iff, List.drop_eq_nil_iff]
      omega
    by_cases h : (F2.drop F.length).isEmpty = true
    · rw [if_pos h, if_pos (emp.mp h)]
      exact ⟨_, _, _, _, _, _, _, rfl, grow a2, fr⟩
    · rw [if_neg h, if_neg (fun z => h (emp.mpr z))]
      dsimp only
      obtain ⟨v, r4, r5, r6, r7, r8, G4, d1, d2, d3⟩ := ih F2 F.length G2.length (some y) (some (.ref G.length)) q6' q7' q8' (G2 ++ [GO.lst (F2.drop F.length)]) (fr.get (by omega) gT) (grow a2) gv3 (by omega) a5
      exact ⟨v, r4, r5, r6, r7, r8, G4, d1, d2, fr.trans (d3.mono fun j hj => hj.elim .inl fun h => .inr (by simp at h; omega))⟩
theorem lstages_ok (e : Env ss kvs S) (N : Nat) {x : D} (hx : Tk ss 2 x) (hS : hdN kvs 5 x ∈ S) {G : GH} (gT : G[T]? = some (.dK kvs)) :
    ∃ L G', ph (N + 11) 16 [.ref T, x] G = .ok (.ref L) G' ∧ G'[L]? = some (.lst (runL (nxt kvs) 200 [hdN kvs 5 x] [hdN kvs 5 x])) ∧ Fq (fun i => G.length ≤ i) G G' := by
  rw [ph_16]
  obtain ⟨B, e1⟩ := e.lhead hx (by omega) N gT
  have hs := (e.hdp hx (by omega)).1
  generalize hdN kvs 5 x = y at *
  have gL1 : (G ++ B ++ [GO.lst [y]])[(G ++ B).length]? = some (.lst [y]) := last
  have hlt := (List.getElem?_eq_some_iff.mp gT).1
  have f1 : Fnd ss S [y] := ⟨by simp, fun z hz => by rw [List.mem_singleton.mp hz]; exact hS, fun z hz => by rw [List.mem_singleton.mp hz]; exact hs⟩
  generalize hL : (G ++ B).length = L at *
  have hL2 : G.length ≤ L := by rw [← hL]; simp
  have gT1 := grow (B := [GO.lst [y]]) (grow (B := [GO.lst [y]]) (grow (B := B) gT))
  have gL2 := grow (B := [GO.lst [y]]) gL1
  have gv : (G ++ B ++ [GO.lst [y]] ++ [GO.lst [y]])[(G ++ B ++ [GO.lst [y]]).length]? = some (.lst ([y].drop 0)) := last
  have hlv : L ≠ (G ++ B ++ [GO.lst [y]]).length := by rw [List.length_append, hL]; simp
  obtain ⟨v, q4, q5, q6, q7, q8, G', w1, w2, w3⟩ := llevels e (N := N) (a := some x) (show T ≠ L by omega) (rngD 0 200) (rngD 0 200) [y] 0 _ none none none none none _ gT1 gL2 gv hlv f1
  have hl200 : (rngD 0 200).length = 200 := by simp [rngD]
  rw [hl200] at w2
  refine ⟨L, G', ?_, w2, ?_⟩
  · simp only [x_runB, b16, List.map_cons, List.map_nil, List.length_cons, List.length_nil]
    have hrho : ([some (D.ref T), some x] ++ List.replicate (9 - (0 + 1 + 1)) none : Rho) = [some (.ref T), some x, none, none, none, none, none, none, none] := rfl
    rw [hrho]
    have s1 : sSet (.nm 2) (fLst (fAc (fCal 2 (ph (N + 10) 14) [] (fAc (fV 0) (fAc (fV 1) (fA0)))) (fA0))) [some (.ref T), some x, none, none, none, none, none, none, none] G = .nx [some (.ref T), some x, some (.ref L), none, none, none, none, none, none] (G ++ B ++ [GO.lst [y]]) := by
      rw [← hL]; simp [e1]
    rw [seq_nx s1]
    have s2 : sSet (.nm 3) (fCall gListD (fAc (fV 2) (fA0))) [some (.ref T), some x, some (.ref L), none, none, none, none, none, none] (G ++ B ++ [GO.lst [y]]) = .nx [some (.ref T), some x, some (.ref L), some (.ref (G ++ B ++ [GO.lst [y]]).length), none, none, none, none, none] (G ++ B ++ [GO.lst [y]] ++ [GO.lst [y]]) := by
      rw [x_sSet, x_fCall, x_fAc, x_fV2, R.bind_ok, x_fA0, R.bind_ok, R.bind_ok, g_list_lst gL1]; rfl
    rw [seq_nx s2]
    have hx2 : rngA 1 [.int 200] = some (rngD 0 200) := by
      simp only [rngA]
      rw [if_pos (by omega)]; rfl
    have s3 : sForR 1 (fAc (fC (.int 200)) (fA0)) (.nm 4) (b16_3 (ph (N + 10))) [some (.ref T), some x, some (.ref L), some (.ref (G ++ B ++ [GO.lst [y]]).length), none, none, none, none, none] (G ++ B ++ [GO.lst [y]] ++ [GO.lst [y]]) = .nx [some (.ref T), some x, some (.ref L), v, q4, q5, q6, q7, q8] G' := by
      have ea : (fAc (fC (.int 200)) (fA0)) [some (.ref T), some x, some (.ref L), some (.ref (G ++ B ++ [GO.lst [y]]).length), none, none, none, none, none] (G ++ B ++ [GO.lst [y]] ++ [GO.lst [y]]) = .ok [.int 200] (G ++ B ++ [GO.lst [y]] ++ [GO.lst [y]]) := rfl
      rw [x_sForR, ea, R.toS_ok, hx2]
      exact w1
    rw [seq_nx s3]
    simp [x_sSeq]
  · refine Fq.trans (((Fq.app B).trans (Fq.app [GO.lst [y]])).trans (Fq.app [GO.lst [y]])) (w3.mono fun i h => ?_)
    rcases h with h | h
    · omega
    · simp at h; omega
end
end Wk10
end
section
namespace Wk10
open PySem PySem.Spec PyProof.Rows L2 F2
/-! ### the law -/
theorem runQ_fnd {ss : List Str} {kvs : List (Key × D)} {S : List D} (e : Env ss kvs S) : ∀ (k i : Nat) (F : List D), Fnd ss S F → Fnd ss S (runQ (nxt kvs) k i F)
  | 0, _, F, f => f
  | k + 1, i, F, f => by
    rw [runQ]
    cases z : F[i]? with
    | none => exact f
    | some x =>
      have hm := List.mem_of_getElem? z
      exact runQ_fnd e k (i + 1) _ (f.all (e.nx (f.sub x hm) (f.sg x hm)))
theorem g_isi_lst {n : Nat} {xs : List D} {G : GH} (h : G[n]? = some (.lst xs)) : gIsi "list" (.ref n) G = .ok (.bl true) G := by
  unfold gIsi tyN
  dsimp only
  rw [h]
  rfl
theorem atI_last {α : Type} {xs : List α} (h : 0 < xs.length) : atI xs (-1) = xs[xs.length - 1]? := by
  unfold atI ixN
  rw [if_neg (by omega), if_pos (by omega)]
  have : (-1 + (xs.length : Int)).toNat = xs.length - 1 := by omega
  rw [this]; rfl
theorem talk_turn {ss : List Str} {kvs : List (Key × D)} (t : TabOk ss kvs) (nd : ss.Nodup) (hl : kvs.length = ss.length) (h3 : ss.length ≤ 3) {a b c q5 : Option D} {T : Nat} {x : D} (hx : Tk ss 2 x) {G : GH} (g : G[T]? = some (.dK kvs)) :
    ∃ q5' G', b17_1 (ph 11) [a, b, some (.ref T), c, some x, q5] G = .nx [a, b, some (.ref T), c, some x, q5'] G' ∧ Fq (fun i => G.length ≤ i) G G' := by
  have e : Env ss kvs (SS kvs x) := ⟨t, nd, hl, h3, fun y hy => nxt_SS t nd hl h3 hx hy, SS_len t (by omega) hx⟩
  have hS : hdN kvs 5 x ∈ SS kvs x := by
    refine (hd_SS t nd hl h3 hx (Nat.le_refl 2) ?_).2
    exact .inl (List.mem_append_left _ (List.mem_append_left _ (subs_self 2 x)))
  have hs := (e.hdp hx (by omega)).1
  obtain ⟨L, G1, e1, g1, f1, hL⟩ := stages_ok e 4 hx hS (T := G.length) (G := G ++ [GO.dK kvs]) last
  have gT1 := f1.get (by have := (List.getElem?_eq_some_iff.mp g).1; simp; omega) (grow (B := [GO.dK kvs]) g)
  obtain ⟨L2, G2, e2, g2, f2'⟩ := lstages_ok e 0 hx hS (T := T) gT1
  have hF : Fnd ss (SS kvs x) [hdN kvs 5 x] := ⟨by simp, fun z hz => by rw [List.mem_singleton.mp hz]; exact hS, fun z hz => by rw [List.mem_singleton.mp hz]; exact hs⟩
  have eq := runs_eq (nxt kvs) (SS kvs x) e.cl 200 130 0 [hdN kvs 5 x] hF.nd hF.sub (by have := e.sz; simp; omega) (by have := e.sz; omega) (by simp)
  have eq' : runL (nxt kvs) 200 [hdN kvs 5 x] [hdN kvs 5 x] = runQ (nxt kvs) 130 0 [hdN kvs 5 x] := eq
  rw [eq'] at g2
  have hfin := runQ_fnd e 130 0 _ hF
  have lL : L < G1.length := (List.getElem?_eq_some_iff.mp g1).1
  have g1' := f2'.get (by omega) g1
  have ne := ne_lists g1' g2 fun z hz => sB_pl (hfin.sg z hz).sb
  refine ⟨some (.ref L), G2, ?_, ?_⟩
  · have e1' : ph 11 4 [.ref G.length, x] (G ++ [GO.dK kvs]) = .ok (.ref L) G1 := e1
    have e2' : ph 11 16 [.ref T, x] G1 = .ok (.ref L2) G2 := e2
    have s1 : sSet (.nm 5) (fCal 2 (ph 11 4) [] (fAc (fCall gDict (fAc (fV 2) (fA0))) (fAc (fV 4) (fA0)))) [a, b, some (.ref T), c, some x, q5] G = .nx [a, b, some (.ref T), c, some x, some (.ref L)] G1 := by
      simp [gDict, g, e1']
    have s2 : ∀ u v : FS, sIf (fOrT (fNotT (fTru (F2.f1 (gIsi "list") (fV 5)))) (fB (f2 gNe (fV 5) (fCal 2 (ph 11 16) [] (fAc (fV 2) (fAc (fV 4) (fA0))))))) u v [a, b, some (.ref T), c, some x, some (.ref L)] G1 = v [a, b, some (.ref T), c, some x, some (.ref L)] G2 := by
      intro u v
      simp only [x_sIf, x_fOrT, x_fNotT, x_fTru, x_f1, x_fV5, R.bind_ok, g_isi_lst g1, tru_bl, Bool.not_true, Bool.false_eq_true, if_false, x_fB, x_f2, x_fCal, x_fAc, x_fV2, x_fV4, x_fA0, List.append_nil, List.length_cons, List.length_nil, Nat.zero_add, if_true, e2', ne, R.toS_ok]
    unfold b17_1
    rw [seq_nx s1, x_sSeq, s2]
    rfl
  · refine Fq.trans (Fq.app [GO.dK kvs]) (Fq.trans (f1.mono fun i h => by simp at h; omega) (f2'.mono fun i h => ?_))
    have := f1.len
    simp at this; omega
theorem law_ok (ns : List Int) : ∃ G, ph 12 17 [.scr (ns.map D.int)] [] = .ok (.bl true) G := by
  rw [ph_17]
  obtain ⟨G0, e0, ok0, l0⟩ := pool_ok 10 ns
  obtain ⟨T, ss, kvs, G1, e1, f1, hT, gT, l1, l2, nd, t, tl⟩ := table_ok 4 G0 ok0
  have gK : (G1 ++ [GO.lst (kvs.map fun p => keyV p.1)])[G1.length]? = some (.lst (ss.map D.str)) := by rw [last, keysV t tl]
  have fK := f1.ok.app [GO.lst (kvs.map fun p => keyV p.1)]
  have h1l := f1.ok.two
  obtain ⟨d0, G2, hd0, _, f2', e2⟩ := talk_ok (ss := ss) (r := G1.length) h1l (by omega) 2 5 (G1 ++ [GO.lst (kvs.map fun p => keyV p.1)]) fK.ok gK
  have gT2 : G2[T]? = some (.dK kvs) := f2'.get (by omega) (fK.get (by omega) gT)
  simp only [x_runB, b17, List.map_cons, List.map_nil, List.length_cons, List.length_nil]
  generalize hscr : D.scr (ns.map D.int) = scr at *
  have hrho : ([some scr] ++ List.replicate (6 - (0 + 1)) none : Rho) = [some scr, none, none, none, none, none] := rfl
  rw [hrho]
  have s1 : sSet (.nm 1) (fCal 1 (ph 11 7) [] (fAc (fV 0) (fA0))) [some scr, none, none, none, none, none] [] = .nx [some scr, some (.ref 1), none, none, none, none] G0 := by
    have e0' : ph 11 7 [scr] [] = .ok (.ref 1) G0 := e0
    simp [e0']
  rw [seq_nx s1]
  have s2 : sSet (.nm 2) (fCal 1 (ph 11 12) [] (fAc (fV 1) (fA0))) [some scr, some (.ref 1), none, none, none, none] G0 = .nx [some scr, some (.ref 1), some (.ref T), none, none, none] G1 := by
    have e1' : ph 11 12 [.ref 1] G0 = .ok (.ref T) G1 := e1
    simp [e1']
  rw [seq_nx s2]
  -- the two talks
  obtain ⟨dk, G3, mk, f3, e3⟩ := pick_ok 9 G2 f2'.ok (A := fAc (fC (.str "name")) (fAc (fC (.str "dual")) (fA0))) (ds := [.str "name", .str "dual"]) (ρ := [some scr, some (.ref 1), some (.ref T), none, none, none]) (i := 1) (m := 2) (fun _ => rfl) (fun _ => rfl) rfl (by simp)
  have hk : ∃ k : String, (k = "name" ∨ k = "dual") ∧ dk = .str k := by
    simp only [List.mem_cons, List.not_mem_nil, or_false] at mk
    rcases mk with rfl | rfl
    · exact ⟨_, .inl rfl, rfl⟩
    · exact ⟨_, .inr rfl, rfl⟩
  obtain ⟨k, hk, rfl⟩ := hk
  have gT3 := f3.get (by omega) gT2
  obtain ⟨s, hs, hat⟩ : ∃ s ∈ ss, atI (ss.map D.str) (-1) = some (.str s) := by
    rw [atI_last (by simp; omega), List.getElem?_map, List.length_map]
    have hlt : ss.length - 1 < ss.length := by omega
    exact ⟨ss[ss.length - 1], List.getElem_mem hlt, by simp [hlt]⟩
  have gk4 : (G3 ++ [GO.lst (kvs.map fun p => keyV p.1)])[G3.length]? = some (.lst (ss.map D.str)) := by rw [last, keysV t tl]
  generalize hG4 : G3 ++ [GO.lst (kvs.map fun p => keyV p.1)] = G4 at *
  have gT4 : G4[T]? = some (.dK kvs) := by rw [← hG4]; exact grow gT3
  have s3 : sSet (.nm 3) (fLst (fAc (fCal 3 (ph 11 11) [] (fAc (fV 1) (fAc (fCall gListD (fAc (fV 2) (fA0))) (fAc (fC (.int 2)) (fA0))))) (fAc (fTup (fAc (f2 gIx (fLst (fAc (fC (.str "name")) (fAc (fC (.str "dual")) (fA0)))) (fCal 2 (ph 11 6) [] (fAc (fV 1) (fAc (fC (.int 2)) (fA0))))) (fAc (f2 gIx (fCall gListD (fAc (fV 2) (fA0))) (F2.f1 gNeg (fC (.int 1)))) (fA0)))) (fA0)))) [some scr, some (.ref 1), some (.ref T), none, none, none] G1 = .nx [some scr, some (.ref 1), some (.ref T), some (.ref G4.length), none, none] (G4 ++ [.lst [d0, .tup [.str k, .str s]]]) := by
    have e2' : ph 11 11 [.ref 1, .ref G1.length, .int 2] (G1 ++ [GO.lst (kvs.map fun p => keyV p.1)]) = .ok d0 G2 := e2
    have ea : (fCal 3 (ph 11 11) [] (fAc (fV 1) (fAc (fCall gListD (fAc (fV 2) (fA0))) (fAc (fC (.int 2)) (fA0))))) [some scr, some (.ref 1), some (.ref T), none, none, none] G1 = .ok d0 G2 := by
      simp [g_list_dK gT, e2']
    have eb : (fTup (fAc (f2 gIx (fLst (fAc (fC (.str "name")) (fAc (fC (.str "dual")) (fA0)))) (fCal 2 (ph 11 6) [] (fAc (fV 1) (fAc (fC (.int 2)) (fA0))))) (fAc (f2 gIx (fCall gListD (fAc (fV 2) (fA0))) (F2.f1 gNeg (fC (.int 1)))) (fA0)))) [some scr, some (.ref 1), some (.ref T), none, none, none] G2 = .ok (.tup [.str k, .str s]) G4 := by
      rw [x_fTup, x_fAc, e3, R.bind_ok]
      simp [g_list_dK gT3, hG4, g_ix_lst gk4, hat]
    rw [x_sSet, x_fLst, x_fAc, ea, R.bind_ok, x_fAc, eb, R.bind_ok]
    simp
  rw [seq_nx s3]
  have gL5 : (G4 ++ [GO.lst [d0, .tup [.str k, .str s]]])[G4.length]? = some (.lst [d0, .tup [.str k, .str s]]) := last
  have gT5 := grow (B := [GO.lst [d0, .tup [.str k, .str s]]]) gT4
  generalize hLL : G4.length = L at *
  generalize (G4 ++ [GO.lst [d0, .tup [.str k, .str s]]]) = G5 at *
  obtain ⟨ρ', G6, e6, q4, q5, a1, _⟩ := forIt_inv (p := .nm 4) (body := b17_1 (ph 11)) (ck := some L) (all := [d0, .tup [.str k, .str s]]) (fun xs ρ G => ∃ q4 q5, ρ = [some scr, some (.ref 1), some (.ref T), some (.ref L), q4, q5] ∧ G[L]? = some (.lst [d0, .tup [.str k, .str s]]) ∧ G[T]? = some (.dK kvs) ∧ ∀ x ∈ xs, Tk ss 2 x)
    (fun ρ G ⟨_, _, _, h, _⟩ n hn => by cases hn; exact h) (fun x r ρ G ⟨q4, q5, b1, b2, b3, b4⟩ => by
      subst b1
      obtain ⟨q5', G', e, f⟩ := talk_turn t nd tl l2 (a := some scr) (b := some (.ref 1)) (c := some (.ref L)) (q5 := q5) (b4 x (List.mem_cons_self ..)) b3
      have h1 := (List.getElem?_eq_some_iff.mp b2).1
      have h2 := (List.getElem?_eq_some_iff.mp b3).1
      exact ⟨fun n hn => by cases hn; exact b2, _, x_setP_nm _ _ _, _, G', .inl e, _, _, rfl, f.get (by omega) b2, f.get (by omega) b3, fun z hz => b4 z (List.mem_cons_of_mem _ hz)⟩)
    [d0, .tup [.str k, .str s]] [some scr, some (.ref 1), some (.ref T), some (.ref L), none, none] G5 ⟨_, _, rfl, gL5, gT5, fun x hx => by
      simp only [List.mem_cons, List.not_mem_nil, or_false] at hx
      rcases hx with rfl | rfl
      · exact hd0
      · exact Tk.ref hk hs 2⟩
  subst a1
  have s4 : sFor (fV 3) (.nm 4) (b17_1 (ph 11)) [some scr, some (.ref 1), some (.ref T), some (.ref L), none, none] G5 = .nx [some scr, some (.ref 1), some (.ref T), some (.ref L), q4, q5] G6 := by
    rw [x_sFor, x_fV3, R.toS_ok, iter_lst gL5]
    dsimp only
    rw [unlS_none]
    exact e6
  rw [seq_nx s4]
  exact ⟨G6, by simp [x_sSeq]⟩
end Wk10
end
theorem PySem.Challenge.cw_pourparler_k10_stages_holds : PySem.Challenge.rw_pourparler_k10_stages.Holds :=
  Wk10.holds_of 12 (by decide) (fun ns _ => Wk10.law_ok ns) ⟨rfl, by decide, by decide⟩
