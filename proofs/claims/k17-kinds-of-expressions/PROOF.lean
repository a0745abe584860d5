import PyProof.Rows.All
import HandS.ForMost
import HandS.ForExc
import HandS.Defaults
import HandS.Deep
import HandS.IsInst
import HandS.Style
import HandS.Flow
import HandS.Conv
import HandS.CallSlots
import HandS.HeadHook2
import HandS.TupAny
import HandS.DictComp
import HandS.More
import HandS.RaiseMore
import HandS.Text
import KE.DataEq
import KE.KExcSuper
import HandS.ExcInit
import HandS.ExcField
import HandS.TryOnly
import HandS.Ends
import HandS.Head0
import HandS.Head1
import HandS.Head2
import HandS.HeadEnd
import KE.KStateDown
import Lean
import PySem.Challenge.RW_pourparler_k17_kinds_of_expressions
set_option Elab.async false
set_option linter.all false
set_option maxRecDepth 100000
set_option maxHeartbeats 4000000
section
/-! F2: a layer of plain functions over HandS: tuples are values, lists, dicts and instances stand in a list of objects, an expression is a function of the slots and the objects. -/
namespace F2
open PySem PySem.Spec PyProof.Rows L2

abbrev Frag := PySem.W.Frag
/-- a value: tuples by value (ktup: one of the written part; scr: a list that never changes, the script), a changing object by its number -/
inductive D where
  | non | bl (b : Bool) | int (i : Int) | str (x : Str) | tup (xs : List D) | ref (i : Nat) | ktup (xs : List D) | scr (xs : List D)
/-- a changing object; fro, fK, fT: locked, read alone; xd: an exception's fields -/
inductive GO where
  | lst (xs : List D) | fro (xs : List D) | dK (kvs : List (Key × D)) | dT (kvs : List (List Key × D)) | fK (kvs : List (Key × D)) | fT (kvs : List (List Key × D))
  | ins (c : Str) (fs : List (Str × D)) | xd (fs : List (Str × D))
abbrev GH := List GO
abbrev Rho := List (Option D)
def strF (x : Str) : Bool := x.cps.all (· < 0x110000) && decide (x.length ≤ 16777216)

/-- a tuple of the written part -/
def KTup (K : Frag) (a : Addr) (xs : List V) : Prop := ∃ (o : Obj) (its : Array Value) (n : Nat), K.lookup a = some o ∧ o.cls = .type "tuple" ∧ o.data = .seq its n ∧ its.size ≤ sizeLine ∧ Vals xs its.toList
/-- a list that is read alone for ever -/
def FroL (K : Frag) (H : Hp) (a : Addr) (vs : List V) : Prop := (∃ o, H a = some (.frz o (.lst vs))) ∨
  ∃ (o : Obj) (its : Array Value) (n : Nat), K.lookup a = some o ∧ o.cls = .type "list" ∧ o.dict = none ∧ o.data = .seq its n ∧ its.size ≤ sizeLine ∧ Vals vs its.toList
theorem FroL.sq {K : Frag} {H : Hp} {a : Addr} {vs : List V} (h : FroL K H a vs) : SqL K H a vs := h.elim (fun ⟨o, q⟩ => .inl (.inr ⟨o, q⟩)) .inr
mutual
def DV (K : Frag) (ι : List Addr) (H : Hp) : D → V → Prop
  | .non, v => v = .non
  | .bl b, v => v = .bl b
  | .int i, v => v = .int i
  | .str x, v => v = .str x ∧ strF x = true
  | .tup xs, v => ∃ a vs, v = .ref a ∧ H a = some (.tup vs) ∧ DVs K ι H xs vs
  | .ref i, v => ∃ a, ι[i]? = some a ∧ v = .ref a
  | .ktup xs, v => ∃ a vs, v = .ref a ∧ KTup K a vs ∧ DVs K ι H xs vs
  | .scr xs, v => ∃ a vs, v = .ref a ∧ FroL K H a vs ∧ DVs K ι H xs vs
def DVs (K : Frag) (ι : List Addr) (H : Hp) : List D → List V → Prop
  | [], vs => vs = []
  | d :: ds, vs => ∃ v r, vs = v :: r ∧ DV K ι H d v ∧ DVs K ι H ds r
end

/-- the heap grows: numbers keep their addresses, tuples stand -/
structure Ext (K : Frag) (ι : List Addr) (H : Hp) (ι' : List Addr) (H' : Hp) : Prop where
  pre : ∃ m, ι' = ι ++ m
  tup : ∀ a xs, H a = some (.tup xs) → H' a = some (.tup xs)
  frz : ∀ a o u, H a = some (.frz o u) → H' a = some (.frz o u)
theorem Ext.refl {K : Frag} {ι : List Addr} {H : Hp} : Ext K ι H ι H := ⟨⟨[], by simp⟩, fun _ _ h => h, fun _ _ _ h => h⟩
theorem Ext.trans {K : Frag} {ι ι1 ι2 : List Addr} {H H1 H2 : Hp} (a : Ext K ι H ι1 H1) (b : Ext K ι1 H1 ι2 H2) : Ext K ι H ι2 H2 := by
  obtain ⟨m, rfl⟩ := a.pre
  obtain ⟨n, rfl⟩ := b.pre
  exact ⟨⟨m ++ n, by simp⟩, fun c xs h => b.tup c xs (a.tup c xs h), fun c o u h => b.frz c o u (a.frz c o u h)⟩
theorem Ext.at {K : Frag} {ι ι' : List Addr} {H H' : Hp} (e : Ext K ι H ι' H') {i : Nat} {a : Addr} (h : ι[i]? = some a) : ι'[i]? = some a := by
  obtain ⟨m, rfl⟩ := e.pre
  rw [List.getElem?_append_left (List.getElem?_eq_some_iff.mp h).1]
  exact h
/-- .. where a dict may have been unlocked -/
structure ExtW (K : Frag) (ι : List Addr) (H : Hp) (ι' : List Addr) (H' : Hp) : Prop where
  pre : ∃ m, ι' = ι ++ m
  tup : ∀ a xs, H a = some (.tup xs) → H' a = some (.tup xs)
  frl : ∀ a o xs, H a = some (.frz o (.lst xs)) → H' a = some (.frz o (.lst xs))
theorem Ext.w {K : Frag} {ι ι' : List Addr} {H H' : Hp} (e : Ext K ι H ι' H') : ExtW K ι H ι' H' := ⟨e.pre, e.tup, fun a o xs h => e.frz a o _ h⟩
theorem ExtW.at {K : Frag} {ι ι' : List Addr} {H H' : Hp} (e : ExtW K ι H ι' H') {i : Nat} {a : Addr} (h : ι[i]? = some a) : ι'[i]? = some a := by
  obtain ⟨m, rfl⟩ := e.pre
  rw [List.getElem?_append_left (List.getElem?_eq_some_iff.mp h).1]
  exact h
mutual
theorem DV.extW {K : Frag} {ι ι' : List Addr} {H H' : Hp} (e : ExtW K ι H ι' H') : ∀ {d : D} {v : V}, DV K ι H d v → DV K ι' H' d v
  | .non, _, h => by simpa only [DV] using h
  | .bl _, _, h => by simpa only [DV] using h
  | .int _, _, h => by simpa only [DV] using h
  | .str _, _, h => by simpa only [DV] using h
  | .tup xs, _, h => by
    simp only [DV] at h ⊢
    obtain ⟨a, vs, rfl, q, r⟩ := h
    exact ⟨a, vs, rfl, e.tup _ _ q, DVs.extW e r⟩
  | .ref i, _, h => by
    simp only [DV] at h ⊢
    obtain ⟨a, q, rfl⟩ := h
    exact ⟨a, e.at q, rfl⟩
  | .ktup xs, _, h => by
    simp only [DV] at h ⊢
    obtain ⟨a, vs, rfl, q, r⟩ := h
    exact ⟨a, vs, rfl, q, DVs.extW e r⟩
  | .scr xs, _, h => by
    simp only [DV] at h ⊢
    obtain ⟨a, vs, rfl, q, r⟩ := h
    exact ⟨a, vs, rfl, q.elim (fun ⟨o, q⟩ => .inl ⟨o, e.frl _ _ _ q⟩) .inr, DVs.extW e r⟩
theorem DVs.extW {K : Frag} {ι ι' : List Addr} {H H' : Hp} (e : ExtW K ι H ι' H') : ∀ {ds : List D} {vs : List V}, DVs K ι H ds vs → DVs K ι' H' ds vs
  | [], _, h => by simpa only [DVs] using h
  | d :: ds, _, h => by
    simp only [DVs] at h ⊢
    obtain ⟨v, r, rfl, h1, h2⟩ := h
    exact ⟨v, r, rfl, DV.extW e h1, DVs.extW e h2⟩
end
theorem DV.ext {K : Frag} {ι ι' : List Addr} {H H' : Hp} (e : Ext K ι H ι' H') {d : D} {v : V} (h : DV K ι H d v) : DV K ι' H' d v := DV.extW e.w h
theorem DVs.ext {K : Frag} {ι ι' : List Addr} {H H' : Hp} (e : Ext K ι H ι' H') {ds : List D} {vs : List V} (h : DVs K ι H ds vs) : DVs K ι' H' ds vs := DVs.extW e.w h
theorem DVs.length {K : Frag} {ι : List Addr} {H : Hp} : ∀ {ds : List D} {vs : List V}, DVs K ι H ds vs → ds.length = vs.length
  | [], _, h => by simp only [DVs] at h; subst h; rfl
  | d :: ds, _, h => by
    simp only [DVs] at h
    obtain ⟨v, r, rfl, _, h2⟩ := h
    simp [DVs.length h2]
theorem DVs.cons {K : Frag} {ι : List Addr} {H : Hp} {d : D} {ds : List D} {v : V} {vs : List V} (h : DV K ι H d v) (r : DVs K ι H ds vs) : DVs K ι H (d :: ds) (v :: vs) := by
  simp only [DVs]; exact ⟨v, vs, rfl, h, r⟩
theorem DVs.nil {K : Frag} {ι : List Addr} {H : Hp} : DVs K ι H [] [] := by simp only [DVs]
theorem DVs.nil_inv {K : Frag} {ι : List Addr} {H : Hp} {vs : List V} (h : DVs K ι H [] vs) : vs = [] := by simpa only [DVs] using h
theorem DVs.cons_inv {K : Frag} {ι : List Addr} {H : Hp} {d : D} {ds : List D} {vs : List V} (h : DVs K ι H (d :: ds) vs) : ∃ v r, vs = v :: r ∧ DV K ι H d v ∧ DVs K ι H ds r := by simpa only [DVs] using h
theorem DVs.append {K : Frag} {ι : List Addr} {H : Hp} : ∀ {ds es : List D} {vs ws : List V}, DVs K ι H ds vs → DVs K ι H es ws → DVs K ι H (ds ++ es) (vs ++ ws)
  | [], _, _, _, h, r => by rw [DVs.nil_inv h]; exact r
  | d :: ds, _, _, _, h, r => by
    obtain ⟨v, q, rfl, h1, h2⟩ := h.cons_inv
    exact DVs.cons h1 (DVs.append h2 r)
theorem DVs.get {K : Frag} {ι : List Addr} {H : Hp} : ∀ {ds : List D} {vs : List V} {i : Nat} {d : D}, DVs K ι H ds vs → ds[i]? = some d → ∃ v, vs[i]? = some v ∧ DV K ι H d v
  | [], _, _, _, _, e => by simp at e
  | d :: ds, _, 0, _, h, e => by
    obtain ⟨v, q, rfl, h1, h2⟩ := h.cons_inv
    simp at e; subst e
    exact ⟨v, by simp, h1⟩
  | d :: ds, _, i + 1, _, h, e => by
    obtain ⟨v, q, rfl, h1, h2⟩ := h.cons_inv
    obtain ⟨w, e1, e2⟩ := DVs.get (i := i) h2 (by simpa using e)
    exact ⟨w, by simpa using e1, e2⟩
theorem DVs.get' {K : Frag} {ι : List Addr} {H : Hp} : ∀ {ds : List D} {vs : List V} {i : Nat} {v : V}, DVs K ι H ds vs → vs[i]? = some v → ∃ d, ds[i]? = some d ∧ DV K ι H d v
  | [], _, _, _, h, e => by rw [DVs.nil_inv h] at e; simp at e
  | d :: ds, _, 0, _, h, e => by
    obtain ⟨v, q, rfl, h1, h2⟩ := h.cons_inv
    simp at e; subst e
    exact ⟨d, by simp, h1⟩
  | d :: ds, _, i + 1, _, h, e => by
    obtain ⟨v, q, rfl, h1, h2⟩ := h.cons_inv
    obtain ⟨w, e1, e2⟩ := DVs.get' (i := i) h2 (by simpa using e)
    exact ⟨w, by simpa using e1, e2⟩
theorem DVs.take {K : Frag} {ι : List Addr} {H : Hp} : ∀ {ds : List D} {vs : List V} (n : Nat), DVs K ι H ds vs → DVs K ι H (ds.take n) (vs.take n)
  | [], _, n, h => by rw [DVs.nil_inv h]; simpa using DVs.nil
  | d :: ds, _, 0, h => by simpa using DVs.nil
  | d :: ds, _, n + 1, h => by
    obtain ⟨v, q, rfl, h1, h2⟩ := h.cons_inv
    simpa using DVs.cons h1 (DVs.take n h2)
theorem DVs.drop {K : Frag} {ι : List Addr} {H : Hp} : ∀ {ds : List D} {vs : List V} (n : Nat), DVs K ι H ds vs → DVs K ι H (ds.drop n) (vs.drop n)
  | [], _, n, h => by rw [DVs.nil_inv h]; simpa using DVs.nil
  | d :: ds, _, 0, h => by simpa using h
  | d :: ds, _, n + 1, h => by
    obtain ⟨v, q, rfl, h1, h2⟩ := h.cons_inv
    simpa using DVs.drop n h2
theorem DVs.set {K : Frag} {ι : List Addr} {H : Hp} {e : D} {w : V} (he : DV K ι H e w) : ∀ {ds : List D} {vs : List V} (n : Nat), DVs K ι H ds vs → DVs K ι H (ds.set n e) (vs.set n w)
  | [], _, n, h => by rw [DVs.nil_inv h]; simpa using DVs.nil
  | d :: ds, _, 0, h => by
    obtain ⟨v, q, rfl, h1, h2⟩ := h.cons_inv
    simpa using DVs.cons he h2
  | d :: ds, _, n + 1, h => by
    obtain ⟨v, q, rfl, h1, h2⟩ := h.cons_inv
    simpa using DVs.cons h1 (DVs.set he n h2)
theorem DVs.dropLast {K : Frag} {ι : List Addr} {H : Hp} {ds : List D} {vs : List V} (h : DVs K ι H ds vs) : DVs K ι H ds.dropLast vs.dropLast := by
  rw [List.dropLast_eq_take, List.dropLast_eq_take, h.length]
  exact h.take _
theorem DVs.eraseIdx {K : Frag} {ι : List Addr} {H : Hp} : ∀ {ds : List D} {vs : List V} (n : Nat), DVs K ι H ds vs → DVs K ι H (ds.eraseIdx n) (vs.eraseIdx n)
  | [], _, n, h => by rw [DVs.nil_inv h]; simpa using DVs.nil
  | d :: ds, _, 0, h => by
    obtain ⟨v, q, rfl, h1, h2⟩ := h.cons_inv
    simpa using h2
  | d :: ds, _, n + 1, h => by
    obtain ⟨v, q, rfl, h1, h2⟩ := h.cons_inv
    simpa using DVs.cons h1 (DVs.eraseIdx n h2)
theorem DVs.reverse {K : Frag} {ι : List Addr} {H : Hp} : ∀ {ds : List D} {vs : List V}, DVs K ι H ds vs → DVs K ι H ds.reverse vs.reverse
  | [], _, h => by rw [DVs.nil_inv h]; simpa using DVs.nil
  | d :: ds, _, h => by
    obtain ⟨v, q, rfl, h1, h2⟩ := h.cons_inv
    simpa using DVs.append (DVs.reverse h2) (DVs.cons h1 DVs.nil)

/-- what keys must be -/
class KOk (κ : Type) where
  ok : κ → Bool
def keyOk : Key → Bool
  | .inl _ => true
  | .inr x => strF x
instance : KOk Key := ⟨keyOk⟩
instance : KOk (List Key) := ⟨fun l => l.all keyOk⟩
instance : KOk Str := ⟨fun _ => true⟩
/-- pairs: the same key, related values -/
def DKs (K : Frag) (ι : List Addr) (H : Hp) {κ : Type} [KOk κ] : List (κ × D) → List (κ × V) → Prop := Paired fun p q => p.1 = q.1 ∧ DV K ι H p.2 q.2 ∧ KOk.ok p.1 = true
theorem Paired.mapQ {α β : Type} {F G : α → β → Prop} : ∀ {l₁ : List α} {l₂ : List β}, Paired F l₁ l₂ → (∀ a b, F a b → G a b) → Paired G l₁ l₂
  | _, _, .nil, _ => .nil
  | _, _, .cons r t, f => .cons (f _ _ r) (Paired.mapQ t f)
theorem DKs.extW {K : Frag} {ι ι' : List Addr} {H H' : Hp} (e : ExtW K ι H ι' H') {κ : Type} [KOk κ] {a : List (κ × D)} {b : List (κ × V)} (h : DKs K ι H a b) : DKs K ι' H' a b :=
  Paired.mapQ h fun _ _ q => ⟨q.1, q.2.1.extW e, q.2.2⟩
theorem DKs.ext {K : Frag} {ι ι' : List Addr} {H H' : Hp} (e : Ext K ι H ι' H') {κ : Type} [KOk κ] {a : List (κ × D)} {b : List (κ × V)} (h : DKs K ι H a b) : DKs K ι' H' a b := DKs.extW e.w h

/-- what stands at a number -/
def ObjR (K : Frag) (ι : List Addr) (H : Hp) (a : Addr) : GO → Prop
  | .lst xs => ∃ vs, H a = some (.lst vs) ∧ DVs K ι H xs vs
  | .fro xs => ∃ o vs, H a = some (.frz o (.lst vs)) ∧ DVs K ι H xs vs
  | .dK kvs => ∃ vs, H a = some (.dK vs) ∧ DKs K ι H kvs vs
  | .dT kvs => ∃ vs, H a = some (.dT vs) ∧ DKs K ι H kvs vs
  | .fK kvs => ∃ o vs, H a = some (.frz o (.dK vs)) ∧ DKs K ι H kvs vs
  | .fT kvs => ∃ o vs, H a = some (.frz o (.dT vs)) ∧ DKs K ι H kvs vs
  | .ins c fs => ∃ dx vs, H a = some (.ins (He.ga K c) dx vs) ∧ DKs K ι H fs vs
  | .xd fs => ∃ vs, H a = some (.xd vs) ∧ DKs K ι H fs vs
structure Rz (K : Frag) (ι : List Addr) (H : Hp) (G : GH) : Prop where
  len : ι.length = G.length
  nd : ∀ (i j : Nat) (a : Addr), ι[i]? = some a → ι[j]? = some a → i = j
  at_ : ∀ (i : Nat) (a : Addr) (o : GO), ι[i]? = some a → G[i]? = some o → ObjR K ι H a o
theorem Rz.get {K : Frag} {ι : List Addr} {H : Hp} {G : GH} (r : Rz K ι H G) {i : Nat} {o : GO} (h : G[i]? = some o) : ∃ a, ι[i]? = some a ∧ ObjR K ι H a o := by
  have hl := (List.getElem?_eq_some_iff.mp h).1
  have hi : i < ι.length := by rw [r.len]; exact hl
  exact ⟨ι[i], by simp [hi], r.at_ i _ o (by simp [hi]) h⟩
theorem ObjR.isThere {K : Frag} {ι : List Addr} {H : Hp} {a : Addr} {o : GO} (r : ObjR K ι H a o) : ∃ u, H a = some u ∧ ∀ xs, u ≠ .tup xs := by
  cases o with
  | lst xs => obtain ⟨vs, q, r⟩ := r; exact ⟨_, q, fun _ h => nomatch h⟩
  | fro xs => obtain ⟨o, vs, q, r⟩ := r; exact ⟨_, q, fun _ h => nomatch h⟩
  | dK xs => obtain ⟨vs, q, r⟩ := r; exact ⟨_, q, fun _ h => nomatch h⟩
  | dT xs => obtain ⟨vs, q, r⟩ := r; exact ⟨_, q, fun _ h => nomatch h⟩
  | fK xs => obtain ⟨o, vs, q, r⟩ := r; exact ⟨_, q, fun _ h => nomatch h⟩
  | fT xs => obtain ⟨o, vs, q, r⟩ := r; exact ⟨_, q, fun _ h => nomatch h⟩
  | ins c fs => obtain ⟨dx, vs, q, r⟩ := r; exact ⟨_, q, fun _ h => nomatch h⟩
  | xd fs => obtain ⟨vs, q, r⟩ := r; exact ⟨_, q, fun _ h => nomatch h⟩
theorem Rz.there {K : Frag} {ι : List Addr} {H : Hp} {G : GH} (r : Rz K ι H G) {i : Nat} {a : Addr} (h : ι[i]? = some a) : ∃ u, H a = some u ∧ ∀ xs, u ≠ .tup xs := by
  have hl := (List.getElem?_eq_some_iff.mp h).1
  have hg : i < G.length := by rw [← r.len]; exact hl
  exact (r.at_ i a G[i] h (by simp [hg])).isThere
/-- an object stands where the heap keeps its place -/
theorem ObjR.keepW {K : Frag} {ι ι' : List Addr} {H H' : Hp} {a : Addr} {o : GO} (r : ObjR K ι H a o) (e : ExtW K ι H ι' H') (k : ∀ z, H a = some z → H' a = some z) : ObjR K ι' H' a o := by
  cases o with
  | lst xs => obtain ⟨vs, q, r⟩ := r; exact ⟨vs, k _ q, r.extW e⟩
  | fro xs => obtain ⟨o, vs, q, r⟩ := r; exact ⟨o, vs, k _ q, r.extW e⟩
  | dK xs => obtain ⟨vs, q, r⟩ := r; exact ⟨vs, k _ q, r.extW e⟩
  | dT xs => obtain ⟨vs, q, r⟩ := r; exact ⟨vs, k _ q, r.extW e⟩
  | fK xs => obtain ⟨o, vs, q, r⟩ := r; exact ⟨o, vs, k _ q, r.extW e⟩
  | fT xs => obtain ⟨o, vs, q, r⟩ := r; exact ⟨o, vs, k _ q, r.extW e⟩
  | ins c fs => obtain ⟨dx, vs, q, r⟩ := r; exact ⟨dx, vs, k _ q, r.extW e⟩
  | xd fs => obtain ⟨vs, q, r⟩ := r; exact ⟨vs, k _ q, r.extW e⟩
theorem ObjR.keep {K : Frag} {ι ι' : List Addr} {H H' : Hp} {a : Addr} {o : GO} (r : ObjR K ι H a o) (e : Ext K ι H ι' H') (k : ∀ z, H a = some z → H' a = some z) : ObjR K ι' H' a o := r.keepW e.w k
/-- a tuple, of either kind -/
def asTup : D → Option (List D)
  | .tup xs => some xs
  | .ktup xs => some xs
  | _ => none
theorem asTup_dv {K : Frag} {ι : List Addr} {H : Hp} {d : D} {xs : List D} {v : V} (e : asTup d = some xs) (h : DV K ι H d v) : ∃ a vs, v = .ref a ∧ SqT K H a vs ∧ DVs K ι H xs vs := by
  cases d with
  | tup ys =>
    cases e
    simp only [DV] at h
    obtain ⟨a, vs, rfl, q, r⟩ := h
    exact ⟨a, vs, rfl, SqT.of q, r⟩
  | ktup ys =>
    cases e
    simp only [DV] at h
    obtain ⟨a, vs, rfl, q, r⟩ := h
    exact ⟨a, vs, rfl, .inr q, r⟩
  | _ => cases e
/-- an object that may be rewritten: not a tuple, not locked -/
def Wr (u : HO) : Prop := (∀ xs, u ≠ .tup xs) ∧ ∀ o x, u ≠ .frz o x
theorem Ext.wr {K : Frag} {ι : List Addr} {H : Hp} {b : Addr} {o : HO} {m : List Addr} (hn : ∀ u, H b = some u → Wr u) : Ext K ι H (ι ++ m) (upd H b o) :=
  ⟨⟨m, rfl⟩, fun a xs h => by rw [L2.upd_ne (fun e => by subst e; exact (hn _ h).1 _ rfl)]; exact h, fun a ob u h => by rw [L2.upd_ne (fun e => by subst e; exact (hn _ h).2 _ _ rfl)]; exact h⟩
theorem Ext.wr0 {K : Frag} {ι : List Addr} {H : Hp} {b : Addr} {o : HO} (hn : ∀ u, H b = some u → Wr u) : Ext K ι H ι (upd H b o) := by
  have := Ext.wr (K := K) (ι := ι) (m := []) (o := o) hn
  rwa [List.append_nil] at this
/-- a new object beside -/
theorem Rz.side {K : Frag} {ι : List Addr} {H : Hp} {G : GH} (r : Rz K ι H G) {p : Addr} {o : HO} (hp : H p = none) : Ext K ι H ι (upd H p o) ∧ Rz K ι (upd H p o) G := by
  have e : Ext K ι H ι (upd H p o) := Ext.wr0 fun u h => by rw [hp] at h; cases h
  exact ⟨e, r.len, r.nd, fun i a u h1 h2 => (r.at_ i a u h1 h2).keep e fun z q => by rw [L2.upd_ne (fun w => by subst w; rw [hp] at q; cases q)]; exact q⟩
/-- .. that becomes the next number -/
theorem Rz.new {K : Frag} {ι : List Addr} {H : Hp} {G : GH} (r : Rz K ι H G) {p : Addr} {u : HO} {o : GO} (hp : H p = none) (ho : Ext K ι H (ι ++ [p]) (upd H p u) → ObjR K (ι ++ [p]) (upd H p u) p o) :
    Ext K ι H (ι ++ [p]) (upd H p u) ∧ Rz K (ι ++ [p]) (upd H p u) (G ++ [o]) ∧ (ι ++ [p])[G.length]? = some p := by
  have e : Ext K ι H (ι ++ [p]) (upd H p u) := Ext.wr fun u h => by rw [hp] at h; cases h
  have hlast : (ι ++ [p])[G.length]? = some p := by rw [← r.len]; simp
  have old : ∀ (i : Nat), i < ι.length → (ι ++ [p])[i]? ≠ some p := by
    intro i hi h
    rw [List.getElem?_append_left hi] at h
    obtain ⟨u, q, _⟩ := r.there h
    rw [hp] at q; cases q
  refine ⟨e, ⟨by simp [r.len], fun i j a hi hj => ?_, fun i a z hi hz => ?_⟩, hlast⟩
  · have li : i < ι.length + 1 := by have := (List.getElem?_eq_some_iff.mp hi).1; simpa using this
    have lj : j < ι.length + 1 := by have := (List.getElem?_eq_some_iff.mp hj).1; simpa using this
    by_cases h1 : i < ι.length
    · by_cases h2 : j < ι.length
      · rw [List.getElem?_append_left h1] at hi
        rw [List.getElem?_append_left h2] at hj
        exact r.nd i j a hi hj
      · have ej : j = ι.length := by omega
        have ea : a = p := by rw [ej] at hj; simpa using hj.symm
        subst ea
        exact absurd hi (old i h1)
    · have ei : i = ι.length := by omega
      have ea : a = p := by rw [ei] at hi; simpa using hi.symm
      subst ea
      by_cases h2 : j < ι.length
      · exact absurd hj (old j h2)
      · omega
  · by_cases h1 : i < ι.length
    · rw [List.getElem?_append_left h1] at hi
      rw [List.getElem?_append_left (by rw [← r.len]; exact h1)] at hz
      exact (r.at_ i a z hi hz).keep e fun z q => by rw [L2.upd_ne (fun w => by subst w; rw [hp] at q; cases q)]; exact q
    · have li : i < ι.length + 1 := by have := (List.getElem?_eq_some_iff.mp hi).1; simpa using this
      have ei : i = ι.length := by omega
      subst ei
      have ea : a = p := by simpa using hi.symm
      have ez : z = o := by rw [r.len] at hz; simpa using hz.symm
      subst ea
      subst ez
      exact ho e
/-- an object of ours is rewritten -/
theorem Rz.write {K : Frag} {ι : List Addr} {H : Hp} {G : GH} (r : Rz K ι H G) {i : Nat} {a : Addr} {w u : HO} {o o' : GO} (hi : ι[i]? = some a) (ho : G[i]? = some o) (hw : H a = some w) (wr : Wr w)
    (hu : Ext K ι H ι (upd H a u) → ObjR K ι (upd H a u) a o') : Ext K ι H ι (upd H a u) ∧ Rz K ι (upd H a u) (G.set i o') := by
  have e : Ext K ι H ι (upd H a u) := Ext.wr0 fun z h => by rw [hw] at h; cases h; exact wr
  have hil : i < G.length := (List.getElem?_eq_some_iff.mp ho).1
  refine ⟨e, by simp [r.len], r.nd, fun j b z hj hz => ?_⟩
  by_cases hji : j = i
  · subst hji
    rw [hi] at hj
    cases hj
    rw [List.getElem?_set_self hil] at hz
    cases hz
    exact hu e
  · rw [List.getElem?_set_ne (Ne.symm hji)] at hz
    exact (r.at_ j b z hj hz).keep e fun y q => by rw [L2.upd_ne (fun w => by subst w; exact hji (r.nd _ _ _ hj hi))]; exact q
end F2
end
section
namespace F2
open PySem PySem.Spec PyProof.Rows L2

/-! ### results -/
/-- of an expression: a value and the objects behind it; an exception (its class's name, the number of its fields); no answer -/
inductive R (α : Type) where
  | ok (a : α) (G : GH) | er (c : Str) (j : Nat) (G : GH) | st
def R.bind {α β : Type} (r : R α) (k : α → GH → R β) : R β := match r with
  | .ok a G => k a G
  | .er c j G => .er c j G
  | .st => .st
@[simp] theorem R.bind_ok {α β : Type} (a : α) (G : GH) (k : α → GH → R β) : (R.ok a G).bind k = k a G := rfl
@[simp] theorem R.bind_er {α β : Type} (c : Str) (j : Nat) (G : GH) (k : α → GH → R β) : (R.er c j G).bind k = .er c j G := rfl
@[simp] theorem R.bind_st {α β : Type} (k : α → GH → R β) : (R.st : R α).bind k = .st := rfl
/-- of a statement -/
inductive RS where
  | nx (ρ : Rho) (G : GH) | rt (d : D) (G : GH) | bk (ρ : Rho) (G : GH) | ct (ρ : Rho) (G : GH) | er (c : Str) (j : Nat) (ρ : Rho) (G : GH) | st
def R.toS {α : Type} (r : R α) (ρ : Rho) (k : α → GH → RS) : RS := match r with
  | .ok a G => k a G
  | .er c j G => .er c j ρ G
  | .st => .st
@[simp] theorem R.toS_ok {α : Type} (a : α) (G : GH) (ρ : Rho) (k : α → GH → RS) : (R.ok a G).toS ρ k = k a G := rfl
@[simp] theorem R.toS_er {α : Type} (c : Str) (j : Nat) (G : GH) (ρ : Rho) (k : α → GH → RS) : (R.er c j G : R α).toS ρ k = .er c j ρ G := rfl
@[simp] theorem R.toS_st {α : Type} (ρ : Rho) (k : α → GH → RS) : (R.st : R α).toS ρ k = .st := rfl
abbrev FE := Rho → GH → R D
abbrev FT := Rho → GH → R Bool
abbrev FA := Rho → GH → R (List D)
abbrev FS := Rho → GH → RS

/-! ### the configuration -/
structure EnvR (K : Frag) (ι : List Addr) (H : Hp) (ρ : Rho) (σ : L2.St) : Prop where
  len : ρ.length = σ.length
  at_ : ∀ (i : Nat) (d : D), ρ[i]? = some (some d) → ∃ v, σ[i]? = some (some v) ∧ DV K ι H d v
/-- the exception at hand (in an except suite): its slot, its address, its fields' address and number -/
abbrev XA := Option (Nat × Addr × Addr × Nat)
def XaR (xa : XA) (ι : List Addr) (σ : L2.St) : Prop := match xa with
  | none => True
  | some (i, a, dd, j) => σ[i]? = some (some (.ref a)) ∧ ι[j]? = some dd
def XaNo (xa : XA) (i : Nat) : Prop := match xa with
  | none => True
  | some (k, _) => k ≠ i
structure Cfg (K : Frag) (xa : XA) (ι : List Addr) (H : Hp) (ρ : Rho) (σ : L2.St) (G : GH) : Prop where
  env : EnvR K ι H ρ σ
  rz : Rz K ι H G
  xr : XaR xa ι σ
theorem EnvR.ext {K : Frag} {ι ι' : List Addr} {H H' : Hp} {ρ : Rho} {σ : L2.St} (e : EnvR K ι H ρ σ) (x : Ext K ι H ι' H') : EnvR K ι' H' ρ σ :=
  ⟨e.len, fun i d h => let ⟨v, h1, h2⟩ := e.at_ i d h; ⟨v, h1, h2.ext x⟩⟩
theorem XaR.ext {xa : XA} {K : Frag} {ι ι' : List Addr} {H H' : Hp} {σ : L2.St} (h : XaR xa ι σ) (x : Ext K ι H ι' H') : XaR xa ι' σ := by
  cases xa with
  | none => trivial
  | some p => obtain ⟨i, a, dd, j⟩ := p; exact ⟨h.1, x.at h.2⟩
theorem Cfg.ext {K : Frag} {xa : XA} {ι ι' : List Addr} {H H' : Hp} {ρ : Rho} {σ : L2.St} {G G' : GH} (c : Cfg K xa ι H ρ σ G) (x : Ext K ι H ι' H') (r : Rz K ι' H' G') : Cfg K xa ι' H' ρ σ G' :=
  ⟨c.env.ext x, r, c.xr.ext x⟩
theorem EnvR.set {K : Frag} {ι : List Addr} {H : Hp} {ρ : Rho} {σ : L2.St} {i : Nat} {d : D} {v : V} (e : EnvR K ι H ρ σ) (h : DV K ι H d v) : EnvR K ι H (ρ.set i (some d)) (σ.set i (some v)) := by
  refine ⟨by simp [e.len], fun j x q => ?_⟩
  by_cases hj : i = j
  · subst hj
    have hl : i < ρ.length := by have := (List.getElem?_eq_some_iff.mp q).1; simpa using this
    rw [List.getElem?_set_self hl] at q
    cases q
    exact ⟨v, by rw [List.getElem?_set_self (by rw [← e.len]; exact hl)], h⟩
  · rw [List.getElem?_set_ne hj] at q ⊢
    exact e.at_ j x q
theorem XaR.set {xa : XA} {ι : List Addr} {σ : L2.St} {i : Nat} {v : Option V} (h : XaR xa ι σ) (hn : XaNo xa i) : XaR xa ι (σ.set i v) := by
  cases xa with
  | none => trivial
  | some p =>
    obtain ⟨k, a, dd, j⟩ := p
    have hn' : k ≠ i := hn
    exact ⟨by rw [List.getElem?_set_ne (Ne.symm hn')]; exact h.1, h.2⟩
theorem Cfg.set {K : Frag} {xa : XA} {ι : List Addr} {H : Hp} {ρ : Rho} {σ : L2.St} {G : GH} {i : Nat} {d : D} {v : V} (c : Cfg K xa ι H ρ σ G) (h : DV K ι H d v) (hn : XaNo xa i) : Cfg K xa ι H (ρ.set i (some d)) (σ.set i (some v)) G :=
  ⟨c.env.set h, c.rz, c.xr.set hn⟩

/-! ### what a result promises -/
def Post {α β : Type} (K : Frag) (W : WX) (σ : L2.St) (ι : List Addr) (H : Hp) (rel : List Addr → Hp → α → β → Prop) (r : R α) (Q : β → Hp → Prop) : Prop := match r with
  | .ok a G => ∀ ι' H' v, Ext K ι H ι' H' → Rz K ι' H' G → rel ι' H' a v → Q v H'
  | .er c j G => ∀ ι' H' d, Ext K ι H ι' H' → Rz K ι' H' G → ι'[j]? = some d → W (.ref (He.ga K c)) (some d) σ H'
  | .st => False
theorem Post.shift {α β : Type} {K : Frag} {W : WX} {σ : L2.St} {ι ι1 : List Addr} {H H1 : Hp} {rel : List Addr → Hp → α → β → Prop} {r : R α} {Q : β → Hp → Prop} (p : Post K W σ ι H rel r Q) (x : Ext K ι H ι1 H1) : Post K W σ ι1 H1 rel r Q := by
  cases r with
  | ok a G => exact fun ι' H' v e => p ι' H' v (x.trans e)
  | er c j G => exact fun ι' H' d e => p ι' H' d (x.trans e)
  | st => exact p
theorem Post.mono {α β : Type} {K : Frag} {W : WX} {σ : L2.St} {ι : List Addr} {H : Hp} {rel : List Addr → Hp → α → β → Prop} {r : R α} {Q Q' : β → Hp → Prop} (p : Post K W σ ι H rel r Q) (h : ∀ v H', Q v H' → Q' v H') : Post K W σ ι H rel r Q' := by
  cases r with
  | ok a G => exact fun ι' H' v e r q => h _ _ (p ι' H' v e r q)
  | er c j G => exact p
  | st => exact p
theorem Post.bind {α α' β β' : Type} {K : Frag} {W : WX} {σ : L2.St} {ι : List Addr} {H : Hp} {rel : List Addr → Hp → α → β → Prop} {rel' : List Addr → Hp → α' → β' → Prop} {r : R α} {k : α → GH → R α'} {Q : β' → Hp → Prop} (p : Post K W σ ι H rel' (r.bind k) Q) :
    Post K W σ ι H rel r (fun v H1 => ∃ ι1 a G1, Ext K ι H ι1 H1 ∧ Rz K ι1 H1 G1 ∧ rel ι1 H1 a v ∧ Post K W σ ι1 H1 rel' (k a G1) Q) := by
  cases r with
  | ok a G => exact fun ι' H' v e r q => ⟨ι', a, G, e, r, q, Post.shift (show Post K W σ ι H rel' (k a G) Q from p) e⟩
  | er c j G => exact p
  | st => exact p
theorem Post.ok {α β : Type} {K : Frag} {W : WX} {σ : L2.St} {ι ι' : List Addr} {H H' : Hp} {rel : List Addr → Hp → α → β → Prop} {a : α} {G : GH} {Q : β → Hp → Prop} {v : β} (p : Post K W σ ι H rel (.ok a G) Q) (e : Ext K ι H ι' H') (r : Rz K ι' H' G) (q : rel ι' H' a v) : Q v H' := p ι' H' v e r q
abbrev PostE (K : Frag) (W : WX) (σ : L2.St) (ι : List Addr) (H : Hp) (r : R D) (Q : VK) : Prop := Post K W σ ι H (DV K) r Q
abbrev PostT (K : Frag) (W : WX) (σ : L2.St) (ι : List Addr) (H : Hp) (r : R Bool) (Q : Bool → Hp → Prop) : Prop := Post K W σ ι H (fun _ _ a v => v = a) r Q
abbrev PostA (K : Frag) (W : WX) (σ : L2.St) (ι : List Addr) (H : Hp) (r : R (List D)) (Q : List V → Hp → Prop) : Prop := Post K W σ ι H (DVs K) r Q
def PostS (K : Frag) (xa : XA) (W : WX) (σ₀ : L2.St) (ι : List Addr) (H : Hp) (r : RS) (N : Ends) : Prop := match r with
  | .nx ρ G => ∀ ι' H' σ', Ext K ι H ι' H' → Cfg K xa ι' H' ρ σ' G → N.nx σ' H'
  | .bk ρ G => ∀ ι' H' σ', Ext K ι H ι' H' → Cfg K xa ι' H' ρ σ' G → N.bk σ' H'
  | .ct ρ G => ∀ ι' H' σ', Ext K ι H ι' H' → Cfg K xa ι' H' ρ σ' G → N.ct σ' H'
  | .rt d G => ∀ ι' H' v, Ext K ι H ι' H' → Rz K ι' H' G → DV K ι' H' d v → N.rt v H'
  | .er c j ρ G => ∀ ι' H' σ' d, Ext K ι H ι' H' → Cfg K xa ι' H' ρ σ' G → ι'[j]? = some d → W (.ref (He.ga K c)) (some d) σ' H'
  | .st => False
theorem PostS.shift {K : Frag} {xa : XA} {W : WX} {σ : L2.St} {ι ι1 : List Addr} {H H1 : Hp} {r : RS} {N : Ends} (p : PostS K xa W σ ι H r N) (x : Ext K ι H ι1 H1) : PostS K xa W σ ι1 H1 r N := by
  cases r with
  | nx ρ G => exact fun ι' H' v e => p ι' H' v (x.trans e)
  | bk ρ G => exact fun ι' H' v e => p ι' H' v (x.trans e)
  | ct ρ G => exact fun ι' H' v e => p ι' H' v (x.trans e)
  | rt d G => exact fun ι' H' v e => p ι' H' v (x.trans e)
  | er c j ρ G => exact fun ι' H' σ' d e => p ι' H' σ' d (x.trans e)
  | st => exact p
/-- an expression's result, then a statement's -/
theorem PostS.bind {α β : Type} {K : Frag} {xa : XA} {W : WX} {ι : List Addr} {H : Hp} {ρ : Rho} {σ : L2.St} {G : GH} {rel : List Addr → Hp → α → β → Prop} {r : R α} {k : α → GH → RS} {N : Ends} (c : Cfg K xa ι H ρ σ G) (p : PostS K xa W σ ι H (r.toS ρ k) N) :
    Post K W σ ι H rel r (fun v H1 => ∃ ι1 a G1, Ext K ι H ι1 H1 ∧ Cfg K xa ι1 H1 ρ σ G1 ∧ rel ι1 H1 a v ∧ PostS K xa W σ ι1 H1 (k a G1) N) := by
  cases r with
  | ok a G => exact fun ι' H' v e r q => ⟨ι', a, G, e, c.ext e r, q, PostS.shift (show PostS K xa W σ ι H (k a G) N from p) e⟩
  | er cc j G => exact fun ι' H' d e r q => (show PostS K xa W σ ι H (.er cc j ρ G) N from p) ι' H' σ d e (c.ext e r) q
  | st => exact p

/-! ### readings and judgements -/
def tE (K : Frag) (xa : XA) (W : WX) (f : FE) : TE := fun σ H Q => ∃ ι ρ G, Cfg K xa ι H ρ σ G ∧ PostE K W σ ι H (f ρ G) Q
def tT (K : Frag) (xa : XA) (W : WX) (f : FT) : TT := fun σ H Q => ∃ ι ρ G, Cfg K xa ι H ρ σ G ∧ PostT K W σ ι H (f ρ G) Q
def tA (K : Frag) (xa : XA) (W : WX) (f : FA) : TA := fun σ H Q => ∃ ι ρ G, Cfg K xa ι H ρ σ G ∧ PostA K W σ ι H (f ρ G) Q
def tS (K : Frag) (xa : XA) (W : WX) (f : FS) : TS := fun N σ H => ∃ ι ρ G, Cfg K xa ι H ρ σ G ∧ PostS K xa W σ ι H (f ρ G) N
def DE (X : Cx) (xa : XA) (W : WX) (e : Expr) (f : FE) : Prop := PE X e (tE X.K xa W f)
def DT (X : Cx) (xa : XA) (W : WX) (e : Expr) (f : FT) : Prop := PT X e (tT X.K xa W f)
def DW (X : Cx) (xa : XA) (W : WX) (e : Expr) (f : FT) : Prop := PW X e (tT X.K xa W f)
def DA (X : Cx) (xa : XA) (W : WX) (es : List Expr) (f : FA) : Prop := PA X es (tA X.K xa W f)
def DS (X : Cx) (xa : XA) (W : WX) (st : Stmt) (f : FS) : Prop := PS X st (tS X.K xa W f)
def DSs (X : Cx) (xa : XA) (W : WX) (st : List Stmt) (f : FS) : Prop := PSs X st (tS X.K xa W f)
theorem PEm {X : Cx} {e : Expr} {t u : TE} (h : PE X e t) (m : ∀ σ H Q, u σ H Q → t σ H Q) : PE X e u := ⟨fun pins s σ H Q I q => h.run pins s σ H Q I (m _ _ _ q)⟩
theorem PTm {X : Cx} {e : Expr} {t u : TT} (h : PT X e t) (m : ∀ σ H Q, u σ H Q → t σ H Q) : PT X e u := ⟨fun pins s σ H Q I q => h.run pins s σ H Q I (m _ _ _ q)⟩
theorem PWm {X : Cx} {e : Expr} {t u : TT} (h : PW X e t) (m : ∀ σ H Q, u σ H Q → t σ H Q) : PW X e u := ⟨fun w pins s σ H Q I q => h.run w pins s σ H Q I (m _ _ _ q)⟩
theorem PAm {X : Cx} {e : List Expr} {t u : TA} (h : PA X e t) (m : ∀ σ H Q, u σ H Q → t σ H Q) : PA X e u := ⟨fun p pins s σ H Q I q => h.run p pins s σ H Q I (m _ _ _ q)⟩
theorem PSm {X : Cx} {e : Stmt} {t u : TS} (h : PS X e t) (m : ∀ N σ H, u N σ H → t N σ H) : PS X e u := ⟨fun pins s σ H N I q => h.run pins s σ H N I (m _ _ _ q)⟩
theorem PSsm {X : Cx} {e : List Stmt} {t u : TS} (h : PSs X e t) (m : ∀ N σ H, u N σ H → t N σ H) : PSs X e u := ⟨fun pins s σ H N I q => h.run pins s σ H N I (m _ _ _ q)⟩

/-! ### operations by values -/
/-- the operation g on the values, by the rule r -/
def Op2 (K : Frag) (g : D → D → GH → R D) (r : R2) : Prop :=
  ∀ (W : WX) (σ : L2.St) (ι : List Addr) (H : Hp) (G : GH) (x y : D) (v u : V) (Q : VK), Rz K ι H G → DV K ι H x v → DV K ι H y u → PostE K W σ ι H (g x y G) Q → r v u H Q
def f2 (g : D → D → GH → R D) (f h : FE) : FE := fun ρ G => (f ρ G).bind fun x G1 => (h ρ G1).bind fun y G2 => g x y G2
def f1 (g : D → GH → R D) (f : FE) : FE := fun ρ G => (f ρ G).bind fun x G1 => g x G1
section
variable {X : Cx} {xa : XA} {W : WX} {a b : Expr} {f h : FE} {pos : Pos}
theorem tE_op {K : Frag} {g : D → D → GH → R D} {r : R2} (ho : Op2 K g r) (σ : L2.St) (H : Hp) (Q : VK) (q : tE K xa W (f2 g f h) σ H Q) : tOp r (tE K xa W f) (tE K xa W h) σ H Q := by
  obtain ⟨ι, ρ, G, c, p⟩ := q
  refine ⟨ι, ρ, G, c, (Post.bind (rel := DV K) p).mono fun v H1 ⟨ι1, x, G1, e1, r1, d1, p1⟩ => ?_⟩
  refine ⟨ι1, ρ, G1, c.ext e1 r1, (Post.bind (rel := DV K) p1).mono fun u H2 ⟨ι2, y, G2, e2, r2, d2, p2⟩ => ?_⟩
  exact ho W σ ι2 H2 G2 x y v u Q r2 (d1.ext e2) d2 p2
theorem de_bin {op : Operator} {g : D → D → GH → R D} {r : R2} (hr : OpR X (binaryOp op) r) (ho : Op2 X.K g r) (ha : DE X xa W a f) (hb : DE X xa W b h) : DE X xa W (.BinOp a op b pos) (f2 g f h) :=
  PEm (pe_op hr ha hb) (tE_op ho)
theorem de_cmp {op : CmpOp} {g : D → D → GH → R D} {r : R2} (hr : OpR X (compareOp op) r) (ho : Op2 X.K g r) (ha : DE X xa W a f) (hb : DE X xa W b h) (hm : behindInMarks op b = false) : DE X xa W (.Compare a [op] [b] pos) (f2 g f h) :=
  PEm (pe_cmpR hr ha hb hm) (tE_op ho)
/-- a test of an expression's bool -/
def fB (f : FE) : FT := fun ρ G => (f ρ G).bind fun x G1 => match x with
  | .bl b => .ok b G1
  | _ => .st
theorem tT_b {K : Frag} {t : TE} (m : ∀ σ H Q, tE K xa W f σ H Q → t σ H Q) (σ : L2.St) (H : Hp) (Q : Bool → Hp → Prop) (q : tT K xa W (fB f) σ H Q) : t σ H (fun x H' => ∃ k, x = .bl k ∧ Q k H') := by
  obtain ⟨ι, ρ, G, c, p⟩ := q
  refine m _ _ _ ⟨ι, ρ, G, c, (Post.bind (rel := DV K) p).mono fun v H1 ⟨ι1, x, G1, e1, r1, d1, p1⟩ => ?_⟩
  cases x with
  | bl b =>
    simp only [DV] at d1
    exact ⟨b, d1, p1.ok Ext.refl r1 rfl⟩
  | _ => exact False.elim p1
theorem dt_cmp {op : CmpOp} {g : D → D → GH → R D} {r : R2} (hr : OpR X (compareOp op) r) (ho : Op2 X.K g r) (ha : DE X xa W a f) (hb : DE X xa W b h) (hm : behindInMarks op b = false) : DT X xa W (.Compare a [op] [b] pos) (fB (f2 g f h)) :=
  PTm (pt_cmpR hr ha hb hm) fun σ H Q q => tT_b (fun _ _ _ z => tE_op ho _ _ _ z) σ H Q q
end

/-! ### names, constants -/
def fV (i : Nat) : FE := fun ρ G => match ρ[i]? with
  | some (some d) => .ok d G
  | _ => .st
def fC (d : D) : FE := fun _ G => .ok d G
section
variable {X : Cx} {xa : XA} {W : WX}
theorem de_var (i : Nat) {x : Str} {pos : Pos} (hN : X.N[i]? = some x := by rfl) (hv : Vis X.env.scope x := by first | exact Or.inl rfl | exact Or.inr (Or.inl rfl) | exact Or.inr (Or.inr rfl)) (hd : (x == ("__debug__" : Str)) = false := by decide)
    (hcd : (x == ("__classdict__" : Str)) = false := by decide) : DE X xa W (.Name x pos) (fV i) := by
  refine PEm (pe_var hN hv hd hcd) fun σ H Q ⟨ι, ρ, G, c, p⟩ => ?_
  unfold fV at p
  cases e : ρ[i]? with
  | none => rw [e] at p; exact False.elim p
  | some o =>
    rw [e] at p
    cases o with
    | none => exact False.elim p
    | some d =>
      obtain ⟨v, h1, h2⟩ := c.env.at_ i d e
      exact ⟨v, h1, p.ok Ext.refl c.rz h2⟩
theorem de_int {i j pos} : DE X xa W (.Constant (.int i) j pos) (fC (.int i)) := PEm pe_int fun σ H Q ⟨ι, ρ, G, c, p⟩ => p.ok Ext.refl c.rz (by simp only [DV])
theorem de_bl {i j pos} : DE X xa W (.Constant (.bool i) j pos) (fC (.bl i)) := PEm pe_bl fun σ H Q ⟨ι, ρ, G, c, p⟩ => p.ok Ext.refl c.rz (by simp only [DV])
theorem de_non {j pos} : DE X xa W (.Constant .none j pos) (fC .non) := PEm pe_non fun σ H Q ⟨ι, ρ, G, c, p⟩ => p.ok Ext.refl c.rz (by simp only [DV])
theorem de_str {x j pos} (h : strF x = true := by decide +kernel) : DE X xa W (.Constant (.str x) j pos) (fC (.str x)) := PEm pe_str fun σ H Q ⟨ι, ρ, G, c, p⟩ => p.ok Ext.refl c.rz (by simp only [DV]; exact ⟨trivial, h⟩)
/-- a module's constant: an int, a text -/
theorem de_gint {x : Str} {i : Int} {pos : Pos} (hg : Gl X x) (hm : ∃ t, X.mg x = some (.int i t)) (hd : (x == ("__debug__" : Str)) = false := by decide) : DE X xa W (.Name x pos) (fC (.int i)) := by
  obtain ⟨t, hm⟩ := hm
  exact PEm (pe_glob hg hm (v := .int i) ⟨t, rfl⟩ hd) fun σ H Q ⟨ι, ρ, G, c, p⟩ => p.ok Ext.refl c.rz (by simp only [DV])
/-- a module's tuple of plain things -/
def atomV : D → Option V
  | .non => some .non
  | .bl b => some (.bl b)
  | .int i => some (.int i)
  | .str x => if strF x = true then some (.str x) else none
  | _ => none
theorem atomV_dv {K : Frag} {ι : List Addr} {H : Hp} {d : D} {v : V} (h : atomV d = some v) : DV K ι H d v := by
  cases d with
  | non => simp only [atomV, Option.some.injEq] at h; subst h; simp only [DV]
  | bl b => simp only [atomV, Option.some.injEq] at h; subst h; simp only [DV]
  | int i => simp only [atomV, Option.some.injEq] at h; subst h; simp only [DV]
  | str x =>
    have h' : (if strF x = true then some (V.str x) else none) = some v := h
    by_cases hx : strF x = true
    · rw [if_pos hx] at h'; cases h'; simp only [DV]; exact ⟨trivial, hx⟩
    · rw [if_neg hx] at h'; cases h'
  | _ => cases h
def atomsV : List D → Option (List V)
  | [] => some []
  | d :: ds => match atomV d, atomsV ds with
    | some v, some vs => some (v :: vs)
    | _, _ => none
theorem atomsV_dv {K : Frag} {ι : List Addr} {H : Hp} : ∀ {ds : List D} {vs : List V}, atomsV ds = some vs → DVs K ι H ds vs
  | [], _, h => by cases h; exact DVs.nil
  | d :: ds, _, h => by
    unfold atomsV at h
    split at h
    · cases h
      rename_i e1 e2
      exact DVs.cons (atomV_dv e1) (atomsV_dv e2)
    · cases h
theorem de_gtup {x : Str} {ds : List D} {vs : List V} {pos : Pos} (hg : Gl X x) (hm : X.mg x = some (.ref (He.ga X.K x))) (ht : KTup X.K (He.ga X.K x) vs) (hd : atomsV ds = some vs) (hdb : (x == ("__debug__" : Str)) = false := by decide) : DE X xa W (.Name x pos) (fC (.ktup ds)) :=
  PEm (pe_glob hg hm (v := .ref (He.ga X.K x)) rfl hdb) fun σ H Q ⟨ι, ρ, G, c, p⟩ => p.ok Ext.refl c.rz (by simp only [DV]; exact ⟨_, vs, rfl, ht, atomsV_dv hd⟩)
end

/-! ### argument lists, displays -/
def fA0 : FA := fun _ G => .ok [] G
def fAc (f : FE) (g : FA) : FA := fun ρ G => (f ρ G).bind fun x G1 => (g ρ G1).bind fun xs G2 => .ok (x :: xs) G2
def fTup (g : FA) : FE := fun ρ G => (g ρ G).bind fun xs G1 => if xs.length ≤ 16777216 then .ok (.tup xs) G1 else .st
def fLst (g : FA) : FE := fun ρ G => (g ρ G).bind fun xs G1 => if xs.length ≤ 16777216 then .ok (.ref G1.length) (G1 ++ [.lst xs]) else .st
theorem szl : sizeLine = 16777216 := sizeLine_eq
section
variable {X : Cx} {xa : XA} {W : WX} {e : Expr} {es : List Expr} {f : FE} {g : FA} {pos : Pos}
theorem da_nil : DA X xa W [] fA0 := PAm pa_nil fun σ H Q ⟨ι, ρ, G, c, p⟩ => p.ok Ext.refl c.rz DVs.nil
theorem da_cons (he : DE X xa W e f) (hr : DA X xa W es g) (hs : starEach (e :: es) X.env = (false, eval e X.env) :: starEach es X.env := by rfl) : DA X xa W (e :: es) (fAc f g) := by
  refine PAm (pa_cons he hr hs) fun σ H Q ⟨ι, ρ, G, c, p⟩ => ?_
  refine ⟨ι, ρ, G, c, (Post.bind (rel := DV X.K) p).mono fun v H1 ⟨ι1, x, G1, e1, r1, d1, p1⟩ => ?_⟩
  refine ⟨ι1, ρ, G1, c.ext e1 r1, (Post.bind (rel := DVs X.K) p1).mono fun u H2 ⟨ι2, y, G2, e2, r2, d2, p2⟩ => ?_⟩
  exact p2.ok Ext.refl r2 (DVs.cons (d1.ext e2) d2)
theorem de_tup {x1} (h : DA X xa W es g) : DE X xa W (.Tuple es x1 pos) (fTup g) := by
  refine PEm (pe_tup h) fun σ H Q ⟨ι, ρ, G, c, p⟩ => ?_
  refine ⟨ι, ρ, G, c, (Post.bind (rel := DVs X.K) p).mono fun vs H1 ⟨ι1, xs, G1, e1, r1, d1, p1⟩ => ?_⟩
  by_cases hl : xs.length ≤ 16777216
  · rw [if_pos hl] at p1
    refine ⟨by rw [← d1.length, szl]; exact hl, fun q hq => ?_⟩
    obtain ⟨e2, r2⟩ := r1.side (o := .tup vs) hq
    exact p1.ok e2 r2 (by simp only [DV]; exact ⟨q, vs, rfl, upd_same, d1.ext e2⟩)
  · rw [if_neg hl] at p1
    exact False.elim p1
theorem de_lst (h : DA X xa W es g) : DE X xa W (.List es pos) (fLst g) := by
  refine PEm (pe_lst h) fun σ H Q ⟨ι, ρ, G, c, p⟩ => ?_
  refine ⟨ι, ρ, G, c, (Post.bind (rel := DVs X.K) p).mono fun vs H1 ⟨ι1, xs, G1, e1, r1, d1, p1⟩ => ?_⟩
  by_cases hl : xs.length ≤ 16777216
  · rw [if_pos hl] at p1
    refine ⟨by rw [← d1.length, szl]; exact hl, fun q hq => ?_⟩
    obtain ⟨e2, r2, hat⟩ := r1.new (u := .lst vs) (o := .lst xs) hq fun e => ⟨vs, upd_same, d1.ext e⟩
    exact p1.ok e2 r2 (by simp only [DV]; exact ⟨q, hat, rfl⟩)
  · rw [if_neg hl] at p1
    exact False.elim p1
end
end F2
end
section
namespace F2
open PySem PySem.Spec PyProof.Rows L2

/-! ### data as a whole: what == reads -/
def pys (f : D → Option PyData) : List D → Option (List PyData)
  | [] => some []
  | d :: ds => match f d, pys f ds with
    | some p, some ps => some (p :: ps)
    | _, _ => none
def py (G : GH) : Nat → D → Option PyData
  | 0, _ => none
  | _ + 1, .non => some .none
  | _ + 1, .bl b => some (.bool b)
  | _ + 1, .int i => some (.int i)
  | _ + 1, .str x => some (.str x)
  | n + 1, .tup xs => (pys (py G n) xs).map .tuple
  | n + 1, .ktup xs => (pys (py G n) xs).map .tuple
  | n + 1, .scr xs => (pys (py G n) xs).map .list
  | n + 1, .ref i => match G[i]? with
    | some (.lst xs) => (pys (py G n) xs).map .list
    | some (.fro xs) => (pys (py G n) xs).map .list
    | _ => none
structure PyOk (K : Frag) (H : Hp) (n : Nat) (v : V) (p : PyData) : Prop where
  dp : Dp K H v p
  lay : p.canLay0 = true
  dep : p.depth ≤ n
structure PysOk (K : Frag) (H : Hp) (n : Nat) (vs : List V) (ps : List PyData) : Prop where
  dp : DpAll K H vs ps
  lay : PyData.canLayAll0 ps = true
  dep : PyData.depthAll ps ≤ n
theorem pys_ok {K : Frag} {ι : List Addr} {H : Hp} {n : Nat} {f : D → Option PyData} (hf : ∀ d v p, f d = some p → DV K ι H d v → PyOk K H n v p) : ∀ {ds : List D} {vs : List V} {ps : List PyData}, pys f ds = some ps → DVs K ι H ds vs → PysOk K H n vs ps
  | [], _, _, e, h => by
    cases e
    rw [DVs.nil_inv h]
    exact ⟨.nil, by simp [PyData.canLayAll0], by simp [PyData.depthAll]⟩
  | d :: ds, _, _, e, h => by
    obtain ⟨v, r, rfl, h1, h2⟩ := h.cons_inv
    unfold pys at e
    split at e
    · rename_i p ps e1 e2
      cases e
      have a := hf _ _ _ e1 h1
      have b := pys_ok hf e2 h2
      refine ⟨.cons a.dp b.dp, ?_, ?_⟩
      · simp only [PyData.canLayAll0, a.lay, b.lay, Bool.and_self]
      · simp only [PyData.depthAll]
        have := a.dep
        have := b.dep
        omega
    · cases e
theorem py_ok {K : Frag} {ι : List Addr} {H : Hp} {G : GH} (r : Rz K ι H G) : ∀ (n : Nat) (d : D) (v : V) (p : PyData), py G n d = some p → DV K ι H d v → PyOk K H n v p
  | 0, _, _, _, e, _ => by simp [py] at e
  | n + 1, d, v, p, e, h => by
    have ih := fun d v p e h => py_ok r n d v p e h
    have tupC : ∀ xs a vs, (pys (py G n) xs).map PyData.tuple = some p → SqT K H a vs → DVs K ι H xs vs → PyOk K H (n + 1) (.ref a) p := fun xs a vs e q h => by
      obtain ⟨ps, e1, rfl⟩ := Option.map_eq_some_iff.mp e
      have z := pys_ok ih e1 h
      exact ⟨.tup q z.dp, by simpa [PyData.canLay0] using z.lay, by simp only [PyData.depth]; have := z.dep; omega⟩
    have lstC : ∀ xs a vs, (pys (py G n) xs).map PyData.list = some p → SqL K H a vs → DVs K ι H xs vs → PyOk K H (n + 1) (.ref a) p := fun xs a vs e q h => by
      obtain ⟨ps, e1, rfl⟩ := Option.map_eq_some_iff.mp e
      have z := pys_ok ih e1 h
      exact ⟨.lst q z.dp, by simpa [PyData.canLay0] using z.lay, by simp only [PyData.depth]; have := z.dep; omega⟩
    cases d with
    | non => simp only [py, Option.some.injEq] at e; simp only [DV] at h; subst e; subst h; exact ⟨.non, by simp [PyData.canLay0], by simp [PyData.depth]⟩
    | bl b => simp only [py, Option.some.injEq] at e; simp only [DV] at h; subst e; subst h; exact ⟨.bl b, by simp [PyData.canLay0], by simp [PyData.depth]⟩
    | int i => simp only [py, Option.some.injEq] at e; simp only [DV] at h; subst e; subst h; exact ⟨.int i, by simp [PyData.canLay0], by simp [PyData.depth]⟩
    | str x =>
      simp only [py, Option.some.injEq] at e
      simp only [DV] at h
      obtain ⟨rfl, hx⟩ := h
      subst e
      refine ⟨.str x, ?_, by simp [PyData.depth]⟩
      unfold strF at hx
      rw [Bool.and_eq_true] at hx
      have h1 := hx.1
      simp only [PyData.canLay0]
      exact h1
    | tup xs =>
      simp only [py] at e
      simp only [DV] at h
      obtain ⟨a, vs, rfl, q, h⟩ := h
      exact tupC xs a vs e (SqT.of q) h
    | ktup xs =>
      simp only [py] at e
      simp only [DV] at h
      obtain ⟨a, vs, rfl, q, h⟩ := h
      exact tupC xs a vs e (.inr q) h
    | scr xs =>
      simp only [py] at e
      simp only [DV] at h
      obtain ⟨a, vs, rfl, q, h⟩ := h
      exact lstC xs a vs e q.sq h
    | ref i =>
      simp only [DV] at h
      obtain ⟨a, hi, rfl⟩ := h
      simp only [py] at e
      cases g : G[i]? with
      | none => rw [g] at e; cases e
      | some o =>
        rw [g] at e
        have w := r.at_ i a o hi g
        cases o with
        | lst xs => obtain ⟨vs, q, h⟩ := w; exact lstC xs a vs e (SqL.of q) h
        | fro xs => obtain ⟨o, vs, q, h⟩ := w; exact lstC xs a vs e (.inl (.inr ⟨o, q⟩)) h
        | _ => cases e
theorem PyOk.shaped {K : Frag} {H : Hp} {v : V} {p : PyData} (h : PyOk K H 64 v p) : SeqAt.shaped p = true := by
  unfold SeqAt.shaped
  rw [Bool.and_eq_true]
  exact ⟨h.lay, decide_eq_true h.dep⟩

/-! ### arithmetic -/
def gAdd (x y : D) (G : GH) : R D := match x, y with
  | .int i, .int j => .ok (.int (i + j)) G
  | .str a, .str b => if a.length + b.length ≤ 16777216 then .ok (.str (a ++ b)) G else .st
  | .tup a, .tup b => if a.length + b.length ≤ 16777216 then .ok (.tup (a ++ b)) G else .st
  | .ref i, .ref j => match G[i]?, G[j]? with
    | some (.lst a), some (.lst b) => if a.length + b.length ≤ 16777216 then .ok (.ref G.length) (G ++ [.lst (a ++ b)]) else .st
    | _, _ => .st
  | _, _ => .st
def rAddD (K : Frag) : R2 := fun x y H Q => rI0 (fun i j => .int (i + j)) x y H Q ∨ (∃ i j, x = .str i ∧ y = .str j ∧ i.length + j.length ≤ sizeLine ∧ Q (.str (i ++ j)) H) ∨ rCatA K x y H Q ∨ rCat x y H Q
theorem opr_add {X : Cx} : OpR X (binaryOp .Add) (rAddD X.K) := op_add.or (op_add_str.or (op_catA.or op_cat))
theorem strF_append {a b : Str} (ha : strF a = true) (hb : strF b = true) (h : a.length + b.length ≤ 16777216) : strF (a ++ b) = true := by
  unfold strF at ha hb ⊢
  rw [Bool.and_eq_true] at ha hb ⊢
  obtain ⟨a1, a2⟩ := ha
  obtain ⟨b1, b2⟩ := hb
  have e : (a ++ b).cps = a.cps ++ b.cps := rfl
  refine ⟨?_, decide_eq_true ?_⟩
  · rw [e, Array.all_append, a1, b1]; rfl
  · show (a ++ b).cps.size ≤ _
    rw [e, Array.size_append]
    exact h
theorem o2_add {K : Frag} : Op2 K gAdd (rAddD K) := by
  intro W σ ι H G x y v u Q r hx hy p
  unfold gAdd at p
  split at p
  · simp only [DV] at hx hy
    exact .inl ⟨_, _, hx, hy, p.ok Ext.refl r (by simp only [DV])⟩
  · rename_i a b
    simp only [DV] at hx hy
    split at p
    · rename_i hl
      exact .inr (.inl ⟨_, _, hx.1, hy.1, by rw [szl]; exact hl, p.ok Ext.refl r (by simp only [DV]; exact ⟨trivial, strF_append hx.2 hy.2 hl⟩)⟩)
    · exact False.elim p
  · rename_i a b
    simp only [DV] at hx hy
    obtain ⟨p1, vs, rfl, q1, h1⟩ := hx
    obtain ⟨p2, ws, rfl, q2, h2⟩ := hy
    split at p
    · rename_i hl
      refine .inr (.inr (.inl ⟨p1, p2, vs, ws, rfl, rfl, SqT.of q1, SqT.of q2, by rw [szl, ← h1.length, ← h2.length]; exact hl, fun e => ?_, fun e1 e2 => ?_, fun e1 e2 q hq => ?_⟩))
      · subst e
        have e : a = [] := by have := h1.length; simpa using this
        subst e
        exact p.ok Ext.refl r (by simp only [DV]; exact ⟨p2, ws, rfl, q2, by simpa using h2⟩)
      · subst e2
        have e : b = [] := by have := h2.length; simpa using this
        subst e
        exact p.ok Ext.refl r (by simp only [DV]; exact ⟨p1, vs, rfl, q1, by simpa using h1⟩)
      · obtain ⟨e2, r2⟩ := r.side (o := .tup (vs ++ ws)) hq
        exact p.ok e2 r2 (by simp only [DV]; exact ⟨q, _, rfl, upd_same, (h1.append h2).ext e2⟩)
    · exact False.elim p
  · rename_i i j
    simp only [DV] at hx hy
    obtain ⟨p1, k1, rfl⟩ := hx
    obtain ⟨p2, k2, rfl⟩ := hy
    split at p
    · rename_i a b g1 g2
      obtain ⟨vs, q1, h1⟩ := r.at_ _ _ _ k1 g1
      obtain ⟨ws, q2, h2⟩ := r.at_ _ _ _ k2 g2
      split at p
      · rename_i hl
        refine .inr (.inr (.inr ⟨p1, p2, vs, ws, rfl, rfl, q1, q2, by rw [szl, ← h1.length, ← h2.length]; exact hl, fun q hq => ?_⟩))
        obtain ⟨e2, r2, hat⟩ := r.new (u := .lst (vs ++ ws)) (o := .lst (a ++ b)) hq fun e => ⟨_, upd_same, (h1.append h2).ext e⟩
        exact p.ok e2 r2 (by simp only [DV]; exact ⟨q, hat, rfl⟩)
      · exact False.elim p
    · exact False.elim p
  · exact False.elim p
def gI (C : Int → Int → Bool) (g : Int → Int → D) (x y : D) (G : GH) : R D := match x, y with
  | .int i, .int j => if C i j = true then .ok (g i j) G else .st
  | _, _ => .st
def gI0 (g : Int → Int → D) (x y : D) (G : GH) : R D := match x, y with
  | .int i, .int j => .ok (g i j) G
  | _, _ => .st
theorem o2_I {K : Frag} {C : Int → Int → Bool} {C' : Int → Int → Prop} {g : Int → Int → D} {g' : Int → Int → V} (hC : ∀ i j, C i j = true → C' i j) (hg : ∀ ι H i j, DV K ι H (g i j) (g' i j)) : Op2 K (gI C g) (rI C' g') := by
  intro W σ ι H G x y v u Q r hx hy p
  unfold gI at p
  split at p
  · simp only [DV] at hx hy
    split at p
    · rename_i hc
      exact ⟨_, _, hx, hy, hC _ _ hc, p.ok Ext.refl r (hg _ _ _ _)⟩
    · exact False.elim p
  · exact False.elim p
theorem o2_I0 {K : Frag} {g : Int → Int → D} {g' : Int → Int → V} (hg : ∀ ι H i j, DV K ι H (g i j) (g' i j)) : Op2 K (gI0 g) (rI0 g') := by
  intro W σ ι H G x y v u Q r hx hy p
  unfold gI0 at p
  split at p
  · simp only [DV] at hx hy
    exact ⟨_, _, hx, hy, p.ok Ext.refl r (hg _ _ _ _)⟩
  · exact False.elim p
def gSub : D → D → GH → R D := gI0 fun i j => .int (i - j)
def gMul : D → D → GH → R D := gI (fun i j => decide ((-(2 ^ 64) < i ∧ i < 2 ^ 64) ∨ (-(2 ^ 64) < j ∧ j < 2 ^ 64))) fun i j => .int (i * j)
def gDiv : D → D → GH → R D := gI (fun i j => decide (0 < j ∧ j < 1073741824)) fun i j => .int (i / j)
def gMod : D → D → GH → R D := gI (fun i j => decide (0 < j)) fun i j => .int (i % j)
section
variable {X : Cx} {xa : XA} {W : WX} {a b : Expr} {f h : FE} {pos : Pos}
theorem de_add (ha : DE X xa W a f) (hb : DE X xa W b h) : DE X xa W (.BinOp a .Add b pos) (f2 gAdd f h) := de_bin opr_add o2_add ha hb
theorem de_sub (ha : DE X xa W a f) (hb : DE X xa W b h) : DE X xa W (.BinOp a .Sub b pos) (f2 gSub f h) := de_bin op_sub (o2_I0 fun _ _ _ _ => by simp only [DV]) ha hb
theorem de_mul (ha : DE X xa W a f) (hb : DE X xa W b h) : DE X xa W (.BinOp a .Mult b pos) (f2 gMul f h) := de_bin op_mul (o2_I (C' := CMul) (fun i j q => show CMul i j from (of_decide_eq_true q : (-(2 ^ 64) < i ∧ i < 2 ^ 64) ∨ (-(2 ^ 64) < j ∧ j < 2 ^ 64))) fun _ _ _ _ => by simp only [DV]) ha hb
theorem de_div (ha : DE X xa W a f) (hb : DE X xa W b h) : DE X xa W (.BinOp a .FloorDiv b pos) (f2 gDiv f h) := de_bin op_fdiv (o2_I (C' := CDiv) (fun i j q => show CDiv i j from (of_decide_eq_true q : 0 < j ∧ j < 1073741824)) fun _ _ _ _ => by simp only [DV]) ha hb
theorem de_mod (ha : DE X xa W a f) (hb : DE X xa W b h) : DE X xa W (.BinOp a .Mod b pos) (f2 gMod f h) := de_bin op_mod (o2_I (fun _ _ q => of_decide_eq_true q) fun _ _ _ _ => by simp only [DV]) ha hb
end
/-- -x -/
def gNeg (x : D) (G : GH) : R D := match x with
  | .int i => .ok (.int (-i)) G
  | _ => .st
theorem tE_un {K : Frag} {xa : XA} {W : WX} {f : FE} {g : D → GH → R D} {r : V → Hp → VK → Prop} (ho : ∀ (W : WX) (σ : L2.St) (ι : List Addr) (H : Hp) (G : GH) (x : D) (v : V) (Q : VK), Rz K ι H G → DV K ι H x v → PostE K W σ ι H (g x G) Q → r v H Q)
    (σ : L2.St) (H : Hp) (Q : VK) (q : tE K xa W (f1 g f) σ H Q) : tE K xa W f σ H fun v H1 => r v H1 Q := by
  obtain ⟨ι, ρ, G, c, p⟩ := q
  exact ⟨ι, ρ, G, c, (Post.bind (rel := DV K) p).mono fun v H1 ⟨ι1, x, G1, e1, r1, d1, p1⟩ => ho W σ ι1 H1 G1 x v Q r1 d1 p1⟩
theorem de_neg {X : Cx} {xa : XA} {W : WX} {a : Expr} {f : FE} {pos : Pos} (ha : DE X xa W a f) : DE X xa W (.UnaryOp .USub a pos) (f1 gNeg f) := by
  refine PEm (pe_un un_neg ha) (tE_un fun W σ ι H G x v Q r d p => ?_)
  unfold gNeg at p
  split at p
  · simp only [DV] at d
    exact ⟨_, d, p.ok Ext.refl r (by simp only [DV])⟩
  · exact False.elim p

/-! ### comparisons -/
def gLt (x y : D) (G : GH) : R D := match x, y with
  | .int i, .int j => .ok (.bl (decide (i < j))) G
  | .str i, .str j => .ok (.bl (decide (i.cps.toList < j.cps.toList))) G
  | _, _ => .st
def gLe (x y : D) (G : GH) : R D := match x, y with
  | .int i, .int j => .ok (.bl (decide (i ≤ j))) G
  | .str i, .str j => .ok (.bl (!decide (j.cps.toList < i.cps.toList))) G
  | _, _ => .st
def gGt (x y : D) (G : GH) : R D := match x, y with
  | .int i, .int j => .ok (.bl (decide (j < i))) G
  | _, _ => .st
def gGe (x y : D) (G : GH) : R D := match x, y with
  | .int i, .int j => .ok (.bl (decide (j ≤ i))) G
  | _, _ => .st
def rLtD : R2 := fun x y H Q => rI0 (fun i j => .bl (decide (i < j))) x y H Q ∨ ∃ i j, x = .str i ∧ y = .str j ∧ Q (.bl (decide (i.cps.toList < j.cps.toList))) H
def rLeD : R2 := fun x y H Q => rI0 (fun i j => .bl (decide (i ≤ j))) x y H Q ∨ ∃ i j, x = .str i ∧ y = .str j ∧ Q (.bl (!decide (j.cps.toList < i.cps.toList))) H
theorem opr_lt {X : Cx} : OpR X (compareOp .Lt) rLtD := op_lt.or op_lt_str
theorem opr_le {X : Cx} : OpR X (compareOp .LtE) rLeD := op_le.or op_le_str
theorem o2_lt {K : Frag} : Op2 K gLt rLtD := by
  intro W σ ι H G x y v u Q r hx hy p
  unfold gLt at p
  split at p
  · simp only [DV] at hx hy
    exact .inl ⟨_, _, hx, hy, p.ok Ext.refl r (by simp only [DV])⟩
  · simp only [DV] at hx hy
    exact .inr ⟨_, _, hx.1, hy.1, p.ok Ext.refl r (by simp only [DV])⟩
  · exact False.elim p
theorem o2_le {K : Frag} : Op2 K gLe rLeD := by
  intro W σ ι H G x y v u Q r hx hy p
  unfold gLe at p
  split at p
  · simp only [DV] at hx hy
    exact .inl ⟨_, _, hx, hy, p.ok Ext.refl r (by simp only [DV])⟩
  · simp only [DV] at hx hy
    exact .inr ⟨_, _, hx.1, hy.1, p.ok Ext.refl r (by simp only [DV])⟩
  · exact False.elim p
theorem o2_gt {K : Frag} : Op2 K gGt (rI0 fun i j => .bl (decide (j < i))) := by
  intro W σ ι H G x y v u Q r hx hy p
  unfold gGt at p
  split at p
  · simp only [DV] at hx hy
    exact ⟨_, _, hx, hy, p.ok Ext.refl r (by simp only [DV])⟩
  · exact False.elim p
theorem o2_ge {K : Frag} : Op2 K gGe (rI0 fun i j => .bl (decide (j ≤ i))) := by
  intro W σ ι H G x y v u Q r hx hy p
  unfold gGe at p
  split at p
  · simp only [DV] at hx hy
    exact ⟨_, _, hx, hy, p.ok Ext.refl r (by simp only [DV])⟩
  · exact False.elim p
/-- dicts: keys and values -/
def valD {κ : Type} [DecidableEq κ] (kvs : List (κ × D)) (k : κ) : Option D := (kvs.find? fun kv => decide (kv.1 = k)).map (·.2)
theorem DKs.val {K : Frag} {ι : List Addr} {H : Hp} {κ : Type} [KOk κ] [DecidableEq κ] {k : κ} : ∀ {ks : List (κ × D)} {vs : List (κ × V)}, DKs K ι H ks vs → match valD ks k with
    | none => valV vs k = none
    | some d => ∃ v, valV vs k = some v ∧ DV K ι H d v
  | _, _, .nil => by simp [valD, valV]
  | p :: ks, q :: vs, .cons ⟨h1, h2, h3⟩ t => by
    have ih := DKs.val (k := k) t
    by_cases e : p.1 = k
    · have e1 : valD (p :: ks) k = some p.2 := by simp [valD, List.find?_cons, e]
      have e2 : valV (q :: vs) k = some q.2 := valV_pos (by rw [← h1]; exact e)
      rw [e1]
      exact ⟨q.2, e2, h2⟩
    · have e1 : valD (p :: ks) k = valD ks k := by simp [valD, List.find?_cons, e]
      have e2 : valV (q :: vs) k = valV vs k := valV_neg (by rw [← h1]; exact e)
      rw [e1, e2]
      exact ih
theorem DKs.length {K : Frag} {ι : List Addr} {H : Hp} {κ : Type} [KOk κ] {ks : List (κ × D)} {vs : List (κ × V)} (h : DKs K ι H ks vs) : ks.length = vs.length := Paired.length h
def flatSame : D → D → Bool
  | .non, .non => true
  | .bl a, .bl b => a == b
  | .int a, .int b => decide (a = b)
  | .str a, .str b => decide (a = b)
  | _, _ => false
/-- dicts key by key -/
def hitB (G : GH) (ls : List (Key × D)) : List (Key × D) → Option Bool
  | [] => some true
  | p :: ps => match valD ls p.1 with
    | none => some false
    | some d => match py G 64 p.2, py G 64 d, hitB G ls ps with
      | some x, some y, some r => some (PyData.eqv x y && r)
      | _, _, _ => none
def sameDict (ks ls : List (Key × D)) : Bool := decide (ks.length = ls.length) && ks.all fun p => match valD ls p.1 with
  | some d => flatSame p.2 d
  | none => false
def eqDeep (x y : D) (G : GH) : Option Bool := match py G 64 x, py G 64 y with
  | some p, some q => some (PyData.eqv p q)
  | _, _ => none
/-- ==: the answer, where there is one -/
def eqB (x y : D) (G : GH) : Option Bool := match x, y with
  | .int i, .int j => some (decide (i = j))
  | .str i, .str j => some (decide (i = j))
  | .bl i, .bl j => some (decide (i = j))
  | .ref i, .ref j => match G[i]?, G[j]? with
    | some (.dK ks), some (.dK ls) => if ks.length = ls.length then hitB G ls ks else some false
    | _, _ => eqDeep (.ref i) (.ref j) G
  | x, y => eqDeep x y G
def ofB (o : Option Bool) (G : GH) : R D := match o with
  | some b => .ok (.bl b) G
  | none => .st
def gEq (x y : D) (G : GH) : R D := ofB (eqB x y G) G
def gNe (x y : D) (G : GH) : R D := ofB ((eqB x y G).map not) G
/-- two dicts, key by key -/
def DHits (K : Frag) (H : Hp) (ls : List (Key × V)) : List (Key × V) → Bool → Prop
  | [], b => b = true
  | p :: ps, b => (valV ls p.1 = none ∧ b = false) ∨ ∃ v d e r, valV ls p.1 = some v ∧ Dp K H p.2 d ∧ Dp K H v e ∧ d.canLay0 = true ∧ e.canLay0 = true ∧ d.depth ≤ 64 ∧ DHits K H ls ps r ∧ b = (PyData.eqv d e && r)
def rDX (K : Frag) (neg : Bool) : R2 := fun x y H Q => ∃ a c ks ls b, x = .ref a ∧ y = .ref c ∧ H a = some (.dK ks) ∧ H c = some (.dK ls) ∧ (ks.length = ls.length → DHits K H ls ks b) ∧ (ks.length ≠ ls.length → b = false) ∧ Q (.bl (if neg = true then !b else b)) H
theorem hits_dx {X : Cx} {pins : List (Addr × Obj)} {σ : L2.St} {H : Hp} {s : Shared} {A : Around} (I : Inv X pins σ H s) (hu : A.units + 64 < cLine) {ls : List (Key × V)} {vb : List (Key × Value)} (rb : KV ls vb) :
    ∀ {ks : List (Key × V)} {va : List (Key × Value)} {b : Bool}, KV ks va → DHits X.K H ls ks b → PySem.W.KeqHits A s vb va b
  | [], va, b, ra, h => by
    cases ra
    have h' : b = true := h
    subst h'
    exact .nil
  | p :: ps, va, b, ra, h => by
    cases ra with
    | @cons _ q _ qs h1 t =>
      obtain ⟨h1, h2⟩ := h1
      obtain ⟨k, v⟩ := q
      have h1' : p.1 = k := h1
      rcases h with ⟨hn, rfl⟩ | ⟨w, d, e, r, hw, hd, he, ld, le, dd, hr, rfl⟩
      · have rr : RelO (none : Option V) (valueAt vb p.1) := by rw [← hn]; exact rb.val p.1
        rw [h1'] at rr
        refine .miss ?_
        cases z : valueAt vb k with
        | none => rfl
        | some y => rw [z] at rr; exact False.elim rr
      · have rr : RelO (some w) (valueAt vb p.1) := by rw [← hw]; exact rb.val p.1
        obtain ⟨y, hy, ry⟩ := rr.some_of
        rw [h1'] at hy
        obtain ⟨as, r1⟩ := Dp.reads I d _ v hd h2
        obtain ⟨bs, r2⟩ := Dp.reads I e w y he ry
        exact .hit hy (SeqAt.eqAt_reads d e A s v y as bs r1 r2 ld le (by omega)) (hits_dx I hu rb t hr)
theorem op_eqX {X : Cx} (hu : X.A.units + 100 < cLine) : OpR X (compareOp .Eq) (rDX X.K false) := by
  intro pins s σ H x y v u Q I rx ry h
  obtain ⟨a, c, ks, ls, b, rfl, rfl, ea, eb, h1, h2, q⟩ := h
  obtain rfl : v = Value.ref a := rx
  obtain rfl : u = Value.ref c := ry
  obtain ⟨_, ya, va, ra, da⟩ := (show ObjOk X.prog X.w H s.heap a (.dK ks) from I.hok a _ ea)
  obtain ⟨_, yb, vb, rb, db⟩ := (show ObjOk X.prog X.w H s.heap c (.dK ls) from I.hok c _ eb)
  have la : ks.length = va.length := ra.length
  have lb : ls.length = vb.length := rb.length
  have hin : X.A.in1.units + 64 < cLine := by show X.A.units + 1 + 64 < cLine; omega
  refine PySem.W.keq_eq (knd := mixKind X.prog X.w) (r := b) ya yb da db (by omega) (fun hl => hits_dx I hin rb ra (h1 (by rw [la, lb]; exact hl))) (fin_bl I q ?_)
  by_cases hl : va.length = vb.length
  · simp [hl]
  · rw [h2 (by rw [la, lb]; exact hl)]; simp [hl]
theorem op_neX {X : Cx} (hu : X.A.units + 100 < cLine) : OpR X (compareOp .NotEq) (rDX X.K true) := by
  intro pins s σ H x y v u Q I rx ry h
  obtain ⟨a, c, ks, ls, b, rfl, rfl, ea, eb, h1, h2, q⟩ := h
  obtain rfl : v = Value.ref a := rx
  obtain rfl : u = Value.ref c := ry
  obtain ⟨_, ya, va, ra, da⟩ := (show ObjOk X.prog X.w H s.heap a (.dK ks) from I.hok a _ ea)
  obtain ⟨_, yb, vb, rb, db⟩ := (show ObjOk X.prog X.w H s.heap c (.dK ls) from I.hok c _ eb)
  have la : ks.length = va.length := ra.length
  have lb : ls.length = vb.length := rb.length
  have hin : X.A.in1.units + 64 < cLine := by show X.A.units + 1 + 64 < cLine; omega
  refine PySem.W.keq_ne (knd := mixKind X.prog X.w) (r := b) ya yb da db (by omega) (fun hl => hits_dx I hin rb ra (h1 (by rw [la, lb]; exact hl))) (fin_bl I q ?_)
  by_cases hl : va.length = vb.length
  · simp [hl]
  · rw [h2 (by rw [la, lb]; exact hl)]; simp [hl]
def rEqA (K : Frag) : R2 := fun x y H Q => rEq x y H Q ∨ rEqD K x y H Q ∨ rDX K false x y H Q
def rNeA (K : Frag) : R2 := fun x y H Q => rNe x y H Q ∨ rNeD K x y H Q ∨ rDX K true x y H Q
theorem opr_eq {X : Cx} (hu : X.A.units + 100 < cLine) : OpR X (compareOp .Eq) (rEqA X.K) := op_eq.or ((op_eqD (by omega)).or (op_eqX hu))
theorem opr_ne {X : Cx} (hu : X.A.units + 100 < cLine) : OpR X (compareOp .NotEq) (rNeA X.K) := op_ne.or ((op_neD (by omega)).or (op_neX hu))
theorem hit_dv {K : Frag} {ι : List Addr} {H : Hp} {G : GH} (r : Rz K ι H G) {ls : List (Key × D)} {ws : List (Key × V)} (h2 : DKs K ι H ls ws) : ∀ {ks : List (Key × D)} {vs : List (Key × V)} {b : Bool}, DKs K ι H ks vs → hitB G ls ks = some b → DHits K H ws vs b
  | [], _, b, .nil, e => (Option.some.inj e).symm
  | p :: ks, q :: vs, b, .cons ⟨k1, k2, k3⟩ t, e => by
    obtain ⟨kp, vp⟩ := p
    obtain ⟨kq, vq⟩ := q
    have k1' : kp = kq := k1
    subst k1'
    have z := h2.val (k := kp)
    simp only [hitB] at e
    cases hv : valD ls kp with
    | none =>
      rw [hv] at z e
      exact .inl ⟨z, (Option.some.inj e).symm⟩
    | some d =>
      rw [hv] at z e
      obtain ⟨v, q1, q2⟩ := z
      dsimp only at e
      split at e
      · rename_i x y r' e1 e2 e3
        have a1 := py_ok r 64 _ _ _ e1 k2
        have a2 := py_ok r 64 _ _ _ e2 q2
        exact .inr ⟨v, x, y, r', q1, a1.dp, a2.dp, a1.lay, a2.lay, a1.dep, hit_dv r h2 t e3, (Option.some.inj e).symm⟩
      · cases e
/-- the answer of == once, for == and != -/
theorem eq_cases {K : Frag} {ι : List Addr} {H : Hp} {G : GH} {x y : D} {v u : V} {b : Bool} (r : Rz K ι H G) (hx : DV K ι H x v) (hy : DV K ι H y u) (h : eqB x y G = some b) :
    (scal v u = true ∧ b = decide (v = u)) ∨ (∃ d e, Dp K H v d ∧ Dp K H u e ∧ SeqAt.shaped d = true ∧ SeqAt.shaped e = true ∧ b = PyData.eqv d e) ∨
      ∃ a c ks ls, v = .ref a ∧ u = .ref c ∧ H a = some (.dK ks) ∧ H c = some (.dK ls) ∧ (ks.length = ls.length → DHits K H ls ks b) ∧ (ks.length ≠ ls.length → b = false) := by
  have deep : ∀ {x y : D}, DV K ι H x v → DV K ι H y u → eqDeep x y G = some b → ∃ d e, Dp K H v d ∧ Dp K H u e ∧ SeqAt.shaped d = true ∧ SeqAt.shaped e = true ∧ b = PyData.eqv d e := by
    intro x y hx hy h
    unfold eqDeep at h
    split at h
    · rename_i p q e1 e2
      have a := py_ok r 64 x v p e1 hx
      have b := py_ok r 64 y u q e2 hy
      exact ⟨p, q, a.dp, b.dp, a.shaped, b.shaped, (Option.some.inj h).symm⟩
    · cases h
  unfold eqB at h
  split at h
  · simp only [DV] at hx hy
    subst hx; subst hy
    refine .inl ⟨rfl, ?_⟩
    rw [dec_int, Bool.beq_eq_decide_eq]; exact (Option.some.inj h).symm
  · simp only [DV] at hx hy
    obtain ⟨hx, _⟩ := hx
    obtain ⟨hy, _⟩ := hy
    subst hx; subst hy
    refine .inl ⟨rfl, ?_⟩
    rw [dec_str, Bool.beq_eq_decide_eq]; exact (Option.some.inj h).symm
  · simp only [DV] at hx hy
    subst hx; subst hy
    refine .inl ⟨rfl, ?_⟩
    rw [dec_bl, Bool.beq_eq_decide_eq]; exact (Option.some.inj h).symm
  · rename_i i j
    split at h
    · rename_i ks ls g1 g2
      simp only [DV] at hx hy
      obtain ⟨p1, k1, rfl⟩ := hx
      obtain ⟨p2, k2, rfl⟩ := hy
      obtain ⟨vs, q1, h1⟩ := r.at_ _ _ _ k1 g1
      obtain ⟨ws, q2, h2⟩ := r.at_ _ _ _ k2 g2
      split at h
      · rename_i hs
        exact .inr (.inr ⟨p1, p2, vs, ws, rfl, rfl, q1, q2, fun _ => hit_dv r h2 h1 h, fun z => absurd (by rw [← h1.length, ← h2.length]; exact hs) z⟩)
      · rename_i hs
        exact .inr (.inr ⟨p1, p2, vs, ws, rfl, rfl, q1, q2, fun z => absurd (by rw [h1.length, h2.length]; exact z) hs, fun _ => (Option.some.inj h).symm⟩)
    · exact .inr (.inl (deep hx hy h))
  · exact .inr (.inl (deep hx hy h))
theorem ofB_some {K : Frag} {W : WX} {σ : L2.St} {ι : List Addr} {H : Hp} {o : Option Bool} {G : GH} {Q : VK} (r : Rz K ι H G) (p : PostE K W σ ι H (ofB o G) Q) : ∃ b, o = some b ∧ Q (.bl b) H := by
  cases o with
  | none => exact False.elim p
  | some b => exact ⟨b, rfl, (show PostE K W σ ι H (.ok (.bl b) G) Q from p).ok Ext.refl r (by simp only [DV])⟩
theorem o2_eq {K : Frag} : Op2 K gEq (rEqA K) := by
  intro W σ ι H G x y v u Q r hx hy p
  obtain ⟨b, e0, q⟩ := ofB_some r p
  rcases eq_cases r hx hy e0 with ⟨h, rfl⟩ | ⟨d, e, h1, h2, h3, h4, rfl⟩ | ⟨a, c, ks, ls, h1, h2, h3, h4, h5, h6⟩
  · exact .inl ⟨h, q⟩
  · exact .inr (.inl ⟨d, e, h1, h2, h3, h4, q⟩)
  · exact .inr (.inr ⟨a, c, ks, ls, _, h1, h2, h3, h4, h5, h6, q⟩)
theorem o2_ne {K : Frag} : Op2 K gNe (rNeA K) := by
  intro W σ ι H G x y v u Q r hx hy p
  obtain ⟨b, e1, q⟩ := ofB_some r p
  obtain ⟨b', e0, rfl⟩ := Option.map_eq_some_iff.mp e1
  rcases eq_cases r hx hy e0 with ⟨h, rfl⟩ | ⟨d, e, h1, h2, h3, h4, rfl⟩ | ⟨a, c, ks, ls, h1, h2, h3, h4, h5, h6⟩
  · exact .inl ⟨h, q⟩
  · exact .inr (.inl ⟨d, e, h1, h2, h3, h4, q⟩)
  · exact .inr (.inr ⟨a, c, ks, ls, _, h1, h2, h3, h4, h5, h6, q⟩)
end F2
end
section
namespace F2
open PySem PySem.Spec PyProof.Rows L2

/-! ### None, True: is -/
def isNonD : D → Bool
  | .non => true
  | _ => false
def gIsN (x : D) (G : GH) : R D := .ok (.bl (isNonD x)) G
def gNotN (x : D) (G : GH) : R D := .ok (.bl (!isNonD x)) G
theorem isNonD_dv {K : Frag} {ι : List Addr} {H : Hp} {x : D} {v : V} (h : DV K ι H x v) : decide (v = .non) = isNonD x := by
  cases x with
  | non => simp only [DV] at h; subst h; rfl
  | bl b => simp only [DV] at h; subst h; rfl
  | int i => simp only [DV] at h; subst h; rfl
  | str x => simp only [DV] at h; obtain ⟨rfl, _⟩ := h; rfl
  | tup xs => simp only [DV] at h; obtain ⟨a, vs, rfl, _⟩ := h; rfl
  | ktup xs => simp only [DV] at h; obtain ⟨a, vs, rfl, _⟩ := h; rfl
  | scr xs => simp only [DV] at h; obtain ⟨a, vs, rfl, _⟩ := h; rfl
  | ref i => simp only [DV] at h; obtain ⟨a, _, rfl⟩ := h; rfl
/-- is True, is False; is not -/
def gIsB (b : Bool) (x : D) (G : GH) : R D := match x with
  | .bl c => .ok (.bl (decide (c = b))) G
  | _ => .st
def gNotB (b : Bool) (x : D) (G : GH) : R D := match x with
  | .bl c => .ok (.bl (!decide (c = b))) G
  | _ => .st
section
variable {X : Cx} {xa : XA} {W : WX} {a b : Expr} {f h : FE} {pos : Pos}
theorem de_isN {j pos'} (ha : DE X xa W a f) : DE X xa W (.Compare a [.Is] [.Constant .none j pos'] pos) (f1 gIsN f) :=
  PEm (pe_cmp (pc_isN ha)) (tE_un (r := fun v H Q => Q (.bl (decide (v = .non))) H) fun W σ ι H G x v Q r d p => p.ok Ext.refl r (by simp only [DV]; rw [isNonD_dv d]))
theorem de_notN {j pos'} (ha : DE X xa W a f) : DE X xa W (.Compare a [.IsNot] [.Constant .none j pos'] pos) (f1 gNotN f) :=
  PEm (pe_cmp (pc_notN ha)) (tE_un (r := fun v H Q => Q (.bl (!decide (v = .non))) H) fun W σ ι H G x v Q r d p => p.ok Ext.refl r (by simp only [DV]; rw [isNonD_dv d]))
theorem tT_b1 {t : TE} {g : FE} (hg : PE X a t) (m : ∀ σ H Q, tE X.K xa W g σ H Q → t σ H Q) (he : ∀ whole, isTrue a X.env whole = (do let v ← whole; standAt a.pos; holding [v] (truthy v)) := by intro _; rfl) : DT X xa W a (fB g) :=
  PTm (pt_val hg he) fun σ H Q q => tT_b m σ H Q q
theorem dt_isN {j pos'} (ha : DE X xa W a f) : DT X xa W (.Compare a [.Is] [.Constant .none j pos'] pos) (fB (f1 gIsN f)) :=
  PTm (pt_cmp (pc_isN ha)) fun σ H Q q => tT_b (fun _ _ _ z => tE_un (r := fun v H Q => Q (.bl (decide (v = .non))) H) (fun W σ ι H G x v Q r d p => p.ok Ext.refl r (by simp only [DV]; rw [isNonD_dv d])) _ _ _ z) σ H Q q
theorem dt_notN {j pos'} (ha : DE X xa W a f) : DT X xa W (.Compare a [.IsNot] [.Constant .none j pos'] pos) (fB (f1 gNotN f)) :=
  PTm (pt_cmp (pc_notN ha)) fun σ H Q q => tT_b (fun _ _ _ z => tE_un (r := fun v H Q => Q (.bl (!decide (v = .non))) H) (fun W σ ι H G x v Q r d p => p.ok Ext.refl r (by simp only [DV]; rw [isNonD_dv d])) _ _ _ z) σ H Q q
def gIsB2 (x y : D) (G : GH) : R D := match x, y with
  | .bl c, .bl b => .ok (.bl (decide (c = b))) G
  | _, _ => .st
def gNotB2 (x y : D) (G : GH) : R D := match x, y with
  | .bl c, .bl b => .ok (.bl (!decide (c = b))) G
  | _, _ => .st
theorem o2_isB {K : Frag} : Op2 K gIsB2 rIsB := by
  intro W σ ι H G x y v u Q r hx hy p
  unfold gIsB2 at p
  split at p
  · simp only [DV] at hx hy
    exact ⟨_, _, hx, hy, p.ok Ext.refl r (by simp only [DV])⟩
  · exact False.elim p
theorem o2_notB {K : Frag} : Op2 K gNotB2 rNotB := by
  intro W σ ι H G x y v u Q r hx hy p
  unfold gNotB2 at p
  split at p
  · simp only [DV] at hx hy
    exact ⟨_, _, hx, hy, p.ok Ext.refl r (by simp only [DV])⟩
  · exact False.elim p
end

/-! ### membership -/
def keyD : D → Option Key
  | .int i => some (.inl i)
  | .str x => some (.inr x)
  | _ => none
theorem keyD_dv {K : Frag} {ι : List Addr} {H : Hp} {x : D} {v : V} {k : Key} (e : keyD x = some k) (h : DV K ι H x v) : v = kV k := by
  cases x with
  | int i => cases e; simp only [DV] at h; exact h
  | str x => cases e; simp only [DV] at h; exact h.1
  | _ => cases e
def keysD : List D → Option (List Key)
  | [] => some []
  | d :: ds => match keyD d, keysD ds with
    | some k, some ks => some (k :: ks)
    | _, _ => none
theorem keysD_dv {K : Frag} {ι : List Addr} {H : Hp} : ∀ {ds : List D} {vs : List V} {ks : List Key}, keysD ds = some ks → DVs K ι H ds vs → vs = ks.map kV
  | [], _, _, e, h => by cases e; exact DVs.nil_inv h
  | d :: ds, _, _, e, h => by
    obtain ⟨v, r, rfl, h1, h2⟩ := h.cons_inv
    unfold keysD at e
    split at e
    · rename_i k ks e1 e2
      cases e
      rw [keyD_dv e1 h1, keysD_dv e2 h2]
      rfl
    · cases e
theorem keyD_ok {K : Frag} {ι : List Addr} {H : Hp} {x : D} {v : V} {k : Key} (e : keyD x = some k) (h : DV K ι H x v) : KOk.ok k = true := by
  cases x with
  | int i => cases e; rfl
  | str x => cases e; simp only [DV] at h; exact h.2
  | _ => cases e
theorem keysD_ok {K : Frag} {ι : List Addr} {H : Hp} : ∀ {ds : List D} {vs : List V} {ks : List Key}, keysD ds = some ks → DVs K ι H ds vs → KOk.ok ks = true
  | [], _, _, e, h => by cases e; rfl
  | d :: ds, _, _, e, h => by
    obtain ⟨v, r, rfl, h1, h2⟩ := h.cons_inv
    unfold keysD at e
    split at e
    · rename_i k ks e1 e2
      cases e
      have a := keyD_ok e1 h1
      have b := keysD_ok e2 h2
      show (keyOk k && ks.all keyOk) = true
      rw [Bool.and_eq_true]
      exact ⟨a, b⟩
    · cases e
/-- the dict at number i asked for the key d: there is one, and what it holds -/
def askD (G : GH) (i : Nat) (d : D) : Option (Option D) := match G[i]? with
  | some (.dK kvs) => (keyD d).map fun k => valD kvs k
  | some (.fK kvs) => (keyD d).map fun k => valD kvs k
  | some (.dT kvs) => match d with
    | .tup xs => (keysD xs).map fun k => valD kvs k
    | _ => none
  | some (.fT kvs) => match d with
    | .tup xs => (keysD xs).map fun k => valD kvs k
    | _ => none
  | _ => none
def AskR (K : Frag) (ι : List Addr) (H : Hp) (a : Addr) (v : V) : Option D → Prop
  | none => DGet H a v none
  | some z => ∃ w, DGet H a v (some w) ∧ DV K ι H z w
theorem ask_dget {K : Frag} {ι : List Addr} {H : Hp} {G : GH} {i : Nat} {a : Addr} {d : D} {v : V} {o : Option D} (r : Rz K ι H G) (hi : ι[i]? = some a) (hd : DV K ι H d v) (e : askD G i d = some o) :
    AskR K ι H a v o := by
  unfold askD at e
  have kc : ∀ {kvs : List (Key × D)} {vs : List (Key × V)} {k : Key}, DKs K ι H kvs vs → Rd H a (.dK vs) → keyD d = some k → o = valD kvs k → AskR K ι H a v o := by
    intro kvs vs k h rd ek eo
    have q := h.val (k := k)
    have ev := keyD_dv ek hd
    subst eo
    cases z : valD kvs k with
    | none => rw [z] at q; exact .inl ⟨vs, k, rd, ev, q.symm⟩
    | some w => rw [z] at q; obtain ⟨u, q1, q2⟩ := q; exact ⟨u, .inl ⟨vs, k, rd, ev, q1.symm⟩, q2⟩
  have tc : ∀ {kvs : List (List Key × D)} {vs : List (List Key × V)} {k : List Key} {xs : List D}, DKs K ι H kvs vs → Rd H a (.dT vs) → d = .tup xs → keysD xs = some k → o = valD kvs k → AskR K ι H a v o := by
    intro kvs vs k xs h rd ed ek eo
    have q := h.val (k := k)
    subst ed
    simp only [DV] at hd
    obtain ⟨b, ws, rfl, hb, hw⟩ := hd
    rw [keysD_dv ek hw] at hb
    subst eo
    cases z : valD kvs k with
    | none => rw [z] at q; exact .inr ⟨vs, k, b, rd, rfl, hb, q.symm⟩
    | some w => rw [z] at q; obtain ⟨u, q1, q2⟩ := q; exact ⟨u, .inr ⟨vs, k, b, rd, rfl, hb, q1.symm⟩, q2⟩
  cases g : G[i]? with
  | none => rw [g] at e; cases e
  | some ob =>
    rw [g] at e
    have w := r.at_ i a ob hi g
    cases ob with
    | dK kvs =>
      obtain ⟨k, ek, rfl⟩ := Option.map_eq_some_iff.mp e
      obtain ⟨vs, q, h⟩ := w
      exact kc h (.inl q) ek rfl
    | fK kvs =>
      obtain ⟨k, ek, rfl⟩ := Option.map_eq_some_iff.mp e
      obtain ⟨ob, vs, q, h⟩ := w
      exact kc h (.inr ⟨ob, q⟩) ek rfl
    | dT kvs =>
      cases d with
      | tup xs =>
        obtain ⟨k, ek, rfl⟩ := Option.map_eq_some_iff.mp e
        obtain ⟨vs, q, h⟩ := w
        exact tc h (.inl q) rfl ek rfl
      | _ => cases e
    | fT kvs =>
      cases d with
      | tup xs =>
        obtain ⟨k, ek, rfl⟩ := Option.map_eq_some_iff.mp e
        obtain ⟨ob, vs, q, h⟩ := w
        exact tc h (.inr ⟨ob, q⟩) rfl ek rfl
      | _ => cases e
    | _ => cases e
/-- the items of a list or tuple -/
def itemsD (G : GH) (y : D) : Option (List D) := match y with
  | .tup xs => some xs
  | .ktup xs => some xs
  | .scr xs => some xs
  | .ref i => match G[i]? with
    | some (.lst xs) => some xs
    | some (.fro xs) => some xs
    | _ => none
  | _ => none
theorem items_dv {K : Frag} {ι : List Addr} {H : Hp} {G : GH} {y : D} {v : V} {xs : List D} (r : Rz K ι H G) (h : DV K ι H y v) (e : itemsD G y = some xs) : ∃ a vs, v = .ref a ∧ DVs K ι H xs vs ∧ (SqL K H a vs ∨ SqT K H a vs) := by
  cases y with
  | tup ys => cases e; simp only [DV] at h; obtain ⟨a, vs, rfl, q, h⟩ := h; exact ⟨a, vs, rfl, h, .inr (SqT.of q)⟩
  | ktup ys => cases e; simp only [DV] at h; obtain ⟨a, vs, rfl, q, h⟩ := h; exact ⟨a, vs, rfl, h, .inr (.inr q)⟩
  | scr ys => cases e; simp only [DV] at h; obtain ⟨a, vs, rfl, q, h⟩ := h; exact ⟨a, vs, rfl, h, .inl q.sq⟩
  | ref i =>
    simp only [DV] at h
    obtain ⟨a, hi, rfl⟩ := h
    simp only [itemsD] at e
    cases g : G[i]? with
    | none => rw [g] at e; cases e
    | some o =>
      rw [g] at e
      have w := r.at_ i a o hi g
      cases o with
      | lst xs => cases e; obtain ⟨vs, q, h⟩ := w; exact ⟨a, vs, rfl, h, .inl (SqL.of q)⟩
      | fro xs => cases e; obtain ⟨o, vs, q, h⟩ := w; exact ⟨a, vs, rfl, h, .inl (.inl (.inr ⟨o, q⟩))⟩
      | _ => cases e
  | _ => cases e
/-- x in y: the answer -/
def inB (x y : D) (G : GH) : Option Bool := match itemsD G y with
  | some ys => match py G 64 x, pys (py G 64) ys with
    | some p, some ps => some (ps.any fun z => PyData.eqv z p)
    | _, _ => none
  | none => match y with
    | .ref i => (askD G i x).map (·.isSome)
    | _ => none
def gIn (x y : D) (G : GH) : R D := ofB (inB x y G) G
def gNotIn (x y : D) (G : GH) : R D := ofB ((inB x y G).map not) G
def rInX (K : Frag) (neg : Bool) : R2 := fun x y H Q =>
  (∃ p a vs ds, y = .ref a ∧ (SqL K H a vs ∨ SqT K H a vs) ∧ DpAll K H vs ds ∧ PyData.canLayAll0 ds = true ∧ Dp K H x p ∧ SeqAt.shaped p = true ∧ Q (.bl (if neg then !(ds.any fun z => PyData.eqv z p) else ds.any fun z => PyData.eqv z p)) H) ∨
  ∃ a o, y = .ref a ∧ DGet H a x o ∧ Q (.bl (if neg then !o.isSome else o.isSome)) H
theorem room_in_any {A : Around} {d : PyData} {ds : List PyData} (h : SeqAt.shaped d = true) (hu : A.units + 100 < cLine) : A.units + 1 + min (PyData.depthAll ds) d.depth < cLine := by
  have h1 := SeqAt.depth_of_shaped h
  have h2 : min (PyData.depthAll ds) d.depth ≤ d.depth := Nat.min_le_right _ _
  omega
theorem opr_in {X : Cx} (hu : X.A.units + 100 < cLine) : OpR X (compareOp .In) (rInX X.K false) := by
  intro pins s σ H x y v u Q I rx ry h
  rcases h with ⟨p, a, vs, ds, rfl, hq, hd, hl, hx, hs, q⟩ | ⟨a, o, rfl, g, q⟩
  · cases ry
    obtain ⟨bs, r1⟩ := Dp.reads I p x v hx rx
    rcases hq with hq | hq
    · obtain ⟨as, r2⟩ := Dp.reads I (.list ds) (.ref a) (.ref a) (.lst hq hd) rfl
      exact SeqAt.in_list_reads r2 r1 hl (SeqAt.canLay_of_shaped hs) (room_in_any hs hu) ⟨.bl _, H, I, rfl, q⟩
    · obtain ⟨as, r2⟩ := Dp.reads I (.tuple ds) (.ref a) (.ref a) (.tup hq hd) rfl
      exact SeqAt.in_tuple_reads r2 r1 hl (SeqAt.canLay_of_shaped hs) (room_in_any hs hu) ⟨.bl _, H, I, rfl, q⟩
  · cases ry
    exact d_in (by omega) I g rx fun s' I' => ⟨.bl _, H, I', rfl, q⟩
theorem opr_notIn {X : Cx} (hu : X.A.units + 100 < cLine) : OpR X (compareOp .NotIn) (rInX X.K true) := by
  intro pins s σ H x y v u Q I rx ry h
  rcases h with ⟨p, a, vs, ds, rfl, hq, hd, hl, hx, hs, q⟩ | ⟨a, o, rfl, g, q⟩
  · cases ry
    obtain ⟨bs, r1⟩ := Dp.reads I p x v hx rx
    rcases hq with hq | hq
    · obtain ⟨as, r2⟩ := Dp.reads I (.list ds) (.ref a) (.ref a) (.lst hq hd) rfl
      exact SeqAt.notIn_list_reads r2 r1 hl (SeqAt.canLay_of_shaped hs) (room_in_any hs hu) ⟨.bl _, H, I, rfl, q⟩
    · obtain ⟨as, r2⟩ := Dp.reads I (.tuple ds) (.ref a) (.ref a) (.tup hq hd) rfl
      exact SeqAt.notIn_tuple_reads r2 r1 hl (SeqAt.canLay_of_shaped hs) (room_in_any hs hu) ⟨.bl _, H, I, rfl, q⟩
  · cases ry
    exact d_notIn (by omega) I g rx fun s' I' => ⟨.bl _, H, I', rfl, q⟩
theorem in_cases {K : Frag} {ι : List Addr} {H : Hp} {G : GH} {x y : D} {v u : V} {b : Bool} (r : Rz K ι H G) (hx : DV K ι H x v) (hy : DV K ι H y u) (h : inB x y G = some b) :
    (∃ p a vs ds, u = .ref a ∧ (SqL K H a vs ∨ SqT K H a vs) ∧ DpAll K H vs ds ∧ PyData.canLayAll0 ds = true ∧ Dp K H v p ∧ SeqAt.shaped p = true ∧ b = ds.any fun z => PyData.eqv z p) ∨ ∃ a o, u = .ref a ∧ DGet H a v o ∧ b = o.isSome := by
  unfold inB at h
  cases e : itemsD G y with
  | some ys =>
    rw [e] at h
    dsimp only at h
    split at h
    · rename_i p ps e1 e2
      obtain ⟨a, vs, rfl, hv, hq⟩ := items_dv r hy e
      have z := py_ok r 64 x v p e1 hx
      have w := pys_ok (fun d v p e h => py_ok r 64 d v p e h) e2 hv
      exact .inl ⟨p, a, vs, ps, rfl, hq, w.dp, w.lay, z.dp, z.shaped, (Option.some.inj h).symm⟩
    · cases h
  | none =>
    rw [e] at h
    cases y with
    | ref i =>
      dsimp only at h
      obtain ⟨o, e1, rfl⟩ := Option.map_eq_some_iff.mp h
      simp only [DV] at hy
      obtain ⟨a, hi, rfl⟩ := hy
      have q := ask_dget r hi hx e1
      cases o with
      | none => exact .inr ⟨a, none, rfl, q, rfl⟩
      | some z => obtain ⟨w, q1, q2⟩ := q; exact .inr ⟨a, some w, rfl, q1, rfl⟩
    | _ => cases h
theorem o2_in {K : Frag} : Op2 K gIn (rInX K false) := by
  intro W σ ι H G x y v u Q r hx hy p
  obtain ⟨b, e0, q⟩ := ofB_some r p
  rcases in_cases r hx hy e0 with ⟨p, a, vs, ds, h1, h2, h3, h4, h5, h6, rfl⟩ | ⟨a, o, h1, h2, rfl⟩
  · exact .inl ⟨p, a, vs, ds, h1, h2, h3, h4, h5, h6, q⟩
  · exact .inr ⟨a, o, h1, h2, q⟩
theorem o2_notIn {K : Frag} : Op2 K gNotIn (rInX K true) := by
  intro W σ ι H G x y v u Q r hx hy p
  obtain ⟨b, e1, q⟩ := ofB_some r p
  obtain ⟨b', e0, rfl⟩ := Option.map_eq_some_iff.mp e1
  rcases in_cases r hx hy e0 with ⟨p, a, vs, ds, h1, h2, h3, h4, h5, h6, rfl⟩ | ⟨a, o, h1, h2, rfl⟩
  · exact .inl ⟨p, a, vs, ds, h1, h2, h3, h4, h5, h6, q⟩
  · exact .inr ⟨a, o, h1, h2, q⟩

/-! ### subscripts -/
def gIx (x y : D) (G : GH) : R D := match x, y with
  | .str z, .int i => match atI z.cps.toList i with
    | some c => .ok (.str ⟨#[c]⟩) G
    | none => .st
  | x, y => match itemsD G x with
    | some xs => match y with
      | .int i => match atI xs i with
        | some d => .ok d G
        | none => .st
      | _ => .st
    | none => match x with
      | .ref j => match askD G j y with
        | some (some d) => .ok d G
        | _ => .st
      | _ => .st
def rIxD (K : Frag) : R2 := fun x y H Q => rIx K x y H Q ∨ ∃ a w, x = .ref a ∧ DGet H a y (some w) ∧ Q w H
theorem ixr_any {X : Cx} (hu : X.A.units + 100 < cLine) : IxR X (rIxD X.K) := by
  refine IxR.or ix_seq fun value slice pins s σ H x y v u Q I rx ry h hs => ?_
  obtain ⟨a, w, rfl, g, q⟩ := h
  cases rx
  unfold subscriptTail
  refine wpAny_bind ?_
  rw [getitemInPython_of_ne (dict_typeIs I g).not_modules]
  refine wpAny_bind (wpAny_specialOf (dict_typeIs I g) PySem.F.slot_dict_getitem.lookup ?_)
  have fin : wpAny (model X.prog X.w) X.A (subscripted slice false (.ref a) u) (fun r s₃ => wpAny (model X.prog X.w) X.A (letTemporaryGo value (.ref a) r >>= fun _ => pure r) (EP X pins σ Q) X.xe s₃) X.xe s := by
    rw [hs]
    exact wpAny_operating (wpAny_mono (d_getItem (E := X.xe) (by omega) I g ry fun w' s3 I3 rw' => (show EP X pins σ Q w' s3 from ⟨w, H, I3, rw', q⟩)) (fun r s₃ h₃ => wpAny_bind (wpAny_letTemporaryGo (wpAny_pure h₃))) fun _ _ x => x)
  first
    | exact wpAny_pure (wpAny_bind fin)
    | exact wpAny_bind (wpAny_pure (wpAny_bind fin))
    | exact wpAny_bind fin
theorem atI_map {α β : Type} {xs : List α} {ys : List β} {i : Int} {d : α} (hl : xs.length = ys.length) (e : atI xs i = some d) : ∃ j : Nat, xs[j]? = some d ∧ ∀ w, ys[j]? = some w → atI ys i = some w := by
  unfold atI at e ⊢
  rw [← hl]
  cases h : ixN xs.length i with
  | none => rw [h] at e; cases e
  | some j => rw [h] at e; exact ⟨j, e, fun w h => h⟩
theorem strF1 {c : Nat} {z : Str} (hz : strF z = true) (h : c ∈ z.cps.toList) : strF ⟨#[c]⟩ = true := by
  unfold strF at hz ⊢
  rw [Bool.and_eq_true] at hz ⊢
  refine ⟨?_, decide_eq_true (show (1 : Nat) ≤ 16777216 by decide)⟩
  have h1 := Array.all_eq_true_iff_forall_mem.mp hz.1 c (by simpa using h)
  simpa using h1
theorem o2_ix {K : Frag} : Op2 K gIx (rIxD K) := by
  intro W σ ι H G x y v u Q r hx hy p
  have gen : ∀ x y v u, DV K ι H x v → DV K ι H y u → PostE K W σ ι H (match itemsD G x with
    | some xs => match y with
      | .int i => match atI xs i with
        | some d => .ok d G
        | none => .st
      | _ => .st
    | none => match x with
      | .ref j => match askD G j y with
        | some (some d) => .ok d G
        | _ => .st
      | _ => .st) Q → rIxD K v u H Q := by
    intro x y v u hx hy p
    cases e : itemsD G x with
    | some xs =>
      rw [e] at p
      dsimp only at p
      split at p
      · rename_i i
        simp only [DV] at hy
        subst hy
        cases e2 : atI xs i with
        | none => rw [e2] at p; exact False.elim p
        | some d =>
          rw [e2] at p
          obtain ⟨a, vs, rfl, hv, hq⟩ := items_dv r hx e
          obtain ⟨j, h1, h2⟩ := atI_map hv.length e2
          obtain ⟨w, h3, h4⟩ := hv.get h1
          have q := p.ok Ext.refl r h4
          rcases hq with hq | hq
          · exact .inl (.inl ⟨a, vs, i, w, rfl, rfl, hq, h2 w h3, q⟩)
          · exact .inl (.inr (.inl ⟨a, vs, i, w, rfl, rfl, hq, h2 w h3, q⟩))
      · exact False.elim p
    | none =>
      rw [e] at p
      dsimp only at p
      split at p
      · rename_i j
        split at p
        · rename_i d e2
          simp only [DV] at hx
          obtain ⟨a, hi, rfl⟩ := hx
          obtain ⟨w, q1, q2⟩ := ask_dget r hi hy e2
          exact .inr ⟨a, w, rfl, q1, p.ok Ext.refl r q2⟩
        · exact False.elim p
      · exact False.elim p
  unfold gIx at p
  split at p
  · rename_i z i
    simp only [DV] at hx hy
    obtain ⟨rfl, hz⟩ := hx
    subst hy
    cases e2 : atI z.cps.toList i with
    | none => rw [e2] at p; exact False.elim p
    | some c =>
      rw [e2] at p
      have hl : z.length ≤ sizeLine := by
        unfold strF at hz
        rw [Bool.and_eq_true] at hz
        rw [szl]
        exact of_decide_eq_true hz.2
      have hm : c ∈ z.cps.toList := by
        obtain ⟨j, _, h, _⟩ := atI_get e2
        exact List.mem_of_getElem? h
      exact .inl (.inr (.inr ⟨z, i, c, rfl, rfl, hl, e2, p.ok Ext.refl r (by simp only [DV]; exact ⟨trivial, strF1 hz hm⟩)⟩))
  · exact gen _ _ _ _ hx hy p
section
variable {X : Cx} {xa : XA} {W : WX} {a b : Expr} {f h : FE} {pos : Pos}
theorem de_ix (hu : X.A.units + 100 < cLine) (ha : DE X xa W a f) (hb : DE X xa W b h) (hs : PlainIx b := by exact fun _ _ => rfl) : DE X xa W (.Subscript a b pos) (f2 gIx f h) := PEm (pe_ix (ixr_any hu) ha hb hs) (tE_op o2_ix)
end
end F2
end
section
namespace F2
open PySem PySem.Spec PyProof.Rows L2

/-! ### slices -/
def fO0 : Rho → GH → R (Option Int) := fun _ G => .ok none G
def fO1 (f : FE) : Rho → GH → R (Option Int) := fun ρ G => (f ρ G).bind fun x G1 => match x with
  | .int i => .ok (some i) G1
  | _ => .st
def tO (K : Frag) (xa : XA) (W : WX) (f : Rho → GH → R (Option Int)) : TO := fun σ H Q => ∃ ι ρ G, Cfg K xa ι H ρ σ G ∧ Post K W σ ι H (fun _ _ a v => v = a) (f ρ G) Q
def DO (X : Cx) (xa : XA) (W : WX) (e : Option Expr) (f : Rho → GH → R (Option Int)) : Prop := PO X e (tO X.K xa W f)
def cutG {α : Type} (xs : List α) (lo hi : Option Int) : List α := (xs.drop (HT.sIx xs.length 0 lo)).take (HT.sIx xs.length xs.length hi - HT.sIx xs.length 0 lo)
def gSl (x : D) (lo hi : Option Int) (G : GH) : R D := match x with
  | .tup xs => .ok (.tup (cutG xs lo hi)) G
  | .ktup xs => if HT.sIx xs.length 0 lo = 0 ∧ HT.sIx xs.length xs.length hi = xs.length then .ok (.ktup xs) G else .ok (.tup (cutG xs lo hi)) G
  | .str z => .ok (.str (cutS z lo hi)) G
  | .scr xs => .ok (.ref G.length) (G ++ [.lst (cutG xs lo hi)])
  | .ref i => match itemsD G (.ref i) with
    | some xs => .ok (.ref G.length) (G ++ [.lst (cutG xs lo hi)])
    | none => .st
  | _ => .st
def fSl (f : FE) (l h : Rho → GH → R (Option Int)) : FE := fun ρ G => (f ρ G).bind fun x G1 => (l ρ G1).bind fun lo G2 => (h ρ G2).bind fun hi G3 => gSl x lo hi G3
def rSlX (K : Frag) : V → Option Int → Option Int → Hp → VK → Prop := fun x lo hi H Q => rSlL K x lo hi H Q ∨ rSlA K x lo hi H Q ∨ rSlS x lo hi H Q
theorem slr_any {X : Cx} : SlR X (rSlX X.K) := sl_list.or (sl_tupA.or sl_str)
theorem cutG_dv {K : Frag} {ι : List Addr} {H : Hp} {xs : List D} {vs : List V} {lo hi : Option Int} (h : DVs K ι H xs vs) : DVs K ι H (cutG xs lo hi) (cutV vs lo hi) := by
  unfold cutG cutV
  rw [h.length]
  exact (h.drop _).take _
theorem strF_cut {z : Str} {lo hi : Option Int} (h : strF z = true) : strF (cutS z lo hi) = true := by
  unfold strF at h ⊢
  rw [Bool.and_eq_true] at h ⊢
  have hl := of_decide_eq_true h.2
  refine ⟨?_, decide_eq_true (Nat.le_trans (cutS_length z lo hi) hl)⟩
  have h1 := Array.all_eq_true_iff_forall_mem.mp h.1
  apply Array.all_eq_true_iff_forall_mem.mpr
  intro x hx
  refine h1 x ?_
  have hx' : x ∈ ((z.cps.toList.drop (HT.sIx z.length 0 lo)).take (HT.sIx z.length z.length hi - HT.sIx z.length 0 lo)).toArray := hx
  rw [List.mem_toArray] at hx'
  have := List.mem_of_mem_drop (List.mem_of_mem_take hx')
  simpa using this
theorem sl_post {K : Frag} {W : WX} {σ : L2.St} {ι : List Addr} {H : Hp} {G : GH} {x : D} {lo hi : Option Int} {v : V} {Q : VK} (r : Rz K ι H G) (hx : DV K ι H x v) (p : PostE K W σ ι H (gSl x lo hi G) Q) : rSlX K v lo hi H Q := by
  unfold gSl at p
  split at p
  · rename_i xs
    simp only [DV] at hx
    obtain ⟨a, vs, rfl, q, h⟩ := hx
    refine .inr (.inl ⟨a, vs, rfl, SqT.of q, fun e => ?_, fun e b hb => ?_⟩)
    · have e1 : cutG xs lo hi = xs := by
        unfold cutG
        rw [h.length, e.1, e.2, List.drop_zero, Nat.sub_zero, ← h.length, List.take_length]
      rw [e1] at p
      exact p.ok Ext.refl r (by simp only [DV]; exact ⟨a, vs, rfl, q, h⟩)
    · obtain ⟨e2, r2⟩ := r.side (o := .tup (cutV vs lo hi)) hb
      exact p.ok e2 r2 (by simp only [DV]; exact ⟨b, _, rfl, upd_same, (cutG_dv h).ext e2⟩)
  · rename_i xs
    simp only [DV] at hx
    obtain ⟨a, vs, rfl, q, h⟩ := hx
    refine .inr (.inl ⟨a, vs, rfl, .inr q, fun e => ?_, fun e b hb => ?_⟩)
    · rw [← h.length] at e
      rw [if_pos e] at p
      exact p.ok Ext.refl r (by simp only [DV]; exact ⟨a, vs, rfl, q, h⟩)
    · rw [← h.length] at e
      rw [if_neg e] at p
      obtain ⟨e2, r2⟩ := r.side (o := .tup (cutV vs lo hi)) hb
      exact p.ok e2 r2 (by simp only [DV]; exact ⟨b, _, rfl, upd_same, (cutG_dv h).ext e2⟩)
  · simp only [DV] at hx
    obtain ⟨rfl, hz⟩ := hx
    refine .inr (.inr ⟨_, rfl, ?_, p.ok Ext.refl r (by simp only [DV]; exact ⟨trivial, strF_cut hz⟩)⟩)
    unfold strF at hz
    rw [Bool.and_eq_true] at hz
    rw [szl]
    exact of_decide_eq_true hz.2
  · rename_i xs
    simp only [DV] at hx
    obtain ⟨a, vs, rfl, q, h⟩ := hx
    refine .inl ⟨a, vs, rfl, q.sq, fun b hb => ?_⟩
    obtain ⟨e2, r2, hat⟩ := r.new (u := .lst (cutV vs lo hi)) (o := .lst (cutG xs lo hi)) hb fun e => ⟨_, upd_same, (cutG_dv h).ext e⟩
    exact p.ok e2 r2 (by simp only [DV]; exact ⟨b, hat, rfl⟩)
  · rename_i i
    split at p
    · rename_i xs e
      simp only [DV] at hx
      obtain ⟨a, hi', rfl⟩ := hx
      have list : ∃ vs, SqL K H a vs ∧ DVs K ι H xs vs := by
        simp only [itemsD] at e
        cases g : G[i]? with
        | none => rw [g] at e; cases e
        | some o =>
          rw [g] at e
          have w := r.at_ i a o hi' g
          cases o with
          | lst ys => cases e; obtain ⟨vs, q, h⟩ := w; exact ⟨vs, SqL.of q, h⟩
          | fro ys => cases e; obtain ⟨o, vs, q, h⟩ := w; exact ⟨vs, .inl (.inr ⟨o, q⟩), h⟩
          | _ => cases e
      obtain ⟨vs, q, h⟩ := list
      refine .inl ⟨a, vs, rfl, q, fun b hb => ?_⟩
      obtain ⟨e2, r2, hat⟩ := r.new (u := .lst (cutV vs lo hi)) (o := .lst (cutG xs lo hi)) hb fun e => ⟨_, upd_same, (cutG_dv h).ext e⟩
      exact p.ok e2 r2 (by simp only [DV]; exact ⟨b, hat, rfl⟩)
    · exact False.elim p
  · exact False.elim p
section
variable {X : Cx} {xa : XA} {W : WX} {e : Expr} {lo hi : Option Expr} {f : FE} {l h : Rho → GH → R (Option Int)} {p2 pos : Pos}
theorem do_none : DO X xa W none fO0 := ⟨fun pins s σ H Q I ⟨ι, ρ, G, c, p⟩ => (po_none (X := X)).run pins s σ H Q I (p.ok Ext.refl c.rz rfl)⟩
theorem do_some (he : DE X xa W e f) : DO X xa W (some e) (fO1 f) := ⟨fun pins s σ H Q I ⟨ι, ρ, G, c, p⟩ => (po_some he).run pins s σ H Q I ⟨ι, ρ, G, c, (Post.bind (rel := DV X.K) p).mono fun v H1 ⟨ι1, x, G1, e1, r1, d1, p1⟩ => by
  cases x with
  | int i =>
    simp only [DV] at d1
    exact ⟨i, d1, p1.ok Ext.refl r1 rfl⟩
  | _ => exact False.elim p1⟩⟩
theorem de_sl (he : DE X xa W e f) (hl : DO X xa W lo l) (hh : DO X xa W hi h) : DE X xa W (.Subscript e (.Slice lo hi none p2) pos) (fSl f l h) := by
  refine PEm (pe_slice slr_any he hl hh) fun σ H Q ⟨ι, ρ, G, c, p⟩ => ?_
  refine ⟨ι, ρ, G, c, (Post.bind (rel := DV X.K) p).mono fun v H1 ⟨ι1, x, G1, e1, r1, d1, p1⟩ => ?_⟩
  refine ⟨ι1, ρ, G1, c.ext e1 r1, (Post.bind (rel := fun _ _ a v => v = a) p1).mono fun v2 H2 ⟨ι2, lo, G2, e2, r2, d2, p2⟩ => ?_⟩
  subst d2
  refine ⟨ι2, ρ, G2, (c.ext e1 r1).ext e2 r2, (Post.bind (rel := fun _ _ a v => v = a) p2).mono fun v3 H3 ⟨ι3, hi, G3, e3, r3, d3, p3⟩ => ?_⟩
  subst d3
  exact sl_post r3 ((d1.ext e2).ext e3) p3
end

/-! ### truth -/
def truB (x : D) (G : GH) : Option Bool := match x with
  | .non => some false
  | .bl b => some b
  | .int i => some (i != 0)
  | .str z => some ((z.length : Int) != 0)
  | .tup xs => some (!xs.isEmpty)
  | .ktup xs => some (!xs.isEmpty)
  | .scr xs => some (!xs.isEmpty)
  | .ref i => match G[i]? with
    | some (.lst xs) => some (!xs.isEmpty)
    | some (.fro xs) => some (!xs.isEmpty)
    | some (.dK kvs) => some (!kvs.isEmpty)
    | _ => none
theorem isEmpty_len {α β : Type} {xs : List α} {ys : List β} (h : xs.length = ys.length) : xs.isEmpty = ys.isEmpty := by
  cases xs <;> cases ys <;> first | rfl | (simp at h)
theorem tru_dv {K : Frag} {ι : List Addr} {H : Hp} {G : GH} {x : D} {v : V} {b : Bool} (r : Rz K ι H G) (hx : DV K ι H x v) (e : truB x G = some b) : TruV K v H b := by
  cases x with
  | non => cases e; simp only [DV] at hx; subst hx; rfl
  | bl c => cases e; simp only [DV] at hx; subst hx; rfl
  | int i => cases e; simp only [DV] at hx; subst hx; rfl
  | str z =>
    cases e
    simp only [DV] at hx
    obtain ⟨rfl, hz⟩ := hx
    unfold strF at hz
    rw [Bool.and_eq_true] at hz
    exact ⟨by rw [szl]; exact of_decide_eq_true hz.2, rfl⟩
  | tup xs => cases e; simp only [DV] at hx; obtain ⟨a, vs, rfl, q, h⟩ := hx; exact .inr (.inl ⟨vs, SqT.of q, by rw [isEmpty_len h.length]⟩)
  | ktup xs => cases e; simp only [DV] at hx; obtain ⟨a, vs, rfl, q, h⟩ := hx; exact .inr (.inl ⟨vs, .inr q, by rw [isEmpty_len h.length]⟩)
  | scr xs => cases e; simp only [DV] at hx; obtain ⟨a, vs, rfl, q, h⟩ := hx; exact .inl ⟨vs, q.sq, by rw [isEmpty_len h.length]⟩
  | ref i =>
    simp only [DV] at hx
    obtain ⟨a, hi, rfl⟩ := hx
    simp only [truB] at e
    cases g : G[i]? with
    | none => rw [g] at e; cases e
    | some o =>
      rw [g] at e
      have w := r.at_ i a o hi g
      cases o with
      | lst xs => cases e; obtain ⟨vs, q, h⟩ := w; exact .inl ⟨vs, SqL.of q, by rw [isEmpty_len h.length]⟩
      | fro xs => cases e; obtain ⟨o, vs, q, h⟩ := w; exact .inl ⟨vs, .inl (.inr ⟨o, q⟩), by rw [isEmpty_len h.length]⟩
      | dK xs => cases e; obtain ⟨vs, q, h⟩ := w; exact .inr (.inr ⟨vs, q, by rw [isEmpty_len (DKs.length h)]⟩)
      | _ => cases e
def fTru (f : FE) : FT := fun ρ G => (f ρ G).bind fun x G1 => match truB x G1 with
  | some b => .ok b G1
  | none => .st
def fNotT (f : FT) : FT := fun ρ G => (f ρ G).bind fun b G1 => .ok (!b) G1
def fAndT (f g : FT) : FT := fun ρ G => (f ρ G).bind fun b G1 => if b = true then g ρ G1 else .ok false G1
def fOrT (f g : FT) : FT := fun ρ G => (f ρ G).bind fun b G1 => if b = true then .ok true G1 else g ρ G1
/-- and, or, not as values: by truth -/
def fAnd (f g : FE) : FE := fun ρ G => (f ρ G).bind fun x G1 => match truB x G1 with
  | some b => if b = true then g ρ G1 else .ok x G1
  | none => .st
def fOr (f g : FE) : FE := fun ρ G => (f ρ G).bind fun x G1 => match truB x G1 with
  | some b => if b = true then .ok x G1 else g ρ G1
  | none => .st
def fNot (f : FE) : FE := fun ρ G => (f ρ G).bind fun x G1 => match truB x G1 with
  | some b => .ok (.bl (!b)) G1
  | none => .st
def fIf (t : FT) (f g : FE) : FE := fun ρ G => (t ρ G).bind fun b G1 => if b = true then f ρ G1 else g ρ G1
section
variable {X : Cx} {xa : XA} {W : WX} {a b : Expr} {rest : List Expr} {f g : FE} {t u : FT} {pos : Pos}
theorem dt_tru (ha : DE X xa W a f) (he : ∀ whole, isTrue a X.env whole = (do let v ← whole; standAt a.pos; holding [v] (truthy v)) := by intro _; rfl) : DT X xa W a (fTru f) := by
  refine PTm (pt_truth ha he) fun σ H Q ⟨ι, ρ, G, c, p⟩ => ?_
  refine ⟨ι, ρ, G, c, (Post.bind (rel := DV X.K) p).mono fun v H1 ⟨ι1, x, G1, e1, r1, d1, p1⟩ => ?_⟩
  cases e : truB x G1 with
  | none => rw [e] at p1; exact False.elim p1
  | some b =>
    rw [e] at p1
    exact ⟨b, tru_dv r1 d1 e, p1.ok Ext.refl r1 rfl⟩
theorem dt_not (ha : DT X xa W a t) : DT X xa W (.UnaryOp .Not a pos) (fNotT t) := by
  refine PTm (pt_not ha) fun σ H Q ⟨ι, ρ, G, c, p⟩ => ?_
  refine ⟨ι, ρ, G, c, (Post.bind (rel := fun _ _ a v => v = a) p).mono fun v H1 ⟨ι1, x, G1, e1, r1, d1, p1⟩ => ?_⟩
  subst d1
  exact p1.ok Ext.refl r1 rfl
theorem dw_and1 (ha : DT X xa W a t) : DW X xa W (.BoolOp .And [a] pos) t := pw_and1 ha
theorem dw_or1 (ha : DT X xa W a t) : DW X xa W (.BoolOp .Or [a] pos) t := pw_or1 ha
theorem dw_and (ha : DT X xa W a t) (hb : DW X xa W (.BoolOp .And (b :: rest) pos) u) : DW X xa W (.BoolOp .And (a :: b :: rest) pos) (fAndT t u) := by
  refine PWm (pw_and ha hb) fun σ H Q ⟨ι, ρ, G, c, p⟩ => ?_
  refine ⟨ι, ρ, G, c, (Post.bind (rel := fun _ _ a v => v = a) p).mono fun v H1 ⟨ι1, x, G1, e1, r1, d1, p1⟩ => ?_⟩
  subst d1
  cases v with
  | true => exact ⟨ι1, ρ, G1, c.ext e1 r1, p1⟩
  | false => exact p1.ok Ext.refl r1 rfl
theorem dw_or (ha : DT X xa W a t) (hb : DW X xa W (.BoolOp .Or (b :: rest) pos) u) : DW X xa W (.BoolOp .Or (a :: b :: rest) pos) (fOrT t u) := by
  refine PWm (pw_or ha hb) fun σ H Q ⟨ι, ρ, G, c, p⟩ => ?_
  refine ⟨ι, ρ, G, c, (Post.bind (rel := fun _ _ a v => v = a) p).mono fun v H1 ⟨ι1, x, G1, e1, r1, d1, p1⟩ => ?_⟩
  subst d1
  cases v with
  | true => exact p1.ok Ext.refl r1 rfl
  | false => exact ⟨ι1, ρ, G1, c.ext e1 r1, p1⟩
theorem DW.dt (h : DW X xa W a t) : DT X xa W a t := PW.pt h
theorem de_one {op} (h : DE X xa W a f) : DE X xa W (.BoolOp op [a] pos) f := pe_one h
theorem de_and (ha : DE X xa W a f) (hb : DE X xa W (.BoolOp .And (b :: rest) pos) g) : DE X xa W (.BoolOp .And (a :: b :: rest) pos) (fAnd f g) := by
  refine PEm (pe_andT ha hb) fun σ H Q ⟨ι, ρ, G, c, p⟩ => ?_
  refine ⟨ι, ρ, G, c, (Post.bind (rel := DV X.K) p).mono fun v H1 ⟨ι1, x, G1, e1, r1, d1, p1⟩ => ?_⟩
  cases e : truB x G1 with
  | none => rw [e] at p1; exact False.elim p1
  | some b =>
    rw [e] at p1
    refine ⟨b, tru_dv r1 d1 e, ?_⟩
    cases b with
    | true => exact ⟨ι1, ρ, G1, c.ext e1 r1, p1⟩
    | false => exact p1.ok Ext.refl r1 d1
theorem de_or (ha : DE X xa W a f) (hb : DE X xa W (.BoolOp .Or (b :: rest) pos) g) : DE X xa W (.BoolOp .Or (a :: b :: rest) pos) (fOr f g) := by
  refine PEm (pe_orT ha hb) fun σ H Q ⟨ι, ρ, G, c, p⟩ => ?_
  refine ⟨ι, ρ, G, c, (Post.bind (rel := DV X.K) p).mono fun v H1 ⟨ι1, x, G1, e1, r1, d1, p1⟩ => ?_⟩
  cases e : truB x G1 with
  | none => rw [e] at p1; exact False.elim p1
  | some b =>
    rw [e] at p1
    refine ⟨b, tru_dv r1 d1 e, ?_⟩
    cases b with
    | true => exact p1.ok Ext.refl r1 d1
    | false => exact ⟨ι1, ρ, G1, c.ext e1 r1, p1⟩
theorem de_not (ha : DE X xa W a f) : DE X xa W (.UnaryOp .Not a pos) (fNot f) := by
  refine PEm (pe_notT ha) fun σ H Q ⟨ι, ρ, G, c, p⟩ => ?_
  refine ⟨ι, ρ, G, c, (Post.bind (rel := DV X.K) p).mono fun v H1 ⟨ι1, x, G1, e1, r1, d1, p1⟩ => ?_⟩
  cases e : truB x G1 with
  | none => rw [e] at p1; exact False.elim p1
  | some b =>
    rw [e] at p1
    exact ⟨b, tru_dv r1 d1 e, p1.ok Ext.refl r1 (by simp only [DV])⟩
theorem de_if {c : Expr} (hc : DT X xa W c t) (ha : DE X xa W a f) (hb : DE X xa W b g) : DE X xa W (.IfExp c a b pos) (fIf t f g) := by
  refine PEm (pe_ifExp hc ha hb) fun σ H Q ⟨ι, ρ, G, c, p⟩ => ?_
  refine ⟨ι, ρ, G, c, (Post.bind (rel := fun _ _ a v => v = a) p).mono fun v H1 ⟨ι1, x, G1, e1, r1, d1, p1⟩ => ?_⟩
  subst d1
  cases v with
  | true => exact ⟨ι1, ρ, G1, c.ext e1 r1, p1⟩
  | false => exact ⟨ι1, ρ, G1, c.ext e1 r1, p1⟩
end

/-! ### built-in functions -/
def OpA (K : Frag) (g : List D → GH → R D) (r : List V → Hp → VK → Prop) : Prop :=
  ∀ (W : WX) (σ : L2.St) (ι : List Addr) (H : Hp) (G : GH) (xs : List D) (vs : List V) (Q : VK), Rz K ι H G → DVs K ι H xs vs → PostE K W σ ι H (g xs G) Q → r vs H Q
def fCall (g : List D → GH → R D) (as : FA) : FE := fun ρ G => (as ρ G).bind fun xs G1 => g xs G1
section
variable {X : Cx} {xa : XA} {W : WX} {x : Str} {p pos : Pos} {e : Expr} {es : List Expr} {as : FA} {id T : String} {r : List V → Hp → VK → Prop} {g : List D → GH → R D}
theorem tE_call (ho : OpA X.K g r) (σ : L2.St) (H : Hp) (Q : VK) (q : tE X.K xa W (fCall g as) σ H Q) : tCB r (tA X.K xa W as) σ H Q := by
  obtain ⟨ι, ρ, G, c, p⟩ := q
  exact ⟨ι, ρ, G, c, (Post.bind (rel := DVs X.K) p).mono fun v H1 ⟨ι1, xs, G1, e1, r1, d1, p1⟩ => ho W σ ι1 H1 G1 xs v Q r1 d1 p1⟩
theorem de_callB (hc : CallR X (.builtin id) r) (ho : OpA X.K g r) (hg : Gl X x) (hm : X.mg x = none) (hv : bootBuiltins x = some (.builtin id)) (ha : DA X xa W (e :: es) as) (hn : x ≠ "__name__" := by decide) (hdb : (x == ("__debug__" : Str)) = false := by decide)
    (he : starEach (e :: es) X.env = (false, eval e X.env) :: starEach es X.env := by rfl) (hpl : (backTo pos (starEach es X.env)).any (·.1) = false := by rfl) : DE X xa W (.Call (.Name x p) (e :: es) [] pos) (fCall g as) :=
  PEm (pe_callB hc hg hm hv ha hn hdb he hpl) (tE_call ho)
theorem de_callTy (hc : CallR X (.type T) r) (ho : OpA X.K g r) (hg : Gl X x) (hm : X.mg x = none) (hv : bootBuiltins x = some (.type T)) (ha : DA X xa W (e :: es) as) (hn : x ≠ "__name__" := by decide) (hdb : (x == ("__debug__" : Str)) = false := by decide)
    (he : starEach (e :: es) X.env = (false, eval e X.env) :: starEach es X.env := by rfl) (hpl : (backTo pos (starEach es X.env)).any (·.1) = false := by rfl) : DE X xa W (.Call (.Name x p) (e :: es) [] pos) (fCall g as) :=
  PEm (pe_callTy hc hg hm hv ha hn hdb he hpl) (tE_call ho)
end
theorem DVs.one {K : Frag} {ι : List Addr} {H : Hp} {d : D} {vs : List V} (h : DVs K ι H [d] vs) : ∃ v, vs = [v] ∧ DV K ι H d v := by
  obtain ⟨v, r, rfl, h1, h2⟩ := h.cons_inv
  rw [DVs.nil_inv h2]
  exact ⟨v, rfl, h1⟩
theorem DVs.two {K : Frag} {ι : List Addr} {H : Hp} {d e : D} {vs : List V} (h : DVs K ι H [d, e] vs) : ∃ v w, vs = [v, w] ∧ DV K ι H d v ∧ DV K ι H e w := by
  obtain ⟨v, r, rfl, h1, h2⟩ := h.cons_inv
  obtain ⟨w, rfl, h3⟩ := h2.one
  exact ⟨v, w, rfl, h1, h3⟩
def lenB (x : D) (G : GH) : Option Nat := match x with
  | .str z => some z.length
  | .tup xs => some xs.length
  | .ktup xs => some xs.length
  | .scr xs => some xs.length
  | .ref i => match G[i]? with
    | some (.lst xs) => some xs.length
    | some (.fro xs) => some xs.length
    | some (.dK kvs) => some kvs.length
    | some (.fK kvs) => some kvs.length
    | _ => none
  | _ => none
def gLen (xs : List D) (G : GH) : R D := match xs with
  | [x] => match lenB x G with
    | some n => .ok (.int n) G
    | none => .st
  | _ => .st
def rLenX (K : Frag) : List V → Hp → VK → Prop := fun xs H Q => (∃ x n, xs = [x] ∧ LenV K x H n ∧ Q (.int n) H) ∨ ∃ a kvs, xs = [.ref a] ∧ Rd H a (.dK kvs) ∧ Q (.int kvs.length) H
theorem cr_len {X : Cx} : CallR X (.builtin "len") (rLenX X.K) := by
  refine call_len.or fun pins s σ H xs us Q I r h => ?_
  obtain ⟨a, kvs, rfl, e, q⟩ := h
  obtain ⟨u, rfl, ru⟩ := Vals.one r
  cases ru
  exact d_len I e fun t s' I' => ⟨.int kvs.length, H, I', ⟨t, rfl⟩, q⟩
theorem oa_len {K : Frag} : OpA K gLen (rLenX K) := by
  intro W σ ι H G xs vs Q r h p
  unfold gLen at p
  split at p
  · rename_i x
    obtain ⟨v, rfl, hx⟩ := h.one
    split at p
    · rename_i n e
      have q := p.ok Ext.refl r (show DV K ι H (.int n) (.int n) by simp only [DV])
      cases x with
      | str z =>
        cases e
        simp only [DV] at hx
        obtain ⟨rfl, hz⟩ := hx
        unfold strF at hz
        rw [Bool.and_eq_true] at hz
        exact .inl ⟨_, _, rfl, ⟨by rw [szl]; exact of_decide_eq_true hz.2, rfl⟩, q⟩
      | tup xs => cases e; simp only [DV] at hx; obtain ⟨a, vs, rfl, q1, h⟩ := hx; exact .inl ⟨_, _, rfl, .inr ⟨vs, SqT.of q1, h.length⟩, q⟩
      | ktup xs => cases e; simp only [DV] at hx; obtain ⟨a, vs, rfl, q1, h⟩ := hx; exact .inl ⟨_, _, rfl, .inr ⟨vs, .inr q1, h.length⟩, q⟩
      | scr xs => cases e; simp only [DV] at hx; obtain ⟨a, vs, rfl, q1, h⟩ := hx; exact .inl ⟨_, _, rfl, .inl ⟨vs, q1.sq, h.length⟩, q⟩
      | ref i =>
        simp only [DV] at hx
        obtain ⟨a, hi, rfl⟩ := hx
        simp only [lenB] at e
        cases g : G[i]? with
        | none => rw [g] at e; cases e
        | some o =>
          rw [g] at e
          have w := r.at_ i a o hi g
          cases o with
          | lst xs => cases e; obtain ⟨vs, q1, h⟩ := w; exact .inl ⟨_, _, rfl, .inl ⟨vs, SqL.of q1, h.length⟩, q⟩
          | fro xs => cases e; obtain ⟨o, vs, q1, h⟩ := w; exact .inl ⟨_, _, rfl, .inl ⟨vs, .inl (.inr ⟨o, q1⟩), h.length⟩, q⟩
          | dK xs => cases e; obtain ⟨vs, q1, h⟩ := w; exact .inr ⟨a, vs, rfl, .inl q1, by rw [← DKs.length h]; exact q⟩
          | fK xs => cases e; obtain ⟨ob, vs, q1, h⟩ := w; exact .inr ⟨a, vs, rfl, .inr ⟨ob, q1⟩, by rw [← DKs.length h]; exact q⟩
          | _ => cases e
      | _ => cases e
    · exact False.elim p
  · exact False.elim p
def gInt (xs : List D) (G : GH) : R D := match xs with
  | [.int i] => .ok (.int i) G
  | [.bl b] => .ok (.int (if b then 1 else 0)) G
  | _ => .st
theorem oa_int {K : Frag} : OpA K gInt (fun xs H Q => (∃ i, xs = [.int i] ∧ Q (.int i) H) ∨ ∃ k, xs = [.bl k] ∧ Q (.int (if k then 1 else 0)) H) := by
  intro W σ ι H G xs vs Q r h p
  unfold gInt at p
  split at p
  · obtain ⟨v, rfl, hx⟩ := h.one
    simp only [DV] at hx
    subst hx
    exact .inl ⟨_, rfl, p.ok Ext.refl r (by simp only [DV])⟩
  · obtain ⟨v, rfl, hx⟩ := h.one
    simp only [DV] at hx
    subst hx
    exact .inr ⟨_, rfl, p.ok Ext.refl r (by simp only [DV])⟩
  · exact False.elim p
def gAbs (xs : List D) (G : GH) : R D := match xs with
  | [.int i] => .ok (.int (if i < 0 then -i else i)) G
  | _ => .st
theorem oa_abs {K : Frag} : OpA K gAbs (fun xs H Q => ∃ i, xs = [.int i] ∧ Q (.int (if i < 0 then -i else i)) H) := by
  intro W σ ι H G xs vs Q r h p
  unfold gAbs at p
  split at p
  · obtain ⟨v, rfl, hx⟩ := h.one
    simp only [DV] at hx
    subst hx
    exact ⟨_, rfl, p.ok Ext.refl r (by simp only [DV])⟩
  · exact False.elim p
def gMin (xs : List D) (G : GH) : R D := match xs with
  | [.int i, .int j] => .ok (.int (if j < i then j else i)) G
  | _ => .st
def gMax (xs : List D) (G : GH) : R D := match xs with
  | [.int i, .int j] => .ok (.int (if j > i then j else i)) G
  | _ => .st
theorem oa_min {K : Frag} : OpA K gMin (fun xs H Q => ∃ i j, xs = [.int i, .int j] ∧ Q (.int (if j < i then j else i)) H) := by
  intro W σ ι H G xs vs Q r h p
  unfold gMin at p
  split at p
  · obtain ⟨v, w, rfl, hx, hy⟩ := h.two
    simp only [DV] at hx hy
    subst hx; subst hy
    exact ⟨_, _, rfl, p.ok Ext.refl r (by simp only [DV])⟩
  · exact False.elim p
theorem oa_max {K : Frag} : OpA K gMax (fun xs H Q => ∃ i j, xs = [.int i, .int j] ∧ Q (.int (if j > i then j else i)) H) := by
  intro W σ ι H G xs vs Q r h p
  unfold gMax at p
  split at p
  · obtain ⟨v, w, rfl, hx, hy⟩ := h.two
    simp only [DV] at hx hy
    subst hx; subst hy
    exact ⟨_, _, rfl, p.ok Ext.refl r (by simp only [DV])⟩
  · exact False.elim p
/-- list(x): of a list, a tuple; of a dict its keys -/
def keyV : Key → D
  | .inl i => .int i
  | .inr x => .str x
theorem keyV_dv {K : Frag} {ι : List Addr} {H : Hp} {k : Key} (h : KOk.ok k = true) : DV K ι H (keyV k) (kV k) := by
  cases k with
  | inl i => simp only [keyV, DV]; rfl
  | inr x => simp only [keyV, DV]; exact ⟨rfl, h⟩
theorem keyVs_dv {K : Frag} {ι : List Addr} {H : Hp} : ∀ {k : List Key}, KOk.ok k = true → DVs K ι H (k.map keyV) (k.map kV)
  | [], _ => DVs.nil
  | k :: ks, h => by
    have h' : (keyOk k && ks.all keyOk) = true := h
    rw [Bool.and_eq_true] at h'
    exact DVs.cons (keyV_dv h'.1) (keyVs_dv (k := ks) h'.2)
def gList (xs : List D) (G : GH) : R D := match xs with
  | [x] => match itemsD G x with
    | some ys => .ok (.ref G.length) (G ++ [.lst ys])
    | none => .st
  | _ => .st
theorem oa_list {K : Frag} : OpA K gList (fun xs H Q => ∃ p ys, xs = [.ref p] ∧ (SqL K H p ys ∨ SqT K H p ys) ∧ ∀ l, H l = none → Q (.ref l) (upd H l (.lst ys))) := by
  intro W σ ι H G xs vs Q r h p
  unfold gList at p
  split at p
  · rename_i x
    obtain ⟨v, rfl, hx⟩ := h.one
    split at p
    · rename_i ys e
      obtain ⟨a, ws, rfl, hv, hq⟩ := items_dv r hx e
      refine ⟨a, ws, rfl, hq, fun l hl => ?_⟩
      obtain ⟨e2, r2, hat⟩ := r.new (u := .lst ws) (o := .lst ys) hl fun e => ⟨_, upd_same, hv.ext e⟩
      exact p.ok e2 r2 (by simp only [DV]; exact ⟨l, hat, rfl⟩)
    · exact False.elim p
  · exact False.elim p
def gTuple (xs : List D) (G : GH) : R D := match xs with
  | [.tup ys] => .ok (.tup ys) G
  | [.ktup ys] => .ok (.ktup ys) G
  | [.scr ys] => .ok (.tup ys) G
  | [.ref i] => match itemsD G (.ref i) with
    | some ys => .ok (.tup ys) G
    | none => .st
  | _ => .st
theorem oa_tuple {K : Frag} : OpA K gTuple (fun xs H Q => ∃ p ys, xs = [.ref p] ∧ ((SqL K H p ys ∧ ∀ l, H l = none → Q (.ref l) (upd H l (.tup ys))) ∨ (SqT K H p ys ∧ Q (.ref p) H))) := by
  intro W σ ι H G xs vs Q r h p
  unfold gTuple at p
  split at p
  · obtain ⟨v, rfl, hx⟩ := h.one
    simp only [DV] at hx
    obtain ⟨a, ws, rfl, q, hv⟩ := hx
    exact ⟨a, ws, rfl, .inr ⟨SqT.of q, p.ok Ext.refl r (by simp only [DV]; exact ⟨a, ws, rfl, q, hv⟩)⟩⟩
  · obtain ⟨v, rfl, hx⟩ := h.one
    simp only [DV] at hx
    obtain ⟨a, ws, rfl, q, hv⟩ := hx
    exact ⟨a, ws, rfl, .inr ⟨.inr q, p.ok Ext.refl r (by simp only [DV]; exact ⟨a, ws, rfl, q, hv⟩)⟩⟩
  · obtain ⟨v, rfl, hx⟩ := h.one
    simp only [DV] at hx
    obtain ⟨a, ws, rfl, q, hv⟩ := hx
    refine ⟨a, ws, rfl, .inl ⟨q.sq, fun l hl => ?_⟩⟩
    obtain ⟨e2, r2⟩ := r.side (o := .tup ws) hl
    exact p.ok e2 r2 (by simp only [DV]; exact ⟨l, _, rfl, upd_same, hv.ext e2⟩)
  · rename_i i
    obtain ⟨v, rfl, hx⟩ := h.one
    split at p
    · rename_i ys e
      simp only [DV] at hx
      obtain ⟨a, hi, rfl⟩ := hx
      have list : ∃ vs, SqL K H a vs ∧ DVs K ι H ys vs := by
        simp only [itemsD] at e
        cases g : G[i]? with
        | none => rw [g] at e; cases e
        | some o =>
          rw [g] at e
          have w := r.at_ i a o hi g
          cases o with
          | lst ys => cases e; obtain ⟨vs, q, h⟩ := w; exact ⟨vs, SqL.of q, h⟩
          | fro ys => cases e; obtain ⟨o, vs, q, h⟩ := w; exact ⟨vs, .inl (.inr ⟨o, q⟩), h⟩
          | _ => cases e
      obtain ⟨ws, q, hv⟩ := list
      refine ⟨a, ws, rfl, .inl ⟨q, fun l hl => ?_⟩⟩
      obtain ⟨e2, r2⟩ := r.side (o := .tup ws) hl
      exact p.ok e2 r2 (by simp only [DV]; exact ⟨l, _, rfl, upd_same, hv.ext e2⟩)
    · exact False.elim p
  · exact False.elim p
/-- dict(d): a copy -/
def gDict (xs : List D) (G : GH) : R D := match xs with
  | [.ref i] => match G[i]? with
    | some (.dK kvs) => .ok (.ref G.length) (G ++ [.dK kvs])
    | _ => .st
  | _ => .st
theorem oa_dict {K : Frag} : OpA K gDict (fun xs H Q => ∃ (a : Addr) (kvs : List (Key × V)), xs = [.ref a] ∧ Rd H a (.dK kvs) ∧ ∀ p, H p = none → Q (.ref p) (upd H p (.dK kvs))) := by
  intro W σ ι H G xs vs Q r h p
  unfold gDict at p
  split at p
  · rename_i i
    obtain ⟨v, rfl, hx⟩ := h.one
    split at p
    · rename_i kvs g
      simp only [DV] at hx
      obtain ⟨a, hi, rfl⟩ := hx
      obtain ⟨ws, q, hv⟩ := r.at_ i a _ hi g
      refine ⟨a, ws, rfl, .inl q, fun l hl => ?_⟩
      obtain ⟨e2, r2, hat⟩ := r.new (u := .dK ws) (o := .dK kvs) hl fun e => ⟨_, upd_same, DKs.ext e hv⟩
      exact p.ok e2 r2 (by simp only [DV]; exact ⟨l, hat, rfl⟩)
    · exact False.elim p
  · exact False.elim p
/-! ### isinstance -/
def tyN (x : D) (G : GH) : Option String := match x with
  | .non => some "NoneType"
  | .bl _ => some "bool"
  | .int _ => some "int"
  | .str _ => some "str"
  | .tup _ => some "tuple"
  | .ktup _ => some "tuple"
  | .scr _ => some "list"
  | .ref i => match G[i]? with
    | some (.lst _) => some "list"
    | some (.dK _) => some "dict"
    | some (.dT _) => some "dict"
    | _ => none
theorem scr_ty {K : Frag} {H : Hp} {a : Addr} {vs : List V} (q : FroL K H a vs) : TyX K H (.ref a) (.type "list") := by
  rcases q with ⟨o, q⟩ | ⟨o, its, n, q1, q2, _⟩
  · exact .base (.frz q)
  · exact .kList q1 q2
theorem tyN_dv {K : Frag} {ι : List Addr} {H : Hp} {G : GH} {x : D} {v : V} {n : String} (r : Rz K ι H G) (hx : DV K ι H x v) (e : tyN x G = some n) : TyX K H v (.type n) := by
  cases x with
  | non => cases e; simp only [DV] at hx; subst hx; exact .base .non
  | bl c => cases e; simp only [DV] at hx; subst hx; exact .base (.bl c)
  | int i => cases e; simp only [DV] at hx; subst hx; exact .base (.int i)
  | str z => cases e; simp only [DV] at hx; obtain ⟨rfl, _⟩ := hx; exact .base (.str z)
  | tup xs => cases e; simp only [DV] at hx; obtain ⟨a, vs, rfl, q, h⟩ := hx; exact .base (.tup q)
  | ktup xs => cases e; simp only [DV] at hx; obtain ⟨a, vs, rfl, ⟨o, its, m, q1, q2, _⟩, h⟩ := hx; exact .kTuple q1 q2
  | scr xs => cases e; simp only [DV] at hx; obtain ⟨a, vs, rfl, q, h⟩ := hx; exact scr_ty q
  | ref i =>
    simp only [DV] at hx
    obtain ⟨a, hi, rfl⟩ := hx
    simp only [tyN] at e
    cases g : G[i]? with
    | none => rw [g] at e; cases e
    | some o =>
      rw [g] at e
      have w := r.at_ i a o hi g
      cases o with
      | lst xs => cases e; obtain ⟨vs, q1, h⟩ := w; exact .base (.lst q1)
      | dK xs => cases e; obtain ⟨vs, q1, h⟩ := w; exact .base (.dK q1)
      | dT xs => cases e; obtain ⟨vs, q1, h⟩ := w; exact .base (.dT q1)
      | _ => cases e
def isiS (T a : String) : Bool := a == T || (T == "int" && a == "bool")
def tyNames : List String := ["NoneType", "bool", "int", "str", "tuple", "list", "dict"]
def isiT : List String := ["bool", "int", "str", "tuple", "list", "dict"]
theorem isi_kit : ∀ T ∈ isiT, ∀ a ∈ tyNames, kitB a T = some (isiS T a) := by decide +kernel
theorem tyN_mem {x : D} {G : GH} {n : String} (e : tyN x G = some n) : n ∈ tyNames := by
  unfold tyN at e
  split at e
  all_goals first | (cases e; decide) | skip
  split at e
  all_goals first | (cases e; decide) | cases e
def gIsi (T : String) (x : D) (G : GH) : R D := match tyN x G with
  | some a => .ok (.bl (isiS T a)) G
  | none => .st
section
variable {X : Cx} {xa : XA} {W : WX} {p p2 pos : Pos} {e : Expr} {f : FE} {T : String} {y : Str}
theorem de_isi (hT : T ∈ isiT) (ha : DE X xa W e f) (hm : X.mg "isinstance" = none) (hmy : X.mg y = none) (hv : bootBuiltins y = some (.type T)) (hg : Gl X "isinstance" := by rfl) (hgy : Gl X y := by rfl) (hn : y ≠ "__name__" := by decide) (hdb : (y == ("__debug__" : Str)) = false := by decide)
    (h1 : starEach (e :: [.Name y p2]) X.env = (false, eval e X.env) :: starEach [.Name y p2] X.env := by rfl) (h2 : starEach [.Name y p2] X.env = (false, eval (.Name y p2) X.env) :: starEach [] X.env := by rfl) (hpl : (backTo pos (starEach [.Name y p2] X.env)).any (·.1) = false := by rfl) :
    DE X xa W (.Call (.Name "isinstance" p) [e, .Name y p2] [] pos) (f1 (gIsi T) f) := by
  refine PEm (pe_callB (r := rIsi X.K) call_isi hg hm (by decide +kernel) (pa_cons ha (pa_cons (pe_bltn hgy hmy hv (v := .ty T) rfl hn hdb) pa_nil h2) h1) (by decide) (by decide) h1 hpl) fun σ H Q ⟨ι, ρ, G, c, q⟩ => ?_
  refine ⟨ι, ρ, G, c, (Post.bind (rel := DV X.K) q).mono fun v H1 ⟨ι1, x, G1, e1, r1, d1, p1⟩ => ?_⟩
  unfold gIsi at p1
  cases z : tyN x G1 with
  | none => rw [z] at p1; exact False.elim p1
  | some a =>
    rw [z] at p1
    exact ⟨v, .ty T, .type a, .type T, isiS T a, rfl, .ty T, tyN_dv r1 d1 z, kit_ty (isi_kit T hT a (tyN_mem z)), p1.ok Ext.refl r1 (by simp only [DV])⟩
end
end F2
end
section
namespace F2
open PySem PySem.Spec PyProof.Rows L2

/-! ### methods of built-in things -/
def isTyM (T : String) (x : D) (G : GH) : Bool := match x with
  | .str _ => T == "str"
  | .ref i => match G[i]? with
    | some (.lst _) => T == "list"
    | some (.fro _) => T == "list"
    | some (.dK _) => T == "dict"
    | some (.dT _) => T == "dict"
    | _ => false
  | _ => false
theorem isTyM_dv {K : Frag} {ι : List Addr} {H : Hp} {G : GH} {x : D} {v : V} {T : String} (r : Rz K ι H G) (hx : DV K ι H x v) (e : isTyM T x G = true) : tyV K T v H := by
  cases x with
  | str z => simp only [DV] at hx; obtain ⟨rfl, _⟩ := hx; exact eq_of_beq e
  | ref i =>
    simp only [DV] at hx
    obtain ⟨a, hi, rfl⟩ := hx
    simp only [isTyM] at e
    cases g : G[i]? with
    | none => rw [g] at e; cases e
    | some o =>
      rw [g] at e
      have w := r.at_ i a o hi g
      cases o with
      | lst xs => obtain ⟨vs, q, h⟩ := w; exact .inl ⟨eq_of_beq e, vs, SqL.of q⟩
      | fro xs => obtain ⟨o, vs, q, h⟩ := w; exact .inl ⟨eq_of_beq e, vs, .inl (.inr ⟨o, q⟩)⟩
      | dK xs => obtain ⟨vs, q, h⟩ := w; exact .inr (.inr (.inl ⟨eq_of_beq e, .inl ⟨vs, q⟩⟩))
      | dT xs => obtain ⟨vs, q, h⟩ := w; exact .inr (.inr (.inl ⟨eq_of_beq e, .inr ⟨vs, q⟩⟩))
      | _ => cases e
  | _ => cases e
def OpM (K : Frag) (g : D → List D → GH → R D) (r : V → List V → Hp → VK → Prop) : Prop :=
  ∀ (W : WX) (σ : L2.St) (ι : List Addr) (H : Hp) (G : GH) (x : D) (v : V) (xs : List D) (vs : List V) (Q : VK), Rz K ι H G → DV K ι H x v → DVs K ι H xs vs → PostE K W σ ι H (g x xs G) Q → r v vs H Q
def fMeth (T : String) (g : D → List D → GH → R D) (f : FE) (as : FA) : FE := fun ρ G => (f ρ G).bind fun x G1 => if isTyM T x G1 = true then (as ρ G1).bind fun xs G2 => g x xs G2 else .st
section
variable {X : Cx} {xa : XA} {W : WX} {apos cpos : Pos} {o e : Expr} {es : List Expr} {f : FE} {as : FA} {name : Str} {T id : String} {r : V → List V → Hp → VK → Prop} {g : D → List D → GH → R D}
theorem de_bm0 (pa : PlainAttrs T) (slot : Slot T name id) (hty : typeOf (.builtin id) = pure (.type "method_descriptor")) (hm : MtR X id r) (hg : OpM X.K g r) (ho : DE X xa W o f)
    (hbase : attributeBase o name X.env (eval o X.env) = eval o X.env := by rfl) (hline : (apos.endLine == cpos.line) = true := by rfl) : DE X xa W (.Call (.Attribute o name apos) [] [] cpos) (fMeth T g f fA0) := by
  refine PEm (pe_bm0 pa slot hty hm ho hbase hline) fun σ H Q ⟨ι, ρ, G, c, p⟩ => ?_
  refine ⟨ι, ρ, G, c, (Post.bind (rel := DV X.K) p).mono fun v H1 ⟨ι1, x, G1, e1, r1, d1, p1⟩ => ?_⟩
  split at p1
  · rename_i ht
    exact ⟨isTyM_dv r1 d1 ht, hg W σ ι1 H1 G1 x v [] [] Q r1 d1 DVs.nil p1⟩
  · exact False.elim p1
theorem de_bm (pa : PlainAttrs T) (slot : Slot T name id) (hty : typeOf (.builtin id) = pure (.type "method_descriptor")) (hm : MtR X id r) (hg : OpM X.K g r) (ho : DE X xa W o f) (ha : DA X xa W (e :: es) as)
    (hbase : attributeBase o name X.env (eval o X.env) = eval o X.env := by rfl)
    (hfew : ((backTo cpos (starEach (e :: es) X.env)).all (fun x => !x.1) && (backToKw cpos (keywordEach [] X.env)).all (fun x => x.1.isSome)
      && decide ((e :: es).length + ([] : List Keyword).length + (if ([] : List Keyword).isEmpty then 0 else 1) < 30)) = true := by rfl)
    (hline : (apos.endLine == cpos.line) = true := by rfl) (hs : starEach (e :: es) X.env = (false, eval e X.env) :: starEach es X.env := by rfl) (hplain : (backTo cpos (starEach es X.env)).any (·.1) = false := by rfl) :
    DE X xa W (.Call (.Attribute o name apos) (e :: es) [] cpos) (fMeth T g f as) := by
  refine PEm (pe_bm pa slot hty hm ho ha hbase hfew hline hs hplain) fun σ H Q ⟨ι, ρ, G, c, p⟩ => ?_
  refine ⟨ι, ρ, G, c, (Post.bind (rel := DV X.K) p).mono fun v H1 ⟨ι1, x, G1, e1, r1, d1, p1⟩ => ?_⟩
  split at p1
  · rename_i ht
    refine ⟨isTyM_dv r1 d1 ht, ι1, ρ, G1, c.ext e1 r1, (Post.bind (rel := DVs X.K) p1).mono fun vs H2 ⟨ι2, xs, G2, e2, r2, d2, p2⟩ => ?_⟩
    exact hg W σ ι2 H2 G2 x v xs vs Q r2 (d1.ext e2) d2 p2
  · exact False.elim p1
end
/-- the changing list at x -/
theorem lst_dv {K : Frag} {ι : List Addr} {H : Hp} {G : GH} {i : Nat} {v : V} {xs : List D} (r : Rz K ι H G) (hx : DV K ι H (.ref i) v) (g : G[i]? = some (.lst xs)) : ∃ a vs, v = .ref a ∧ ι[i]? = some a ∧ H a = some (.lst vs) ∧ DVs K ι H xs vs := by
  simp only [DV] at hx
  obtain ⟨a, hi, rfl⟩ := hx
  obtain ⟨vs, q, h⟩ := r.at_ i a _ hi g
  exact ⟨a, vs, rfl, hi, q, h⟩
theorem wr_lst {vs : List V} : Wr (.lst vs) := ⟨fun _ h => (nomatch h), fun _ _ h => (nomatch h)⟩
theorem wr_dK {vs : List (Key × V)} : Wr (.dK vs) := ⟨fun _ h => (nomatch h), fun _ _ h => (nomatch h)⟩
theorem wr_dT {vs : List (List Key × V)} : Wr (.dT vs) := ⟨fun _ h => (nomatch h), fun _ _ h => (nomatch h)⟩
theorem wr_ins {C dx : Addr} {vs : List (Str × V)} : Wr (.ins C dx vs) := ⟨fun _ h => (nomatch h), fun _ _ h => (nomatch h)⟩
/-- the list at number i becomes ys -/
theorem Rz.relist {K : Frag} {ι : List Addr} {H : Hp} {G : GH} {i : Nat} {a : Addr} {xs ys : List D} {vs ws : List V} (r : Rz K ι H G) (hi : ι[i]? = some a) (g : G[i]? = some (.lst xs)) (q : H a = some (.lst vs)) (h : DVs K ι H ys ws) :
    Ext K ι H ι (upd H a (.lst ws)) ∧ Rz K ι (upd H a (.lst ws)) (G.set i (.lst ys)) :=
  r.write hi g q wr_lst fun e => ⟨ws, upd_same, h.ext e⟩
def gAppend (x : D) (ys : List D) (G : GH) : R D := match x, ys with
  | .ref i, [y] => match G[i]? with
    | some (.lst xs) => if xs.length < 16777216 then .ok .non (G.set i (.lst (xs ++ [y]))) else .st
    | _ => .st
  | _, _ => .st
theorem om_append {K : Frag} : OpM K gAppend rAppend := by
  intro W σ ι H G x v xs vs Q r hx hxs p
  unfold gAppend at p
  split at p
  · rename_i i y
    obtain ⟨w, rfl, hw⟩ := hxs.one
    split at p
    · rename_i xs g
      split at p
      · rename_i hl
        obtain ⟨a, us, rfl, hi, q, h⟩ := lst_dv r hx g
        obtain ⟨e, r'⟩ := r.relist hi g q (h.append (DVs.cons hw DVs.nil))
        exact ⟨a, us, w, rfl, rfl, q, by rw [szl, ← h.length]; exact hl, p.ok e r' (by simp only [DV])⟩
      · exact False.elim p
    · exact False.elim p
  · exact False.elim p
def gExtend (x : D) (ys : List D) (G : GH) : R D := match x, ys with
  | .ref i, [.ref j] => match G[i]?, G[j]? with
    | some (.lst xs), some (.lst zs) => if xs.length + zs.length ≤ 16777216 then .ok .non (G.set i (.lst (xs ++ zs))) else .st
    | _, _ => .st
  | _, _ => .st
theorem om_extend {K : Frag} : OpM K gExtend rExtend := by
  intro W σ ι H G x v xs vs Q r hx hxs p
  unfold gExtend at p
  split at p
  · rename_i i j
    obtain ⟨w, rfl, hw⟩ := hxs.one
    split at p
    · rename_i xs zs g g2
      split at p
      · rename_i hl
        obtain ⟨a, us, rfl, hi, q, h⟩ := lst_dv r hx g
        obtain ⟨b, ws, rfl, hj, q2, h2⟩ := lst_dv r hw g2
        obtain ⟨e, r'⟩ := r.relist hi g q (h.append h2)
        exact ⟨a, b, us, ws, rfl, rfl, q, q2, by rw [szl, ← h.length, ← h2.length]; exact hl, p.ok e r' (by simp only [DV])⟩
      · exact False.elim p
    · exact False.elim p
  · exact False.elim p
def gReverse (x : D) (ys : List D) (G : GH) : R D := match x, ys with
  | .ref i, [] => match G[i]? with
    | some (.lst xs) => .ok .non (G.set i (.lst xs.reverse))
    | _ => .st
  | _, _ => .st
theorem om_reverse {K : Frag} : OpM K gReverse rReverse := by
  intro W σ ι H G x v xs vs Q r hx hxs p
  unfold gReverse at p
  split at p
  · rename_i i
    have e0 := hxs.nil_inv
    subst e0
    split at p
    · rename_i xs g
      obtain ⟨a, us, rfl, hi, q, h⟩ := lst_dv r hx g
      obtain ⟨e, r'⟩ := r.relist hi g q h.reverse
      exact ⟨a, us, rfl, rfl, q, p.ok e r' (by simp only [DV])⟩
    · exact False.elim p
  · exact False.elim p
/-- pop(): of a list; pop(i): of a list; pop(k): of a dict -/
def gPop0 (x : D) (ys : List D) (G : GH) : R D := match x, ys with
  | .ref i, [] => match G[i]? with
    | some (.lst xs) => match xs[xs.length - 1]? with
      | some d => .ok d (G.set i (.lst xs.dropLast))
      | none => .st
    | _ => .st
  | _, _ => .st
theorem om_pop0 {K : Frag} : OpM K gPop0 rPop := by
  intro W σ ι H G x v xs vs Q r hx hxs p
  unfold gPop0 at p
  split at p
  · rename_i i
    have e0 := hxs.nil_inv
    subst e0
    split at p
    · rename_i xs g
      split at p
      · rename_i d hd
        obtain ⟨a, us, rfl, hi, q, h⟩ := lst_dv r hx g
        obtain ⟨e, r'⟩ := r.relist hi g q h.dropLast
        obtain ⟨w, h1, h2⟩ := h.get hd
        exact ⟨a, us, w, rfl, rfl, q, by rw [← h.length]; exact h1, p.ok e r' (h2.ext e)⟩
      · exact False.elim p
    · exact False.elim p
  · exact False.elim p
def gPopAt (x : D) (ys : List D) (G : GH) : R D := match x, ys with
  | .ref i, [.int k] => match G[i]? with
    | some (.lst xs) => if -(2 ^ 63) ≤ k ∧ k < 2 ^ 63 then match seqIndex? k xs.length with
        | some j => match xs[j]? with
          | some d => .ok d (G.set i (.lst (xs.eraseIdx j)))
          | none => .st
        | none => .st
      else .st
    | _ => .st
  | _, _ => .st
theorem om_popAt {K : Frag} : OpM K gPopAt rPopAt := by
  intro W σ ι H G x v xs vs Q r hx hxs p
  unfold gPopAt at p
  split at p
  · rename_i i k
    obtain ⟨w, rfl, hw⟩ := hxs.one
    simp only [DV] at hw
    subst hw
    split at p
    · rename_i xs g
      split at p
      · rename_i hb
        split at p
        · rename_i j hj
          split at p
          · rename_i d hd
            obtain ⟨a, us, rfl, hi, q, h⟩ := lst_dv r hx g
            obtain ⟨e, r'⟩ := r.relist hi g q (h.eraseIdx j)
            obtain ⟨w, h1, h2⟩ := h.get hd
            exact ⟨a, us, k, j, w, rfl, rfl, q, hb.1, hb.2, by rw [← h.length]; exact hj, h1, p.ok e r' (h2.ext e)⟩
          · exact False.elim p
        · exact False.elim p
      · exact False.elim p
    · exact False.elim p
  · exact False.elim p
def gInsert (x : D) (ys : List D) (G : GH) : R D := match x, ys with
  | .ref i, [.int k, y] => match G[i]? with
    | some (.lst xs) => if xs.length < 16777216 ∧ 0 ≤ k ∧ k < 2 ^ 63 then .ok .non (G.set i (.lst (xs.take k.toNat ++ [y] ++ xs.drop k.toNat))) else .st
    | _ => .st
  | _, _ => .st
theorem om_insert {K : Frag} : OpM K gInsert (fun x vs H Q => ∃ (l : Addr) (xs : List V) (i : Int) (y : V), x = .ref l ∧ vs = [.int i, y] ∧ H l = some (.lst xs) ∧ xs.length < sizeLine ∧ 0 ≤ i ∧ i < 2 ^ 63 ∧
    Q .non (upd H l (.lst (xs.take i.toNat ++ [y] ++ xs.drop i.toNat)))) := by
  intro W σ ι H G x v xs vs Q r hx hxs p
  unfold gInsert at p
  split at p
  · rename_i i k y
    obtain ⟨w1, w, rfl, hw1, hw⟩ := hxs.two
    simp only [DV] at hw1
    subst hw1
    split at p
    · rename_i xs g
      split at p
      · rename_i hb
        obtain ⟨a, us, rfl, hi, q, h⟩ := lst_dv r hx g
        obtain ⟨e, r'⟩ := r.relist hi g q (((h.take k.toNat).append (DVs.cons hw DVs.nil)).append (h.drop k.toNat))
        exact ⟨a, us, k, w, rfl, rfl, q, by rw [szl, ← h.length]; exact hb.1, hb.2.1, hb.2.2, p.ok e r' (by simp only [DV])⟩
      · exact False.elim p
    · exact False.elim p
  · exact False.elim p
/-- xs.index(y): the place of the first equal item -/
def ixP (p : PyData) : List PyData → Option Nat
  | [] => none
  | z :: zs => if PyData.eqv z p = true then some 0 else (ixP p zs).map (· + 1)
theorem ixP_some {p : PyData} : ∀ {zs : List PyData} {j : Nat}, ixP p zs = some j → ∃ z, zs[j]? = some z ∧ PyData.eqv z p = true ∧ ∀ (m : Nat) (z' : PyData), m < j → zs[m]? = some z' → PyData.eqv z' p = false
  | [], _, h => by cases h
  | z :: zs, j, h => by
    unfold ixP at h
    split at h
    · cases h
      exact ⟨z, rfl, by assumption, fun m z' hm => absurd hm (Nat.not_lt_zero _)⟩
    · rename_i hn
      obtain ⟨k, hk, rfl⟩ := Option.map_eq_some_iff.mp h
      obtain ⟨w, h1, h2, h3⟩ := ixP_some hk
      refine ⟨w, by simpa using h1, h2, fun m z' hm hz => ?_⟩
      cases m with
      | zero => simp at hz; subst hz; simpa using hn
      | succ m => exact h3 m z' (by omega) (by simpa using hz)
def gIndex (x : D) (ys : List D) (G : GH) : R D := match ys with
  | [y] => match py G 64 x, py G 64 y with
    | some (.list ps), some p => match ixP p ps with
      | some j => .ok (.int (j : Nat)) G
      | none => .st
    | _, _ => .st
  | _ => .st
theorem om_index {K : Frag} : OpM K gIndex (rIndexD K) := by
  intro W σ ι H G x v xs vs Q r hx hxs p
  unfold gIndex at p
  split at p
  · rename_i y
    obtain ⟨w, rfl, hw⟩ := hxs.one
    split at p
    · rename_i ps pp e1 e2
      split at p
      · rename_i j hj
        have z1 := py_ok r 64 x v _ e1 hx
        have z2 := py_ok r 64 y w _ e2 hw
        obtain ⟨z, h1, h2, h3⟩ := ixP_some hj
        have hd := z1.dp
        cases hd with
        | lst hs ha => exact ⟨_, w, pp, ps, j, z, rfl, rfl, .lst hs ha, z2.dp, z1.shaped, z2.shaped, h1, h2, h3, p.ok Ext.refl r (by simp only [DV])⟩
      · exact False.elim p
    · exact False.elim p
  · exact False.elim p

/-! ### attributes -/
def lookD (f : Str) (fs : List (Str × D)) : Option D := List.lookup f fs
theorem DKs.lookup {K : Frag} {ι : List Addr} {H : Hp} {f : Str} : ∀ {fs : List (Str × D)} {vs : List (Str × V)}, DKs K ι H fs vs → match List.lookup f fs with
    | none => List.lookup f vs = none
    | some d => ∃ v, List.lookup f vs = some v ∧ DV K ι H d v
  | _, _, .nil => rfl
  | p :: fs, q :: vs, .cons ⟨h1, h2, h3⟩ t => by
    obtain ⟨a, x⟩ := p
    obtain ⟨b, y⟩ := q
    have h1' : a = b := h1
    subst h1'
    have ih := DKs.lookup (f := f) t
    by_cases e : f = a
    · have eb : (f == a) = true := beq_iff_eq.mpr e
      simp only [List.lookup, eb]
      exact ⟨y, rfl, h2⟩
    · have eb : (f == a) = false := beq_eq_false_iff_ne.mpr e
      simp only [List.lookup, eb]
      exact ih
def putFD (f : Str) (v : D) : List (Str × D) → List (Str × D)
  | [] => [(f, v)]
  | (g, x) :: r => if g = f then (g, v) :: r else (g, x) :: putFD f v r
theorem DKs.putF {K : Frag} {ι : List Addr} {H : Hp} {f : Str} {d : D} {v : V} (hv : DV K ι H d v) : ∀ {fs : List (Str × D)} {vs : List (Str × V)}, DKs K ι H fs vs → DKs K ι H (putFD f d fs) (L2.putF f v vs)
  | _, _, .nil => .cons ⟨rfl, hv, rfl⟩ .nil
  | p :: fs, q :: vs, .cons ⟨h1, h2, h3⟩ t => by
    obtain ⟨a, x⟩ := p
    obtain ⟨b, y⟩ := q
    have h1' : a = b := h1
    subst h1'
    have ih := DKs.putF (f := f) hv t
    show DKs K ι H (if a = f then (a, d) :: fs else (a, x) :: putFD f d fs) (if a = f then (a, v) :: vs else (a, y) :: L2.putF f v vs)
    by_cases e : a = f
    · rw [if_pos e, if_pos e]; exact .cons ⟨rfl, hv, rfl⟩ t
    · rw [if_neg e, if_neg e]; exact .cons ⟨rfl, h2, rfl⟩ ih
def gFld (C f : Str) (x : D) (G : GH) : R D := match x with
  | .ref i => match G[i]? with
    | some (.ins c fs) => if c = C then match List.lookup f fs with
        | some d => .ok d G
        | none => .st
      else .st
    | _ => .st
  | _ => .st
section
variable {X : Cx} {xa : XA} {W : WX} {e : Expr} {f : FE} {C n : Str} {pos : Pos}
theorem de_fld (cl : Cls X.K (He.ga X.K C)) (na : NoAttr X.K (He.ga X.K C) n) (he : DE X xa W e f) (hb : attributeBase e n X.env (eval e X.env) = eval e X.env := by rfl) : DE X xa W (.Attribute e n pos) (f1 (gFld C n) f) := by
  refine PEm (pe_fld he hb) (tE_un (r := fun x H1 Q => ∃ a C dx fs v, x = .ref a ∧ H1 a = some (.ins C dx fs) ∧ Cls X.K C ∧ NoAttr X.K C n ∧ fs.lookup n = some v ∧ Q v H1) fun W σ ι H G x v Q r d p => ?_)
  unfold gFld at p
  split at p
  · rename_i i
    split at p
    · rename_i c fs g
      split at p
      · rename_i hc
        subst hc
        simp only [DV] at d
        obtain ⟨a, hi, rfl⟩ := d
        obtain ⟨dx, vs, q, h⟩ := r.at_ i a _ hi g
        have w := h.lookup (f := n)
        split at p
        · rename_i z e
          rw [e] at w
          obtain ⟨u, w1, w2⟩ := w
          exact ⟨a, _, dx, vs, u, rfl, q, cl, na, w1, p.ok Ext.refl r w2⟩
        · exact False.elim p
      · exact False.elim p
    · exact False.elim p
  · exact False.elim p
end

/-! ### dict displays -/
def fD0K : FE := fun _ G => .ok (.ref G.length) (G ++ [.dK []])
def fD0T : FE := fun _ G => .ok (.ref G.length) (G ++ [.dT []])
def putKD {κ : Type} [DecidableEq κ] (kvs : List (κ × D)) (k : κ) (v : D) : List (κ × D) :=
  if (kvs.any fun kv => decide (kv.1 = k)) = true then kvs.map (fun kv => if kv.1 = k then (kv.1, v) else kv) else kvs ++ [(k, v)]
theorem DKs.append {K : Frag} {ι : List Addr} {H : Hp} {κ : Type} [KOk κ] : ∀ {a b : List (κ × D)} {x y : List (κ × V)}, DKs K ι H a x → DKs K ι H b y → DKs K ι H (a ++ b) (x ++ y)
  | _, _, _, _, .nil, h => h
  | _, _, _, _, .cons p t, h => .cons p (DKs.append t h)
theorem DKs.any {K : Frag} {ι : List Addr} {H : Hp} {κ : Type} [KOk κ] [DecidableEq κ] {k : κ} : ∀ {a : List (κ × D)} {x : List (κ × V)}, DKs K ι H a x → (a.any fun kv => decide (kv.1 = k)) = x.any fun kv => decide (kv.1 = k)
  | _, _, .nil => rfl
  | _, _, .cons p t => by rw [List.any_cons, List.any_cons, DKs.any t, p.1]
theorem DKs.repl {K : Frag} {ι : List Addr} {H : Hp} {κ : Type} [KOk κ] [DecidableEq κ] {k : κ} {d : D} {v : V} (hv : DV K ι H d v) : ∀ {a : List (κ × D)} {x : List (κ × V)}, DKs K ι H a x → DKs K ι H (a.map fun kv => if kv.1 = k then (kv.1, d) else kv) (x.map fun kv => if kv.1 = k then (kv.1, v) else kv)
  | _, _, .nil => .nil
  | p :: a, q :: x, .cons hp t => by
    refine .cons ?_ (DKs.repl hv t)
    have h1 := hp.1
    dsimp only
    by_cases e : p.1 = k
    · rw [if_pos e, if_pos (by rw [← h1]; exact e)]; exact ⟨h1, hv, hp.2.2⟩
    · rw [if_neg e, if_neg (by rw [← h1]; exact e)]; exact hp
theorem DKs.put {K : Frag} {ι : List Addr} {H : Hp} {κ : Type} [KOk κ] [DecidableEq κ] {k : κ} {d : D} {v : V} (hk : KOk.ok k = true) (hv : DV K ι H d v) {a : List (κ × D)} {x : List (κ × V)} (h : DKs K ι H a x) : DKs K ι H (putKD a k d) (putK x k v) := by
  unfold putKD putK
  rw [h.any (k := k)]
  split
  · exact DKs.repl hv h
  · exact DKs.append h (.cons ⟨rfl, hv, hk⟩ .nil)
def dropKD {κ : Type} [DecidableEq κ] (kvs : List (κ × D)) (k : κ) : List (κ × D) := kvs.filter fun kv => decide (kv.1 ≠ k)
theorem DKs.drop {K : Frag} {ι : List Addr} {H : Hp} {κ : Type} [KOk κ] [DecidableEq κ] {k : κ} : ∀ {a : List (κ × D)} {x : List (κ × V)}, DKs K ι H a x → DKs K ι H (dropKD a k) (dropK x k)
  | _, _, .nil => .nil
  | p :: a, q :: x, .cons hp t => by
    have ih := DKs.drop (k := k) t
    unfold dropKD dropK at ih ⊢
    rw [List.filter_cons, List.filter_cons, hp.1]
    split
    · exact .cons hp ih
    · exact ih
/-- the pairs, one after another -/
def fPairs : List (FE × FE) → Rho → GH → R (List (D × D))
  | [], _, G => .ok [] G
  | (k, v) :: r, ρ, G => (k ρ G).bind fun x G1 => (v ρ G1).bind fun y G2 => (fPairs r ρ G2).bind fun ps G3 => .ok ((x, y) :: ps) G3
def mergeD : List (Key × D) → List (D × D) → Option (List (Key × D))
  | acc, [] => some acc
  | acc, (x, y) :: r => match keyD x with
    | some k => mergeD (putKD acc k y) r
    | none => none
def fDisp (ps : List (FE × FE)) : FE := fun ρ G => (fPairs ps ρ (G ++ [.dK []])).bind fun xs G1 => if xs.length ≤ 15 then match G1[G.length]? with
    | some (.dK []) => match mergeD [] xs with
      | some kvs => .ok (.ref G.length) (G1.set G.length (.dK kvs))
      | none => .st
    | _ => .st
  else .st
def DVV (K : Frag) (ι : List Addr) (H : Hp) : List (D × D) → List (V × V) → Prop := Paired fun p q => DV K ι H p.1 q.1 ∧ DV K ι H p.2 q.2
inductive DPs (X : Cx) (xa : XA) (W : WX) : List (Option Expr) → List Expr → List (FE × FE) → Prop
  | nil : DPs X xa W [] [] []
  | cons {k v : Expr} {ks : List (Option Expr)} {vs : List Expr} {f g : FE} {r : List (FE × FE)} (hk : DE X xa W k f) (hv : DE X xa W v g) (hr : DPs X xa W ks vs r) : DPs X xa W (some k :: ks) (v :: vs) ((f, g) :: r)
section
variable {X : Cx} {xa : XA} {W : WX} {pos : Pos}
theorem dps_pps {ks : List (Option Expr)} {vs : List Expr} {ps : List (FE × FE)} (h : DPs X xa W ks vs ps) : PPs X pos ks vs (ps.map fun q => (tE X.K xa W q.1, tE X.K xa W q.2)) := by
  induction h with
  | nil => exact pps_nil
  | cons hk hv hr ih => exact pps_cons hk hv ih
theorem pairs_read {K : Frag} : ∀ {ps : List (FE × FE)} {ι : List Addr} {H : Hp} {ρ : Rho} {σ : L2.St} {G : GH} {Q : List (V × V) → Hp → Prop}, Cfg K xa ι H ρ σ G → Post K W σ ι H (DVV K) (fPairs ps ρ G) Q → tPairs (ps.map fun q => (tE K xa W q.1, tE K xa W q.2)) σ H Q
  | [], ι, H, ρ, σ, G, Q, c, p => p.ok Ext.refl c.rz .nil
  | (f, g) :: r, ι, H, ρ, σ, G, Q, c, p => by
    refine ⟨ι, ρ, G, c, (Post.bind (rel := DV K) p).mono fun v H1 ⟨ι1, x, G1, e1, r1, d1, p1⟩ => ?_⟩
    refine ⟨ι1, ρ, G1, c.ext e1 r1, (Post.bind (rel := DV K) p1).mono fun v2 H2 ⟨ι2, y, G2, e2, r2, d2, p2⟩ => ?_⟩
    refine pairs_read ((c.ext e1 r1).ext e2 r2) ((Post.bind (rel := DVV K) p2).mono fun vs H3 ⟨ι3, ys, G3, e3, r3, d3, p3⟩ => ?_)
    exact p3.ok Ext.refl r3 (.cons ⟨(d1.ext e2).ext e3, d2.ext e3⟩ d3)
theorem merge_dv {K : Frag} {ι : List Addr} {H : Hp} : ∀ {xs : List (D × D)} {vs : List (V × V)} {acc kvs : List (Key × D)} {acc' : List (Key × V)}, DVV K ι H xs vs → DKs K ι H acc acc' → mergeD acc xs = some kvs →
    ∃ ks : List (Key × V), vs = ks.map (fun kv => (kV kv.1, kv.2)) ∧ DKs K ι H kvs (mergeK acc' ks)
  | _, _, acc, kvs, acc', .nil, ha, e => by cases e; exact ⟨[], rfl, ha⟩
  | (x, y) :: xs, (v, w) :: vs, acc, kvs, acc', .cons ⟨h1, h2⟩ t, ha, e => by
    unfold mergeD at e
    split at e
    · rename_i k hk
      obtain ⟨ks, e1, h3⟩ := merge_dv t (DKs.put (k := k) (keyD_ok hk h1) h2 ha) e
      have hv : v = kV k := keyD_dv hk h1
      exact ⟨(k, w) :: ks, by rw [e1, hv]; rfl, h3⟩
    · cases e
theorem de_d0K : DE X xa W (.Dict [] [] pos) fD0K := by
  refine PEm pe_dnewK fun σ H Q ⟨ι, ρ, G, c, p⟩ q hq => ?_
  obtain ⟨e2, r2, hat⟩ := c.rz.new (u := .dK []) (o := .dK []) hq fun e => ⟨[], upd_same, .nil⟩
  exact p.ok e2 r2 (by simp only [DV]; exact ⟨q, hat, rfl⟩)
theorem de_d0T : DE X xa W (.Dict [] [] pos) fD0T := by
  refine PEm pe_dnewT fun σ H Q ⟨ι, ρ, G, c, p⟩ q hq => ?_
  obtain ⟨e2, r2, hat⟩ := c.rz.new (u := .dT []) (o := .dT []) hq fun e => ⟨[], upd_same, .nil⟩
  exact p.ok e2 r2 (by simp only [DV]; exact ⟨q, hat, rfl⟩)
theorem de_disp {keys : List (Option Expr)} {values : List Expr} {ps : List (FE × FE)} (h : DPs X xa W keys values ps) (hall : keys.all (·.isSome) = true := by rfl) (hl : keys.length = values.length := by rfl) (h0 : keys ≠ [] := by exact (fun z => by cases z)) (h15 : keys.length ≤ 15 := by decide) :
    DE X xa W (.Dict keys values pos) (fDisp ps) := by
  refine PEm (pe_disp (dps_pps h) hall hl h0 (by first | exact h15 | omega)) fun σ H Q ⟨ι, ρ, G, c, p⟩ q hq => ?_
  obtain ⟨e0, r0, hat⟩ := c.rz.new (u := .dK []) (o := .dK []) hq fun e => ⟨[], upd_same, .nil⟩
  refine pairs_read (c.ext e0 r0) ((Post.bind (rel := DVV X.K) (p.shift e0)).mono fun vs H1 ⟨ι1, xs, G1, e1, r1, d1, p1⟩ => ?_)
  split at p1
  · rename_i hl
    split at p1
    · rename_i g
      split at p1
      · rename_i kvs hm
        have hq1 := e1.at hat
        obtain ⟨us, q1, h1⟩ := r1.at_ _ q _ hq1 g
        have hu : us = [] := by cases h1; rfl
        subst hu
        obtain ⟨ks, e2, h2⟩ := merge_dv d1 (acc' := []) .nil hm
        refine ⟨q1, ks, e2, by rw [e2] at d1; have := Paired.length d1; simp at this; omega, ?_⟩
        obtain ⟨e3, r3⟩ := r1.write hq1 g q1 wr_dK (u := .dK (mergeK [] ks)) (o' := .dK kvs) fun e => ⟨_, upd_same, DKs.ext e h2⟩
        exact p1.ok e3 r3 (by simp only [DV]; exact ⟨q, e3.at hq1, rfl⟩)
      · exact False.elim p1
    · exact False.elim p1
  · exact False.elim p1
end
end F2
end
section
namespace F2
open PySem PySem.Spec PyProof.Rows L2

/-! ### targets -/
inductive Pat where
  | nm (i : Nat) | tu (ps : List Pat)
mutual
def setP : Pat → D → Rho → Option Rho
  | .nm i, d, ρ => some (ρ.set i (some d))
  | .tu ps, d, ρ => match asTup d with
    | some xs => setPs ps xs ρ
    | none => none
def setPs : List Pat → List D → Rho → Option Rho
  | [], [], ρ => some ρ
  | p :: ps, x :: xs, ρ => match setP p x ρ with
    | some ρ' => setPs ps xs ρ'
    | none => none
  | _, _, _ => none
end
mutual
def Pat.slots : Pat → List Nat
  | .nm i => [i]
  | .tu ps => Pat.slotsL ps
def Pat.slotsL : List Pat → List Nat
  | [] => []
  | p :: ps => p.slots ++ Pat.slotsL ps
end
/-- the slots outside l are as they were -/
def SameOut (l : List Nat) (σ σ' : L2.St) : Prop := σ'.length = σ.length ∧ ∀ i, i ∉ l → σ'[i]? = σ[i]?
theorem SameOut.refl {l : List Nat} {σ : L2.St} : SameOut l σ σ := ⟨rfl, fun _ _ => rfl⟩
theorem SameOut.trans {l : List Nat} {σ σ1 σ2 : L2.St} (a : SameOut l σ σ1) (b : SameOut l σ1 σ2) : SameOut l σ σ2 := ⟨b.1.trans a.1, fun i h => (b.2 i h).trans (a.2 i h)⟩
theorem SameOut.mono {l m : List Nat} {σ σ' : L2.St} (a : SameOut l σ σ') (h : ∀ i ∈ l, i ∈ m) : SameOut m σ σ' := ⟨a.1, fun i hi => a.2 i fun z => hi (h i z)⟩
def tG (K : Frag) (xa : XA) (p : Pat) : TG := fun v σ H Q => ∃ ι ρ G d, Cfg K xa ι H ρ σ G ∧ DV K ι H d v ∧ match setP p d ρ with
  | some ρ' => ∀ σ', Cfg K xa ι H ρ' σ' G → SameOut p.slots σ σ' → Q σ' H
  | none => False
def tGs (K : Frag) (xa : XA) (ps : List Pat) : TGs := fun vs σ H Q => ∃ ι ρ G ds, Cfg K xa ι H ρ σ G ∧ DVs K ι H ds vs ∧ match setPs ps ds ρ with
  | some ρ' => ∀ σ', Cfg K xa ι H ρ' σ' G → SameOut (Pat.slotsL ps) σ σ' → Q σ' H
  | none => False
def DG (X : Cx) (xa : XA) (e : Expr) (p : Pat) : Prop := PG X e (tG X.K xa p)
def DGs (X : Cx) (xa : XA) (es : List Expr) (ps : List Pat) : Prop := PGs X es (tGs X.K xa ps)
section
variable {X : Cx} {xa : XA} {pos : Pos}
theorem dg_name {i : Nat} {x : Str} (hN : X.N.Nodup) (hn : XaNo xa i) (hi : X.N[i]? = some x := by rfl) (hx : Loc X.env.scope x := by first | exact Or.inl rfl | exact Or.inr rfl) (hf : X.fn x = true ∨ X.env.scope.names.lookup x = some .local := by first | exact .inl rfl | exact .inr rfl | assumption) : DG X xa (.Name x pos) (.nm i) := by
  refine ⟨fun pins s σ H v u Q I r ⟨ι, ρ, G, d, c, hd, h⟩ => ?_⟩
  refine (pg_name hN hi hx hf).run pins s σ H v u Q I r ?_
  refine (show ∀ σ', Cfg X.K xa ι H (ρ.set i (some d)) σ' G → SameOut [i] σ σ' → Q σ' H from h) _ (c.set hd hn) ⟨by simp, fun j hj => ?_⟩
  rw [List.getElem?_set_ne (by rintro rfl; exact hj (by simp))]
theorem dgs_nil : DGs X xa [] [] := ⟨fun pins s σ H vs us Q I r ⟨ι, ρ, G, ds, c, hd, h⟩ => by
  refine pgs_nil.run pins s σ H vs us Q I r ?_
  cases ds with
  | nil => exact ⟨hd.nil_inv, (show ∀ σ', Cfg X.K xa ι H ρ σ' G → SameOut [] σ σ' → Q σ' H from h) _ c .refl⟩
  | cons d ds => exact False.elim h⟩
theorem dgs_cons {e : Expr} {es : List Expr} {p : Pat} {ps : List Pat} (h1 : DG X xa e p) (h2 : DGs X xa es ps) (hs : (assignEach (e :: es) X.env).map (·.2) = assign e X.env :: (assignEach es X.env).map (·.2) := by rfl) : DGs X xa (e :: es) (p :: ps) := ⟨fun pins s σ H vs us Q I r ⟨ι, ρ, G, ds, c, hd, h⟩ => by
  refine (pgs_cons h1 h2 hs).run pins s σ H vs us Q I r ?_
  cases ds with
  | nil => exact False.elim h
  | cons d ds =>
    obtain ⟨v, vr, rfl, hv, hr⟩ := hd.cons_inv
    refine ⟨v, vr, rfl, ι, ρ, G, d, c, hv, ?_⟩
    simp only [setPs] at h
    cases e : setP p d ρ with
    | none => rw [e] at h; exact False.elim h
    | some ρ1 =>
      rw [e] at h
      intro σ1 c1 o1
      refine ⟨ι, ρ1, G, ds, c1, hr, ?_⟩
      cases e2 : setPs ps ds ρ1 with
      | none => simp only [e2] at h
      | some ρ2 =>
        simp only [e2] at h
        intro σ2 c2 o2
        refine h σ2 c2 ((o1.mono fun i hi => ?_).trans (o2.mono fun i hi => ?_))
        · simp only [Pat.slotsL, List.mem_append]; exact .inl hi
        · simp only [Pat.slotsL, List.mem_append]; exact .inr hi⟩
theorem setPs_len : ∀ {ps : List Pat} {ds : List D} {ρ ρ' : Rho}, setPs ps ds ρ = some ρ' → ds.length = ps.length
  | [], [], _, _, _ => rfl
  | p :: ps, d :: ds, ρ, ρ', h => by
    simp only [setPs] at h
    cases e : setP p d ρ with
    | none => rw [e] at h; cases h
    | some ρ1 => rw [e] at h; simp [setPs_len h]
  | [], _ :: _, _, _, h => by simp [setPs] at h
  | _ :: _, [], _, _, h => by simp [setPs] at h
theorem dg_tup {es : List Expr} {k : Nat} {ps : List Pat} {n : Nat} (hc : X.calm = true) (h : DGs X xa es ps) (hl : ps.length = n) (hn : (assignEach es X.env).length = n := by rfl) (hst : (assignEach es X.env).findIdx? (·.1) = none := by rfl) : DG X xa (.Tuple es k pos) (.tu ps) := by
  refine ⟨fun pins s σ H v u Q I r ⟨ι, ρ, G, d, c, hd, hh⟩ => ?_⟩
  refine (pg_tup hc h hn hst).run pins s σ H v u Q I r ?_
  simp only [setP] at hh
  cases e : asTup d with
  | none => rw [e] at hh; exact False.elim hh
  | some xs =>
    rw [e] at hh
    dsimp only at hh
    obtain ⟨a, vs, rfl, q, hv⟩ := asTup_dv e hd
    cases e2 : setPs ps xs ρ with
    | none => rw [e2] at hh; exact False.elim hh
    | some ρ' =>
      rw [e2] at hh
      refine ⟨a, vs, rfl, q, by rw [← hv.length, setPs_len e2, hl], ι, ρ, G, xs, c, hv, ?_⟩
      rw [e2]
      intro σ' c' o'
      refine hh σ' c' (o'.mono fun i hi => ?_)
      simp only [Pat.slots]; exact hi
end

/-! ### statements -/
def sNil : FS := fun ρ G => .nx ρ G
def sSeq (s t : FS) : FS := fun ρ G => match s ρ G with
  | .nx ρ' G' => t ρ' G'
  | r => r
def sExpr (f : FE) : FS := fun ρ G => (f ρ G).toS ρ fun _ G1 => .nx ρ G1
def sRet (f : FE) : FS := fun ρ G => (f ρ G).toS ρ fun d G1 => .rt d G1
def sRetN : FS := fun _ G => .rt .non G
def sIf (t : FT) (a b : FS) : FS := fun ρ G => (t ρ G).toS ρ fun c G1 => if c = true then a ρ G1 else b ρ G1
def sSet (p : Pat) (f : FE) : FS := fun ρ G => (f ρ G).toS ρ fun d G1 => match setP p d ρ with
  | some ρ' => .nx ρ' G1
  | none => .st
def sBrk : FS := fun ρ G => .bk ρ G
def sCont : FS := fun ρ G => .ct ρ G
section
variable {X : Cx} {xa : XA} {W : WX} {st : Stmt} {rest : List Stmt} {s t : FS} {e : Expr} {f : FE} {pos : Pos}
theorem dss_nil : DSs X xa W [] sNil := PSsm pss_nil fun N σ H ⟨ι, ρ, G, c, p⟩ => p ι H σ Ext.refl c
theorem dss_cons (h1 : DS X xa W st s) (h2 : DSs X xa W rest t) : DSs X xa W (st :: rest) (sSeq s t) := by
  refine PSsm (pss_cons h1 h2) fun N σ H ⟨ι, ρ, G, c, p⟩ => ⟨ι, ρ, G, c, ?_⟩
  unfold sSeq at p
  cases e : s ρ G with
  | nx ρ' G' =>
    rw [e] at p
    exact fun ι' H' σ' x c' => ⟨ι', ρ', G', c', PostS.shift (show PostS X.K xa W σ ι H (t ρ' G') N from p) x |> fun q => by
      cases z : t ρ' G' with
      | nx a b => rw [z] at q; exact q
      | bk a b => rw [z] at q; exact q
      | ct a b => rw [z] at q; exact q
      | rt a b => rw [z] at q; exact q
      | er a b c d => rw [z] at q; exact q
      | st => rw [z] at q; exact q⟩
  | bk ρ' G' => rw [e] at p; exact p
  | ct ρ' G' => rw [e] at p; exact p
  | rt d G' => rw [e] at p; exact p
  | er cc j ρ' G' => rw [e] at p; exact p
  | st => rw [e] at p; exact p
theorem dss_one (h1 : DS X xa W st s) : DSs X xa W [st] s := pss_one h1
theorem ds_doc {x j pos pos'} : DS X xa W (.Expr (.Constant (.str x) j pos) pos') sNil := PSm ps_doc fun N σ H ⟨ι, ρ, G, c, p⟩ => p ι H σ Ext.refl c
theorem ds_pass : DS X xa W (.Pass pos) sNil := PSm ps_pass fun N σ H ⟨ι, ρ, G, c, p⟩ => p ι H σ Ext.refl c
theorem ds_break : DS X xa W (.Break pos) sBrk := PSm ps_break fun N σ H ⟨ι, ρ, G, c, p⟩ => p ι H σ Ext.refl c
theorem ds_continue : DS X xa W (.Continue pos) sCont := PSm ps_continue fun N σ H ⟨ι, ρ, G, c, p⟩ => p ι H σ Ext.refl c
theorem ds_expr (he : DE X xa W e f) (hs : swapsWith e none pos.line X.env = pure false := by rfl) : DS X xa W (.Expr e pos) (sExpr f) :=
  PSm (ps_expr he hs) fun N σ H ⟨ι, ρ, G, c, p⟩ => ⟨ι, ρ, G, c, (PostS.bind (rel := DV X.K) c p).mono fun v H1 ⟨ι1, x, G1, e1, c1, d1, p1⟩ => p1 ι1 H1 σ Ext.refl c1⟩
theorem ds_ret (he : DE X xa W e f) : DS X xa W (.Return (some e) pos) (sRet f) :=
  PSm (ps_ret he) fun N σ H ⟨ι, ρ, G, c, p⟩ => ⟨ι, ρ, G, c, (PostS.bind (rel := DV X.K) c p).mono fun v H1 ⟨ι1, x, G1, e1, c1, d1, p1⟩ => p1 ι1 H1 v Ext.refl c1.rz d1⟩
theorem ds_retN : DS X xa W (.Return none pos) sRetN := PSm ps_retN fun N σ H ⟨ι, ρ, G, c, p⟩ => p ι H .non Ext.refl c.rz (by simp only [DV])
theorem ds_if {cnd : Expr} {a b : List Stmt} {tc : FT} (hc : DT X xa W cnd tc) (ha : DSs X xa W a s) (hb : DSs X xa W b t) : DS X xa W (.If cnd a b pos) (sIf tc s t) := by
  refine PSm (ps_if hc ha hb) fun N σ H ⟨ι, ρ, G, c, p⟩ => ⟨ι, ρ, G, c, (PostS.bind (rel := fun _ _ a v => v = a) c p).mono fun v H1 ⟨ι1, x, G1, e1, c1, d1, p1⟩ => ?_⟩
  subst d1
  have fix : ∀ {r : RS}, PostS X.K xa W σ ι1 H1 r N → PostS X.K xa W σ ι1 H1 r N := fun q => q
  cases v with
  | true => exact ⟨ι1, ρ, G1, c1, p1⟩
  | false => exact ⟨ι1, ρ, G1, c1, p1⟩
/-- name = e -/
theorem ds_set {i : Nat} {x : Str} {pos' : Pos} (he : DE X xa W e f) (hN : X.N.Nodup) (hn : XaNo xa i) (hi : X.N[i]? = some x := by rfl) (hx : Loc X.env.scope x := by first | exact Or.inl rfl | exact Or.inr rfl) (hs : swapsWith e (some (.Name x pos')) pos.line X.env = pure false := by rfl) (hf : X.fn x = true ∨ X.env.scope.names.lookup x = some .local := by first | exact .inl rfl | exact .inr rfl | assumption) :
    DS X xa W (.Assign [.Name x pos'] e pos) (sSet (.nm i) f) :=
  PSm (ps_set hN hi hx he hs hf) fun N σ H ⟨ι, ρ, G, c, p⟩ => ⟨ι, ρ, G, c, (PostS.bind (rel := DV X.K) c p).mono fun v H1 ⟨ι1, x, G1, e1, c1, d1, p1⟩ =>
    (show PostS X.K xa W σ ι1 H1 (.nx (ρ.set i (some x)) G1) N from p1) ι1 H1 _ Ext.refl (c1.set d1 hn)⟩
/-- a, b = e -/
theorem ds_unp {tg : Expr} {pt : Pat} (he : DE X xa W e f) (hg : DG X xa tg pt) (hs : swapsWithSole [tg] e pos.line X.env = pure false := by rfl) (hw : swappedStores [tg] e X.env = pure none := by rfl) (h1 : (assignEach [tg] X.env).map (·.2) = [assign tg X.env] := by rfl) : DS X xa W (.Assign [tg] e pos) (sSet pt f) := by
  refine PSm (ps_asg he hg hs hw h1) fun N σ H ⟨ι, ρ, G, c, p⟩ => ⟨ι, ρ, G, c, (PostS.bind (rel := DV X.K) c p).mono fun v H1 ⟨ι1, x, G1, e1, c1, d1, p1⟩ => ?_⟩
  refine ⟨ι1, ρ, G1, x, c1, d1, ?_⟩
  cases z : setP pt x ρ with
  | none => rw [z] at p1; exact p1
  | some ρ' =>
    rw [z] at p1
    exact fun σ' c' _ => p1 ι1 H1 σ' Ext.refl c'
/-! ### stores -/
def gSetIx (o i v : D) (G : GH) : R Unit := match o with
  | .ref n => match G[n]? with
    | some (.lst xs) => match i with
      | .int k => match ixN xs.length k with
        | some j => .ok () (G.set n (.lst (xs.set j v)))
        | none => .st
      | _ => .st
    | some (.dK kvs) => match keyD i with
      | some k => if kvs.length < 16777216 then .ok () (G.set n (.dK (putKD kvs k v))) else .st
      | none => .st
    | some (.dT kvs) => match i with
      | .tup xs => match keysD xs with
        | some k => if kvs.length < 16777216 then .ok () (G.set n (.dT (putKD kvs k v))) else .st
        | none => .st
      | _ => .st
    | _ => .st
  | _ => .st
def rSetX : V → V → V → Hp → (Hp → Prop) → Prop := fun o i v H Q => rSetL o i v H Q ∨ ∃ a H4, o = .ref a ∧ DPut H a i v H4 ∧ Q H4
theorem set_any (hu : X.A.units + 100 < cLine) : PSet X rSetX := by
  intro pins s σ H o i v ov iv u Q I r1 r2 r3 h
  rcases h with h | ⟨a, H4, rfl, g, q⟩
  · exact set_list pins s σ H o i v ov iv u Q I r1 r2 r3 h
  · cases r1
    exact d_setItem (by omega) I g r2 r3 fun s' I' => ⟨H4, I', q⟩
theorem setIx_post {K : Frag} {W : WX} {σ : L2.St} {ι : List Addr} {H : Hp} {G : GH} {o i d : D} {ov iv v : V} {Q : Unit → Hp → Prop} (r : Rz K ι H G) (ho : DV K ι H o ov) (hi : DV K ι H i iv) (hd : DV K ι H d v) (p : Post K W σ ι H (fun _ _ _ _ => True) (gSetIx o i d G) Q) : rSetX ov iv v H (fun H' => Q () H') := by
  unfold gSetIx at p
  split at p
  · rename_i n
    simp only [DV] at ho
    obtain ⟨a, ha, rfl⟩ := ho
    split at p
    · rename_i xs g
      split at p
      · rename_i k
        simp only [DV] at hi
        subst hi
        split at p
        · rename_i j hj
          obtain ⟨vs, q, h⟩ := r.at_ n a _ ha g
          obtain ⟨e, r'⟩ := r.relist ha g q (DVs.set hd j h)
          exact .inl ⟨a, vs, k, j, rfl, rfl, q, by rw [← h.length]; exact hj, p.ok (v := ()) e r' trivial⟩
        · exact False.elim p
      · exact False.elim p
    · rename_i kvs g
      split at p
      · rename_i k hk
        split at p
        · rename_i hl
          obtain ⟨vs, q, h⟩ := r.at_ n a _ ha g
          obtain ⟨e, r'⟩ := r.write ha g q wr_dK (u := .dK (putK vs k v)) (o' := .dK (putKD kvs k d)) fun e => ⟨_, upd_same, DKs.ext e (DKs.put (keyD_ok hk hi) hd h)⟩
          exact .inr ⟨a, _, rfl, .inl ⟨vs, k, q, keyD_dv hk hi, by rw [szl, ← DKs.length h]; exact hl, rfl⟩, p.ok (v := ()) e r' trivial⟩
        · exact False.elim p
      · exact False.elim p
    · rename_i kvs g
      split at p
      · rename_i xs
        split at p
        · rename_i k hk
          split at p
          · rename_i hl
            obtain ⟨vs, q, h⟩ := r.at_ n a _ ha g
            simp only [DV] at hi
            obtain ⟨b, ws, rfl, hb, hw⟩ := hi
            have hok := keysD_ok hk hw
            rw [keysD_dv hk hw] at hb
            obtain ⟨e, r'⟩ := r.write ha g q wr_dT (u := .dT (putK vs k v)) (o' := .dT (putKD kvs k d)) fun e => ⟨_, upd_same, DKs.ext e (DKs.put hok hd h)⟩
            exact .inr ⟨a, _, rfl, .inr ⟨vs, k, b, q, rfl, hb, by rw [szl, ← DKs.length h]; exact hl, rfl⟩, p.ok (v := ()) e r' trivial⟩
          · exact False.elim p
        · exact False.elim p
      · exact False.elim p
    · exact False.elim p
  · exact False.elim p
def sSetIx (o i v : FE) : FS := fun ρ G => (v ρ G).toS ρ fun d G1 => (o ρ G1).toS ρ fun x G2 => (i ρ G2).toS ρ fun y G3 => (gSetIx x y d G3).toS ρ fun _ G4 => .nx ρ G4
theorem ds_setIx {o i : Expr} {p1 : Pos} {fo fi : FE} (hu : X.A.units + 100 < cLine) (he : DE X xa W e f) (ho : DE X xa W o fo) (hi : DE X xa W i fi)
    (ha : ∀ v, assign (.Subscript o i p1) X.env v = (do
      let ov ← holding [v] (eval o X.env)
      let iv ← holding [v, ov] (eval i X.env)
      standAt p1
      holding [v, ov, iv] (setItem ov iv v)
      release [v, ov, iv] []) := by intro _; rfl)
    (hs : swapsWithSole [.Subscript o i p1] e pos.line X.env = pure false := by rfl) (hw : swappedStores [.Subscript o i p1] e X.env = pure none := by rfl) (h1 : (assignEach [.Subscript o i p1] X.env).map (·.2) = [assign (.Subscript o i p1) X.env] := by rfl) :
    DS X xa W (.Assign [.Subscript o i p1] e pos) (sSetIx fo fi f) := by
  refine PSm (ps_asg he (pg_sub ho hi (set_any hu) ha) hs hw h1) fun N σ H ⟨ι, ρ, G, c, p⟩ => ⟨ι, ρ, G, c, (PostS.bind (rel := DV X.K) c p).mono fun v H1 ⟨ι1, x, G1, e1, c1, d1, p1⟩ => ?_⟩
  refine ⟨ι1, ρ, G1, c1, (PostS.bind (rel := DV X.K) c1 p1).mono fun v2 H2 ⟨ι2, x2, G2, e2, c2, d2, p2⟩ => ?_⟩
  refine ⟨ι2, ρ, G2, c2, (PostS.bind (rel := DV X.K) c2 p2).mono fun v3 H3 ⟨ι3, x3, G3, e3, c3, d3, p3⟩ => ?_⟩
  refine setIx_post (Q := fun _ H' => N.nx σ H') c3.rz (d2.ext e3) d3 ((d1.ext e2).ext e3) ((PostS.bind (rel := fun _ _ _ (_ : Unit) => True) c3 p3).mono fun _ H4 ⟨ι4, _, G4, e4, c4, _, p4⟩ => ?_)
  exact p4 ι4 H4 σ Ext.refl c4
/-- o.f = e -/
def gSetFld (C n : Str) (x v : D) (G : GH) : R Unit := match x with
  | .ref i => match G[i]? with
    | some (.ins c fs) => if c = C ∧ fs.length < 1000 then .ok () (G.set i (.ins c (putFD n v fs))) else .st
    | _ => .st
  | _ => .st
def sSetFld (C n : Str) (o v : FE) : FS := fun ρ G => (v ρ G).toS ρ fun d G1 => (o ρ G1).toS ρ fun x G2 => (gSetFld C n x d G2).toS ρ fun _ G3 => .nx ρ G3
theorem ds_setFld {o : Expr} {C n : Str} {pos' : Pos} {fo : FE} (cl : Cls X.K (He.ga X.K C)) (na : NoAttr X.K (He.ga X.K C) n) (he : DE X xa W e f) (ho : DE X xa W o fo) (hs : swapsWith e (some (.Attribute o n pos')) pos.line X.env = pure false := by rfl) :
    DS X xa W (.Assign [.Attribute o n pos'] e pos) (sSetFld C n fo f) := by
  refine PSm (ps_fld ho he hs) fun N σ H ⟨ι, ρ, G, c, p⟩ => ⟨ι, ρ, G, c, (PostS.bind (rel := DV X.K) c p).mono fun v H1 ⟨ι1, x, G1, e1, c1, d1, p1⟩ => ?_⟩
  refine ⟨ι1, ρ, G1, c1, (PostS.bind (rel := DV X.K) c1 p1).mono fun v2 H2 ⟨ι2, x2, G2, e2, c2, d2, p2⟩ => ?_⟩
  unfold gSetFld at p2
  cases x2 with
  | ref i =>
    dsimp only at p2
    cases g : G2[i]? with
    | none => rw [g] at p2; exact False.elim p2
    | some ob =>
      rw [g] at p2
      cases ob with
      | ins cc fs =>
        dsimp only at p2
        split at p2
        · rename_i hc
          obtain ⟨rfl, hl⟩ := hc
          simp only [DV] at d2
          obtain ⟨a, hi, rfl⟩ := d2
          obtain ⟨dx, vs, q, h⟩ := c2.rz.at_ i a _ hi g
          obtain ⟨e3, r3⟩ := c2.rz.write hi g q wr_ins (u := .ins (He.ga X.K cc) dx (putF n v vs)) (o' := .ins cc (putFD n x fs)) fun e => ⟨dx, _, upd_same, DKs.ext e (DKs.putF (d1.ext e2) h)⟩
          exact ⟨a, _, dx, vs, rfl, q, cl, na, by rw [← DKs.length h]; exact hl, p2 ι2 _ σ e3 (c2.ext e3 r3)⟩
        · exact False.elim p2
      | _ => exact False.elim p2
  | _ => exact False.elim p2
/-- del d[k] -/
def gDel (x y : D) (G : GH) : R Unit := match x with
  | .ref i => match G[i]? with
    | some (.dK kvs) => match keyD y with
      | some k => if (valD kvs k).isSome = true then .ok () (G.set i (.dK (dropKD kvs k))) else .st
      | none => .st
    | _ => .st
  | _ => .st
def sDel (o i : FE) : FS := fun ρ G => (o ρ G).toS ρ fun x G1 => (i ρ G1).toS ρ fun y G2 => (gDel x y G2).toS ρ fun _ G3 => .nx ρ G3
theorem ds_del {o i : Expr} {p1 : Pos} {fo fi : FE} (ho : DE X xa W o fo) (hi : DE X xa W i fi) : DS X xa W (.Delete [.Subscript o i p1] pos) (sDel fo fi) := by
  refine PSm (ps_ddel ho hi) fun N σ H ⟨ι, ρ, G, c, p⟩ => ⟨ι, ρ, G, c, (PostS.bind (rel := DV X.K) c p).mono fun v H1 ⟨ι1, x, G1, e1, c1, d1, p1⟩ => ?_⟩
  refine ⟨ι1, ρ, G1, c1, (PostS.bind (rel := DV X.K) c1 p1).mono fun v2 H2 ⟨ι2, y, G2, e2, c2, d2, p2⟩ => ?_⟩
  unfold gDel at p2
  cases x with
  | ref n =>
    dsimp only at p2
    cases g : G2[n]? with
    | none => rw [g] at p2; exact False.elim p2
    | some ob =>
      rw [g] at p2
      cases ob with
      | dK kvs =>
        dsimp only at p2
        cases ek : keyD y with
        | none => rw [ek] at p2; exact False.elim p2
        | some k =>
          rw [ek] at p2
          dsimp only at p2
          split at p2
          · rename_i hs
            have d1' := d1.ext e2
            simp only [DV] at d1'
            obtain ⟨a, hi, rfl⟩ := d1'
            obtain ⟨vs, q, h⟩ := c2.rz.at_ n a _ hi g
            have hv := DKs.val (k := k) h
            have hv' : (valV vs k).isSome = true := by
              cases z : valD kvs k with
              | none => rw [z] at hs; cases hs
              | some w => rw [z] at hv; obtain ⟨u, h1, _⟩ := hv; rw [h1]; rfl
            obtain ⟨e3, r3⟩ := c2.rz.write hi g q wr_dK (u := .dK (dropK vs k)) (o' := .dK (dropKD kvs k)) fun e => ⟨_, upd_same, DKs.ext e (DKs.drop h)⟩
            exact ⟨a, vs, k, rfl, q, keyD_dv ek d2, hv', p2 ι2 _ σ e3 (c2.ext e3 r3)⟩
          · exact False.elim p2
      | _ => exact False.elim p2
  | _ => exact False.elim p2
/-- a statement that is never come to -/
def sNever : FS := fun _ _ => .st
theorem ds_never : DS X xa W st sNever := PSm ps_never fun N σ H ⟨ι, ρ, G, c, p⟩ => p
end
end F2
end
section
namespace F2
open PySem PySem.Spec PyProof.Rows L2

/-! ### unlocking behind a loop -/
def UnL (X : Cx) (P : Hp → Prop) (H' : Hp) : Prop := P H' ∨ ∃ a o u, H' a = some (.frz o u) ∧ (∀ o' u', X.H_0 a ≠ some (.frz o' u')) ∧ P (upd H' a u)
abbrev Ends.unl (X : Cx) (N : Ends) : Ends := ⟨fun σ' H' => UnL X (N.nx σ') H', fun v H' => UnL X (N.rt v) H', fun σ' H' => UnL X (N.bk σ') H', fun σ' H' => UnL X (N.ct σ') H'⟩
theorem UnL.inv {X : Cx} {pins : List (Addr × Obj)} {σ : L2.St} {H : Hp} {s : Shared} {P : Hp → Prop} (I : Inv X pins σ H s) (h : UnL X P H) : ∃ H', Inv X pins σ H' s ∧ P H' := by
  rcases h with h | ⟨a, o, u, e, n, h⟩
  · exact ⟨H, I, h⟩
  · exact ⟨_, I.unlock e n, h⟩
theorem ps_unl {X : Cx} {st : Stmt} {t : TS} (h : PS X st t) : PS X st (fun N σ H => t (Ends.unl X N) σ H) := by
  refine ⟨fun pins s σ H N I hw => ?_⟩
  refine thn (h.run pins s σ H _ I hw) fun f s1 q => ?_
  cases f with
  | next => obtain ⟨σ', H', I2, q⟩ := q; obtain ⟨H3, I3, q3⟩ := UnL.inv I2 q; exact ⟨σ', H3, I3, q3⟩
  | brk => obtain ⟨σ', H', I2, q⟩ := q; obtain ⟨H3, I3, q3⟩ := UnL.inv I2 q; exact ⟨σ', H3, I3, q3⟩
  | cont => obtain ⟨σ', H', I2, q⟩ := q; obtain ⟨H3, I3, q3⟩ := UnL.inv I2 q; exact ⟨σ', H3, I3, q3⟩
  | ret v => obtain ⟨x, σ', H', I2, r, q⟩ := q; obtain ⟨H3, I3, q3⟩ := UnL.inv I2 q; exact ⟨x, σ', H3, I3, r, q3⟩
theorem pe_unl {X : Cx} {e : Expr} {t : TE} (h : PE X e t) : PE X e (fun σ H Q => t σ H fun v H' => UnL X (Q v) H') := by
  refine ⟨fun pins s σ H Q I hw => ?_⟩
  refine thn (h.run pins s σ H _ I hw) fun v s1 ⟨x, H1, I2, r, q⟩ => ?_
  obtain ⟨H3, I3, q3⟩ := UnL.inv I2 q
  exact ⟨x, H3, I3, r, q3⟩
/-- an exception that leaves while something is locked -/
def UnW (X : Cx) (W : WX) : WX := fun cls d σ H => UnL X (W cls d σ) H
theorem Takes.unl {X : Cx} {W : WX} (tk : Takes X W) : Takes X (UnW X W) := by
  rintro u s' ⟨a, B, sI, pins, σ, H, cls, d, e, I, nb, up, sky, na, os, ag, w⟩
  rcases w with w | ⟨b, o, x, hb, hn, w⟩
  · exact tk u s' ⟨a, B, sI, pins, σ, H, cls, d, e, I, nb, up, sky, na, os, ag, w⟩
  · refine tk u s' ⟨a, B, sI, pins, σ, _, cls, d, e, I.unlock hb hn, nb, up, sky, ?_, os, ag, w⟩
    rw [L2.upd_ne (fun z => by rw [z, hb] at na; cases na)]
    exact na

/-! ### what is walked -/
def unlockO : GO → GO
  | .fK kvs => .dK kvs
  | .fT kvs => .dT kvs
  | o => o
def unlockG (l : Option Nat) (G : GH) : GH := match l with
  | none => G
  | some n => match G[n]? with
    | some o => G.set n (unlockO o)
    | none => G
@[simp] theorem unlockG_none (G : GH) : unlockG none G = G := rfl
/-- what a loop walks: the items, the dict that is locked meanwhile, the list that must stay, the objects with the dict locked -/
def iterD (x : D) (G : GH) : Option (List D × Option Nat × Option Nat × GH) := match x with
  | .tup xs => some (xs, none, none, G)
  | .ktup xs => some (xs, none, none, G)
  | .scr xs => some (xs, none, none, G)
  | .str z => some (z.cps.toList.map fun c => .str ⟨#[c]⟩, none, none, G)
  | .ref n => match G[n]? with
    | some (.lst xs) => some (xs, none, some n, G)
    | some (.dK kvs) => some (kvs.map fun p => keyV p.1, some n, none, G.set n (.fK kvs))
    | some (.fK kvs) => some (kvs.map fun p => keyV p.1, none, none, G)
    | some (.dT kvs) => some (kvs.map fun p => .tup (p.1.map keyV), some n, none, G.set n (.fT kvs))
    | some (.fT kvs) => some (kvs.map fun p => .tup (p.1.map keyV), none, none, G)
    | _ => none
  | _ => none
def Dic (u : HO) : Prop := (∃ vs, u = .dK vs) ∨ ∃ vs, u = .dT vs
theorem Dic.mut {u : HO} (h : Dic u) : Mut (some u) := by
  rcases h with ⟨vs, rfl⟩ | ⟨vs, rfl⟩ <;> trivial
theorem Dic.wr {u : HO} (h : Dic u) : Wr u := by
  rcases h with ⟨vs, rfl⟩ | ⟨vs, rfl⟩
  · exact wr_dK
  · exact wr_dT
/-- a locked dict freed -/
theorem Rz.unlock {K : Frag} {ι : List Addr} {H : Hp} {G : GH} {n : Nat} {a : Addr} {o : Obj} {u : HO} (r : Rz K ι H G) (hi : ι[n]? = some a) (e : H a = some (.frz o u)) (du : Dic u) :
    ExtW K ι H ι (upd H a u) ∧ Rz K ι (upd H a u) (unlockG (some n) G) := by
  have hg : n < G.length := by rw [← r.len]; exact (List.getElem?_eq_some_iff.mp hi).1
  have x : ExtW K ι H ι (upd H a u) := ⟨⟨[], by simp⟩, fun b xs q => by rw [L2.upd_ne (fun w => by subst w; rw [e] at q; cases q)]; exact q, fun b ob xs q => by
    rw [L2.upd_ne (fun w => by subst w; rw [e] at q; rcases du with ⟨vs, rfl⟩ | ⟨vs, rfl⟩ <;> cases q)]; exact q⟩
  obtain ⟨ob, hob⟩ : ∃ ob, G[n]? = some ob := ⟨G[n], by simp [hg]⟩
  have w := r.at_ n a ob hi hob
  have hob' : unlockG (some n) G = G.set n (unlockO ob) := by simp only [unlockG, hob]
  rw [hob']
  refine ⟨x, by simp [r.len], r.nd, fun j b z hj hz => ?_⟩
  by_cases hji : j = n
  · subst hji
    rw [hi] at hj
    cases hj
    rw [List.getElem?_set_self hg] at hz
    cases hz
    rcases du with ⟨vs, rfl⟩ | ⟨vs, rfl⟩
    · cases ob with
      | fK kvs => obtain ⟨o2, ws, q, h⟩ := w; rw [e] at q; cases q; exact ⟨vs, upd_same, DKs.extW x h⟩
      | lst xs => obtain ⟨ws, q, _⟩ := w; rw [e] at q; cases q
      | fro xs => obtain ⟨_, ws, q, _⟩ := w; rw [e] at q; cases q
      | dK xs => obtain ⟨ws, q, _⟩ := w; rw [e] at q; cases q
      | dT xs => obtain ⟨ws, q, _⟩ := w; rw [e] at q; cases q
      | fT xs => obtain ⟨_, ws, q, _⟩ := w; rw [e] at q; cases q
      | ins c fs => obtain ⟨_, ws, q, _⟩ := w; rw [e] at q; cases q
      | xd fs => obtain ⟨ws, q, _⟩ := w; rw [e] at q; cases q
    · cases ob with
      | fT kvs => obtain ⟨o2, ws, q, h⟩ := w; rw [e] at q; cases q; exact ⟨vs, upd_same, DKs.extW x h⟩
      | lst xs => obtain ⟨ws, q, _⟩ := w; rw [e] at q; cases q
      | fro xs => obtain ⟨_, ws, q, _⟩ := w; rw [e] at q; cases q
      | dK xs => obtain ⟨ws, q, _⟩ := w; rw [e] at q; cases q
      | dT xs => obtain ⟨ws, q, _⟩ := w; rw [e] at q; cases q
      | fK xs => obtain ⟨_, ws, q, _⟩ := w; rw [e] at q; cases q
      | ins c fs => obtain ⟨_, ws, q, _⟩ := w; rw [e] at q; cases q
      | xd fs => obtain ⟨ws, q, _⟩ := w; rw [e] at q; cases q
  · rw [List.getElem?_set_ne (Ne.symm hji)] at hz
    exact (r.at_ j b z hj hz).keepW x fun y q => by rw [L2.upd_ne (fun w => by subst w; exact hji (r.nd _ _ _ hj hi))]; exact q
theorem Cfg.unlock {K : Frag} {xa : XA} {ι : List Addr} {H : Hp} {ρ : Rho} {σ : L2.St} {G : GH} {n : Nat} {a : Addr} {o : Obj} {u : HO} (c : Cfg K xa ι H ρ σ G) (hi : ι[n]? = some a) (e : H a = some (.frz o u)) (du : Dic u) : Cfg K xa ι (upd H a u) ρ σ (unlockG (some n) G) := by
  obtain ⟨x, r⟩ := c.rz.unlock hi e du
  refine ⟨⟨c.env.len, fun i d h => let ⟨v, h1, h2⟩ := c.env.at_ i d h; ⟨v, h1, h2.extW x⟩⟩, r, c.xr⟩
/-- the dict that a loop has locked: its number, its address, its object, what it is -/
abbrev Lk := Option (Nat × Addr × Obj × HO)
def Lk.num (l : Lk) : Option Nat := l.map (·.1)
/-- from the state ahead of the lock to a state within the loop -/
def LR (K : Frag) (X : Cx) (l : Lk) (ι1 : List Addr) (H1 : Hp) (ι : List Addr) (H : Hp) : Prop := match l with
  | none => Ext K ι1 H1 ι H
  | some (n, a, o, u) => H1 a = some u ∧ Dic u ∧ ι1[n]? = some a ∧ (∀ o' u', X.H_0 a ≠ some (.frz o' u')) ∧ Ext K ι1 (upd H1 a (.frz o u)) ι H
theorem LR.more {K : Frag} {X : Cx} {l : Lk} {ι1 ι ι' : List Addr} {H1 H H' : Hp} (h : LR K X l ι1 H1 ι H) (e : Ext K ι H ι' H') : LR K X l ι1 H1 ι' H' := by
  cases l with
  | none => exact Ext.trans h e
  | some p => obtain ⟨n, a, o, u⟩ := p; obtain ⟨h1, h2, h3, h4, h5⟩ := h; exact ⟨h1, h2, h3, h4, h5.trans e⟩
theorem LR.fin {K : Frag} {X : Cx} {l : Lk} {ι1 ι : List Addr} {H1 H : Hp} (h : LR K X l ι1 H1 ι H) {P : Hp → Prop} (q : ∀ H'', Ext K ι1 H1 ι H'' → ExtW K ι H ι H'' → (∀ {G : GH}, Rz K ι H G → Rz K ι H'' (unlockG l.num G)) → P H'') : UnL X P H := by
  cases l with
  | none => exact .inl (q H h ⟨⟨[], by simp⟩, fun _ _ z => z, fun _ _ _ z => z⟩ fun r => r)
  | some p =>
    obtain ⟨n, a, o, u⟩ := p
    obtain ⟨h1, h2, h3, h4, h5⟩ := h
    have ea : H a = some (.frz o u) := h5.frz a o u upd_same
    refine .inr ⟨a, o, u, ea, h4, q _ ?_ ?_ fun r => (r.unlock (h5.at h3) ea h2).2⟩
    · refine ⟨h5.pre, fun b xs z => ?_, fun b ob x z => ?_⟩
      · have hb : b ≠ a := fun w => by subst w; rw [h1] at z; cases z; exact h2.wr.1 _ rfl
        rw [L2.upd_ne hb]
        exact h5.tup b xs (by rw [L2.upd_ne hb]; exact z)
      · have hb : b ≠ a := fun w => by subst w; rw [h1] at z; cases z; exact h2.wr.2 _ _ rfl
        rw [L2.upd_ne hb]
        exact h5.frz b ob x (by rw [L2.upd_ne hb]; exact z)
    · exact ⟨⟨[], by simp⟩, fun b xs z => by rw [L2.upd_ne (fun w => by subst w; rw [ea] at z; cases z)]; exact z, fun b ob xs z => by
        rw [L2.upd_ne (fun w => by subst w; rw [ea] at z; rcases h2 with ⟨vs, rfl⟩ | ⟨vs, rfl⟩ <;> cases z)]; exact z⟩
theorem LR.cfg {K : Frag} {X : Cx} {xa : XA} {l : Lk} {ι1 ι : List Addr} {H1 H : Hp} {ρ : Rho} {σ : L2.St} {G : GH} (h : LR K X l ι1 H1 ι H) (c : Cfg K xa ι H ρ σ G) {P : Hp → Prop} (q : ∀ H'', Ext K ι1 H1 ι H'' → Cfg K xa ι H'' ρ σ (unlockG l.num G) → P H'') : UnL X P H :=
  h.fin fun H'' e x r => q H'' e ⟨⟨c.env.len, fun i d h => let ⟨v, h1, h2⟩ := c.env.at_ i d h; ⟨v, h1, h2.extW x⟩⟩, r c.rz, c.xr⟩

/-! ### iterators -/
section
variable {X : Cx} {tg : Expr} {pins : List (Addr × Obj)} {σ : L2.St} {H : Hp} {s : Shared} {R : It → Hp → Prop} {E : Value → Shared → Prop}
theorem it_list {a : Addr} (I : Inv X pins σ H s) (hq : ∃ xs, SqL X.K H a xs) (q : R (Itl X.K a) H) : wpAny (model X.prog X.w) X.A (pyIter (.ref a)) (PIE X pins σ tg R) E s := by
  obtain ⟨xs, hq⟩ := hq
  obtain ⟨its, rv, p, hz⟩ := I.list hq
  refine wpAny_pyIter_list p.isList ?_
  refine ⟨s.heap.objs.size, [s.heap.objs.size], _, _, H, rfl, I.kept (t' := s.toks) fun b o e => Heap.get?_push_of_some _ e, turn_list a _, ⟨_, Heap.get?_push_size _ rfl, rfl, rfl⟩, fun b hb => ?_, q⟩
  have e : b = s.heap.objs.size := by simpa using hb
  subst e
  exact I.fpOk (Nat.le_refl _) (I.hok.fresh (Nat.le_refl _))
theorem it_tup {a : Addr} (I : Inv X pins σ H s) (hq : ∃ xs, SqT X.K H a xs) (q : R (Itt X.K a) H) : wpAny (model X.prog X.w) X.A (pyIter (.ref a)) (PIE X pins σ tg R) E s := by
  obtain ⟨xs, hq⟩ := hq
  obtain ⟨its, rv, p, hz⟩ := I.tuple hq
  refine wpAny_pyIter_tuple (show s.heap.IsTuple a its.toArray from p) ?_
  refine ⟨s.heap.objs.size, [s.heap.objs.size], _, _, H, rfl, I.kept (t' := s.toks) fun b o e => Heap.get?_push_of_some _ e, turn_tuple a _, ⟨_, Heap.get?_push_size _ rfl, rfl, rfl⟩, fun b hb => ?_, q⟩
  have e : b = s.heap.objs.size := by simpa using hb
  subst e
  exact I.fpOk (Nat.le_refl _) (I.hok.fresh (Nat.le_refl _))
theorem it_keys {a : Addr} {o : Obj} {kvs : List (Key × V)} (I : Inv X pins σ H s) (hd : H a = some (.frz o (.dK kvs))) (q : R (Itk a o kvs) H) : wpAny (model X.prog X.w) X.A (pyIter (.ref a)) (PIE X pins σ tg R) E s := by
  obtain ⟨hs, hgd, hx, es, ep, vs, hdt, hsz, kv, hm⟩ := I.frzK hd
  refine iter_keys hs hgd hx hdt (pi_one (tk := s.toks) I _ (turn_keys _ hdt) ⟨_, Heap.get?_push_size _ rfl, rfl, ?_⟩ q)
  rw [hsz] <;> rfl
theorem it_keysT {a : Addr} {o : Obj} {kvs : List (List Key × V)} (I : Inv X pins σ H s) (hd : H a = some (.frz o (.dT kvs))) (q : R (Itkt a o kvs) H) : wpAny (model X.prog X.w) X.A (pyIter (.ref a)) (PIE X pins σ tg R) E s := by
  obtain ⟨hs, hgd, hx, es, ep, hdt, hsz, ent⟩ := I.frzT hd
  refine iter_keys hs hgd hx hdt (pi_one (tk := s.toks) I _ (turn_keysT _ hdt) ⟨_, Heap.get?_push_size _ rfl, rfl, ?_⟩ q)
  rw [hsz] <;> rfl
theorem it_str {x : Str} {t : Tok} (I : Inv X pins σ H s) (q : R (Its x) H) : wpAny (model X.prog X.w) X.A (pyIter (.str x t)) (PIE X pins σ tg R) E s := by
  cases ha : x.cps.all (· < 128)
  · exact wpAny_pyIter_wide ha (pi_one (tk := s.toks) I _ (turn_str _ x t "str_iterator" (.inr rfl)) ⟨_, Heap.get?_push_size _ rfl, rfl, rfl⟩ q)
  · exact wpAny_pyIter_ascii ha (pi_one (tk := s.toks) I _ (turn_str _ x t "str_ascii_iterator" (.inl rfl)) ⟨_, Heap.get?_push_size _ rfl, rfl, rfl⟩ q)
end
/-- an iterator whose i-th item is the i-th of xs, while Ok holds -/
structure Walks2 (K : Frag) (ι : List Addr) (H : Hp) (ck : Option Nat) (J : It) (xs : List D) : Prop where
  go : ∀ (i : Nat) (ι' : List Addr) (H' : Hp) (G' : GH), Ext K ι H ι' H' → Rz K ι' H' G' → (∀ n, ck = some n → G'[n]? = some (.lst xs)) → i < xs.length → J.go i H' ∧ ∀ x H'', J.yld i H' x H'' → H'' = H' ∧ ∃ d, xs[i]? = some d ∧ DV K ι' H' d x
  stop : ∀ (ι' : List Addr) (H' : Hp) (G' : GH), Ext K ι H ι' H' → Rz K ι' H' G' → (∀ n, ck = some n → G'[n]? = some (.lst xs)) → J.stop xs.length H'
section
variable {K : Frag} {ι : List Addr} {H : Hp} {a : Addr}
theorem w2_list {n : Nat} {xs : List D} (hi : ι[n]? = some a) : Walks2 K ι H (some n) (Itl K a) xs := by
  have key : ∀ (ι' : List Addr) (H' : Hp) (G' : GH), Ext K ι H ι' H' → Rz K ι' H' G' → (∀ m, some n = some m → G'[m]? = some (.lst xs)) → ∃ vs, H' a = some (.lst vs) ∧ DVs K ι' H' xs vs := fun ι' H' G' e r c => r.at_ n a _ (e.at hi) (c n rfl)
  refine ⟨fun i ι' H' G' e r c hl => ?_, fun ι' H' G' e r c => ?_⟩
  · obtain ⟨vs, q, h⟩ := key ι' H' G' e r c
    obtain ⟨v, h1, h2⟩ := h.get (i := i) (d := xs[i]) (by simp [hl])
    refine ⟨⟨vs, v, SqL.of q, h1⟩, fun x H'' ⟨e1, y⟩ => ⟨e1, xs[i], by simp [hl], ?_⟩⟩
    have := y vs (SqL.of q)
    rw [h1] at this
    cases this
    exact h2
  · obtain ⟨vs, q, h⟩ := key ι' H' G' e r c
    exact ⟨vs, SqL.of q, Nat.le_of_eq h.length.symm⟩
theorem w2_tup {xs : List D} {vs : List V} (hq : SqT K H a vs) (st : ∀ ι' H', Ext K ι H ι' H' → SqT K H' a vs) (h : DVs K ι H xs vs) : Walks2 K ι H none (Itt K a) xs := by
  refine ⟨fun i ι' H' G' e r c hl => ?_, fun ι' H' G' e r c => ?_⟩
  · obtain ⟨v, h1, h2⟩ := (h.ext e).get (i := i) (d := xs[i]) (by simp [hl])
    refine ⟨⟨vs, v, st _ _ e, h1⟩, fun x H'' ⟨e1, y⟩ => ⟨e1, xs[i], by simp [hl], ?_⟩⟩
    have := y vs (st _ _ e)
    rw [h1] at this
    cases this
    exact h2
  · exact ⟨vs, st _ _ e, Nat.le_of_eq h.length.symm⟩
theorem w2_frol {xs : List D} {vs : List V} (hq : FroL K H a vs) (h : DVs K ι H xs vs) : Walks2 K ι H none (Itl K a) xs := by
  have st : ∀ ι' H', Ext K ι H ι' H' → SqL K H' a vs := fun ι' H' e => by
    rcases hq with ⟨o, q⟩ | q
    · exact .inl (.inr ⟨o, e.frz _ _ _ q⟩)
    · exact .inr q
  refine ⟨fun i ι' H' G' e r c hl => ?_, fun ι' H' G' e r c => ?_⟩
  · obtain ⟨v, h1, h2⟩ := (h.ext e).get (i := i) (d := xs[i]) (by simp [hl])
    refine ⟨⟨vs, v, st _ _ e, h1⟩, fun x H'' ⟨e1, y⟩ => ⟨e1, xs[i], by simp [hl], ?_⟩⟩
    have := y vs (st _ _ e)
    rw [h1] at this
    cases this
    exact h2
  · exact ⟨vs, st _ _ e, Nat.le_of_eq h.length.symm⟩
theorem DKs.keyAt {κ : Type} [KOk κ] : ∀ {ks : List (κ × D)} {vs : List (κ × V)} {i : Nat} {k : κ} {v : V}, DKs K ι H ks vs → vs[i]? = some (k, v) → ∃ d, ks[i]? = some (k, d) ∧ KOk.ok k = true
  | p :: ks, q :: vs, 0, k, v, .cons ⟨h1, h2, h3⟩ t, e => by
    simp at e; subst e
    obtain ⟨a, b⟩ := p
    have h1' : a = k := h1
    subst h1'
    exact ⟨b, rfl, h3⟩
  | p :: ks, q :: vs, i + 1, k, v, .cons _ t, e => DKs.keyAt (i := i) t (by simpa using e)
  | _, _, _, _, _, .nil, e => by simp at e
theorem w2_keys {o : Obj} {kvs : List (Key × D)} {vs : List (Key × V)} (hq : H a = some (.frz o (.dK vs))) (h : DKs K ι H kvs vs) : Walks2 K ι H none (Itk a o vs) (kvs.map fun p => keyV p.1) := by
  have hlen := DKs.length h
  refine ⟨fun i ι' H' G' e r c hl => ?_, fun ι' H' G' e r c => ?_⟩
  · have hl' : i < kvs.length := by simpa using hl
    refine ⟨⟨e.frz _ _ _ hq, by omega⟩, fun x H'' ⟨e1, k, v, hk, hx⟩ => ⟨e1, keyV k, ?_, ?_⟩⟩
    · obtain ⟨d, h1, h2⟩ := DKs.keyAt h hk
      rw [List.getElem?_map, h1]; rfl
    · obtain ⟨d, h1, h2⟩ := DKs.keyAt h hk
      rw [hx]; exact keyV_dv h2
  · exact ⟨e.frz _ _ _ hq, by simp; omega⟩
theorem w2_keysT {o : Obj} {kvs : List (List Key × D)} {vs : List (List Key × V)} (hq : H a = some (.frz o (.dT vs))) (h : DKs K ι H kvs vs) : Walks2 K ι H none (Itkt a o vs) (kvs.map fun p => .tup (p.1.map keyV)) := by
  have hlen := DKs.length h
  refine ⟨fun i ι' H' G' e r c hl => ?_, fun ι' H' G' e r c => ?_⟩
  · have hl' : i < kvs.length := by simpa using hl
    refine ⟨⟨e.frz _ _ _ hq, by omega⟩, fun x H'' ⟨e1, k, v, q, hk, hx, hqq⟩ => ⟨e1, .tup (k.map keyV), ?_, ?_⟩⟩
    · obtain ⟨d, h1, h2⟩ := DKs.keyAt h hk
      rw [List.getElem?_map, h1]; rfl
    · obtain ⟨d, h1, h2⟩ := DKs.keyAt h hk
      rw [hx]
      simp only [DV]
      exact ⟨q, _, rfl, hqq, keyVs_dv h2⟩
  · exact ⟨e.frz _ _ _ hq, by simp; omega⟩
theorem w2_str {x : Str} (hx : strF x = true) : Walks2 K ι H none (Its x) (x.cps.toList.map fun c => .str ⟨#[c]⟩) := by
  refine ⟨fun i ι' H' G' e r c hl => ?_, fun ι' H' G' e r c => ?_⟩
  · refine ⟨(show i < x.cps.size by simpa using hl), fun z H'' ⟨e1, c, hc, hz⟩ => ⟨e1, .str ⟨#[c]⟩, ?_, ?_⟩⟩
    · rw [List.getElem?_map]
      have : x.cps.toList[i]? = some c := by simpa using hc
      rw [this]; rfl
    · rw [hz]
      simp only [DV]
      refine ⟨trivial, strF1 hx ?_⟩
      have : x.cps.toList[i]? = some c := by simpa using hc
      exact List.mem_of_getElem? this
  · show x.cps.size ≤ _
    simp
end

/-! ### for -/
def chkL (ck : Option Nat) (xs : List D) (G : GH) : Prop := ∀ n, ck = some n → G[n]? = some (.lst xs)
open Classical in
noncomputable def forIt (p : Pat) (body : FS) (ck : Option Nat) (all : List D) : List D → Rho → GH → RS
  | [], ρ, G => if chkL ck all G then .nx ρ G else .st
  | x :: r, ρ, G => if chkL ck all G then match setP p x ρ with
      | some ρ1 => match body ρ1 G with
        | .nx ρ' G' => forIt p body ck all r ρ' G'
        | .ct ρ' G' => forIt p body ck all r ρ' G'
        | .bk ρ' G' => .nx ρ' G'
        | z => z
      | none => .st
    else .st
def unlS (l : Option Nat) : RS → RS
  | .nx ρ G => .nx ρ (unlockG l G)
  | .rt d G => .rt d (unlockG l G)
  | .bk ρ G => .bk ρ (unlockG l G)
  | .ct ρ G => .ct ρ (unlockG l G)
  | .er c j ρ G => .er c j ρ (unlockG l G)
  | .st => .st
@[simp] theorem unlS_none (r : RS) : unlS none r = r := by cases r <;> rfl
noncomputable def sFor (f : FE) (p : Pat) (body : FS) : FS := fun ρ G => (f ρ G).toS ρ fun x G1 => match iterD x G1 with
  | some (xs, lk, ck, G2) => unlS lk (forIt p body ck xs xs ρ G2)
  | none => .st
/-- the reading of a loop over the items xs -/
theorem for_read {X : Cx} {xa : XA} {W : WX} {p : Pat} {body : FS} {ck : Option Nat} {all : List D} {l : Lk} {N : Ends} {J : It} {σ : L2.St} {ι1 ι : List Addr} {H1 H : Hp} {ρ : Rho} {G : GH} {σ₀ : L2.St}
    (w : Walks2 X.K ι H ck J all) (c : Cfg X.K xa ι H ρ σ G) (lr : LR X.K X l ι1 H1 ι H) (q : PostS X.K xa W σ₀ ι1 H1 (unlS l.num (forIt p body ck all all ρ G)) N) :
    ∃ Wm : Nat → Nat → L2.St → Hp → Prop, (∃ m, Wm 0 m σ H) ∧ ∀ i m σ H, Wm i m σ H →
      (J.stop i H ∧ (Ends.unl X N).nx σ H) ∨ (J.go i H ∧ ∃ Nx : L2.St → Hp → Prop, (∀ σ' H', Nx σ' H' → ∃ m', m' < m ∧ Wm (i + 1) m' σ' H') ∧ ∀ x H', J.yld i H x H' → tG X.K xa p x σ H' fun σ2 H2 => tS X.K xa (UnW X W) body { Ends.unl X N with nx := Nx, ct := Nx, bk := (Ends.unl X N).nx } σ2 H2) := by
  refine ⟨fun i m σ' H' => ∃ ι' ρ' G', m = all.length - i ∧ i ≤ all.length ∧ Ext X.K ι H ι' H' ∧ Cfg X.K xa ι' H' ρ' σ' G' ∧ PostS X.K xa W σ₀ ι1 H1 (unlS l.num (forIt p body ck all (all.drop i) ρ' G')) N,
    ⟨all.length, ι, ρ, G, by simp, Nat.zero_le _, Ext.refl, c, by simpa using q⟩, ?_⟩
  rintro i m σ' H' ⟨ι', ρ', G', rfl, hi, e, c', q⟩
  by_cases hlt : i < all.length
  · right
    have hd : all.drop i = all[i] :: all.drop (i + 1) := List.drop_eq_getElem_cons hlt
    rw [hd, forIt] at q
    by_cases hc : chkL ck all G'
    · rw [if_pos hc] at q
      obtain ⟨g, y⟩ := w.go i ι' H' G' e c'.rz hc hlt
      refine ⟨g, fun σ2 H2 => ∃ ι2 ρ2 G2, Ext X.K ι H ι2 H2 ∧ Cfg X.K xa ι2 H2 ρ2 σ2 G2 ∧ PostS X.K xa W σ₀ ι1 H1 (unlS l.num (forIt p body ck all (all.drop (i + 1)) ρ2 G2)) N, fun σ2 H2 ⟨ι2, ρ2, G2, e2, c2, q2⟩ => ⟨all.length - (i + 1), by omega, ι2, ρ2, G2, rfl, hlt, e2, c2, q2⟩, fun x H'' hy => ?_⟩
      obtain ⟨rfl, d, hd', hx⟩ := y x H'' hy
      have hd2 : d = all[i] := by
        have : all[i]? = some all[i] := by simp [hlt]
        rw [this] at hd'; exact (Option.some.inj hd').symm
      subst hd2
      refine ⟨ι', ρ', G', all[i], c', hx, ?_⟩
      cases es : setP p all[i] ρ' with
      | none => rw [es] at q; exact False.elim q
      | some ρ1 =>
        rw [es] at q
        dsimp only at q ⊢
        intro σ1 c1 _
        refine ⟨ι', ρ1, G', c1, ?_⟩
        cases eb : body ρ1 G' with
        | nx ρ2 G2 => rw [eb] at q; exact fun ι2 H2 σ2 x2 c2 => ⟨ι2, ρ2, G2, e.trans x2, c2, q⟩
        | ct ρ2 G2 => rw [eb] at q; exact fun ι2 H2 σ2 x2 c2 => ⟨ι2, ρ2, G2, e.trans x2, c2, q⟩
        | bk ρ2 G2 =>
          rw [eb] at q
          exact fun ι2 H2 σ2 x2 c2 => (lr.more (e.trans x2)).cfg c2 fun H3 e3 c3 => q ι2 H3 σ2 e3 c3
        | rt d G2 =>
          rw [eb] at q
          exact fun ι2 H2 v x2 r2 dv => (lr.more (e.trans x2)).fin fun H3 e3 w3 r3 => q ι2 H3 v e3 (r3 r2) (dv.extW w3)
        | er cc j ρ2 G2 =>
          rw [eb] at q
          exact fun ι2 H2 σ2 d x2 c2 hj => (lr.more (e.trans x2)).cfg c2 fun H3 e3 c3 => q ι2 H3 σ2 d e3 c3 hj
        | st => rw [eb] at q; exact False.elim q
    · rw [if_neg hc] at q
      exact False.elim q
  · left
    have e1 : i = all.length := by omega
    subst e1
    rw [List.drop_length, forIt] at q
    by_cases hc : chkL ck all G'
    · rw [if_pos hc] at q
      exact ⟨w.stop ι' H' G' e c'.rz hc, (lr.more e).cfg c' fun H3 e3 c3 => q ι' H3 σ' e3 c3⟩
    · rw [if_neg hc] at q
      exact False.elim q
/-- what is walked, by its value -/
def iIt (X : Cx) (tl : TE) : TI := fun σ H R => tl σ H fun x H1 => (∃ z, x = .str z ∧ R (Its z) H1) ∨ ∃ a, x = .ref a ∧
  (((∃ xs, SqL X.K H1 a xs) ∧ R (Itl X.K a) H1) ∨ ((∃ xs, SqT X.K H1 a xs) ∧ R (Itt X.K a) H1) ∨ (∃ o kvs, H1 a = some (.frz o (.dK kvs)) ∧ R (Itk a o kvs) H1) ∨ (∃ o kvs, H1 a = some (.frz o (.dT kvs)) ∧ R (Itkt a o kvs) H1) ∨
    (∃ kvs, H1 a = some (.dK kvs) ∧ ∀ o, (∀ o' u', X.H_0 a ≠ some (.frz o' u')) → R (Itk a o kvs) (upd H1 a (.frz o (.dK kvs)))) ∨ ∃ kvs, H1 a = some (.dT kvs) ∧ ∀ o, (∀ o' u', X.H_0 a ≠ some (.frz o' u')) → R (Itkt a o kvs) (upd H1 a (.frz o (.dT kvs))))
theorem pi_it {X : Cx} {tg l : Expr} {tl : TE} (hl : PE X l tl) : PI X tg l (iIt X tl) := by
  refine ⟨fun pins s σ H R I h => ?_⟩
  refine thn (hl.run pins s σ H _ I h) fun v s1 ⟨x, H1, I1, r1, q1⟩ => ?_
  rcases q1 with ⟨z, rfl, q⟩ | ⟨a, rfl, q⟩
  · obtain ⟨t, rfl⟩ := r1
    exact it_str I1 q
  · cases r1
    rcases q with ⟨hq, q⟩ | ⟨hq, q⟩ | ⟨o, kvs, hd, q⟩ | ⟨o, kvs, hd, q⟩ | ⟨kvs, hd, q⟩ | ⟨kvs, hd, q⟩
    · exact it_list I1 hq q
    · exact it_tup I1 hq q
    · exact it_keys I1 hd q
    · exact it_keysT I1 hd q
    · obtain ⟨o, I2⟩ := I1.lock hd trivial
      exact it_keys I2 upd_same (q o (I1.nofrz hd trivial))
    · obtain ⟨o, I2⟩ := I1.lock hd trivial
      exact it_keysT I2 upd_same (q o (I1.nofrz hd trivial))
/-- from the value that is walked to the loop: the walk by what stands there -/
theorem iter_read {X : Cx} {ι1 : List Addr} {H1 : Hp} {G1 G2 : GH} {x : D} {v : V} {xs : List D} {lk ck : Option Nat} {R : It → Hp → Prop} (r : Rz X.K ι1 H1 G1) (hx : DV X.K ι1 H1 x v) (e : iterD x G1 = some (xs, lk, ck, G2))
    (k : ∀ (l : Lk) (J : It) (H : Hp), l.num = lk → LR X.K X l ι1 H1 ι1 H → Rz X.K ι1 H G2 → Walks2 X.K ι1 H ck J xs → R J H) :
    (∃ z, v = .str z ∧ R (Its z) H1) ∨ ∃ a, v = .ref a ∧
      (((∃ xs, SqL X.K H1 a xs) ∧ R (Itl X.K a) H1) ∨ ((∃ xs, SqT X.K H1 a xs) ∧ R (Itt X.K a) H1) ∨ (∃ o kvs, H1 a = some (.frz o (.dK kvs)) ∧ R (Itk a o kvs) H1) ∨ (∃ o kvs, H1 a = some (.frz o (.dT kvs)) ∧ R (Itkt a o kvs) H1) ∨
        (∃ kvs, H1 a = some (.dK kvs) ∧ ∀ o, (∀ o' u', X.H_0 a ≠ some (.frz o' u')) → R (Itk a o kvs) (upd H1 a (.frz o (.dK kvs)))) ∨ ∃ kvs, H1 a = some (.dT kvs) ∧ ∀ o, (∀ o' u', X.H_0 a ≠ some (.frz o' u')) → R (Itkt a o kvs) (upd H1 a (.frz o (.dT kvs)))) := by
  cases x with
  | tup ys =>
    cases e
    simp only [DV] at hx
    obtain ⟨a, vs, rfl, q, h⟩ := hx
    exact .inr ⟨a, rfl, .inr (.inl ⟨⟨vs, SqT.of q⟩, k none _ H1 rfl Ext.refl r (w2_tup (SqT.of q) (fun ι' H' e => SqT.of (e.tup _ _ q)) h)⟩)⟩
  | ktup ys =>
    cases e
    simp only [DV] at hx
    obtain ⟨a, vs, rfl, q, h⟩ := hx
    exact .inr ⟨a, rfl, .inr (.inl ⟨⟨vs, .inr q⟩, k none _ H1 rfl Ext.refl r (w2_tup (.inr q) (fun ι' H' e => .inr q) h)⟩)⟩
  | scr ys =>
    cases e
    simp only [DV] at hx
    obtain ⟨a, vs, rfl, q, h⟩ := hx
    exact .inr ⟨a, rfl, .inl ⟨⟨vs, q.sq⟩, k none _ H1 rfl Ext.refl r (w2_frol q h)⟩⟩
  | str z =>
    cases e
    simp only [DV] at hx
    obtain ⟨rfl, hz⟩ := hx
    exact .inl ⟨z, rfl, k none _ H1 rfl Ext.refl r (w2_str hz)⟩
  | ref n =>
    simp only [DV] at hx
    obtain ⟨a, hi, rfl⟩ := hx
    refine .inr ⟨a, rfl, ?_⟩
    simp only [iterD] at e
    cases g : G1[n]? with
    | none => rw [g] at e; cases e
    | some ob =>
      rw [g] at e
      have w := r.at_ n a ob hi g
      cases ob with
      | lst ys =>
        cases e
        obtain ⟨vs, q, h⟩ := w
        exact .inl ⟨⟨vs, SqL.of q⟩, k none _ H1 rfl Ext.refl r (w2_list hi)⟩
      | fK kvs =>
        cases e
        obtain ⟨o, vs, q, h⟩ := w
        exact .inr (.inr (.inl ⟨o, vs, q, k none _ H1 rfl Ext.refl r (w2_keys q h)⟩))
      | fT kvs =>
        cases e
        obtain ⟨o, vs, q, h⟩ := w
        exact .inr (.inr (.inr (.inl ⟨o, vs, q, k none _ H1 rfl Ext.refl r (w2_keysT q h)⟩)))
      | dK kvs =>
        cases e
        obtain ⟨vs, q, h⟩ := w
        refine .inr (.inr (.inr (.inr (.inl ⟨vs, q, fun o no => ?_⟩))))
        obtain ⟨e2, r2⟩ := r.write hi g q wr_dK (u := .frz o (.dK vs)) (o' := .fK kvs) fun e => ⟨o, vs, upd_same, DKs.ext e h⟩
        exact k (some (n, a, o, .dK vs)) _ _ rfl ⟨q, .inl ⟨_, rfl⟩, hi, no, Ext.refl⟩ r2 (w2_keys upd_same (DKs.ext e2 h))
      | dT kvs =>
        cases e
        obtain ⟨vs, q, h⟩ := w
        refine .inr (.inr (.inr (.inr (.inr ⟨vs, q, fun o no => ?_⟩))))
        obtain ⟨e2, r2⟩ := r.write hi g q wr_dT (u := .frz o (.dT vs)) (o' := .fT kvs) fun e => ⟨o, vs, upd_same, DKs.ext e h⟩
        exact k (some (n, a, o, .dT vs)) _ _ rfl ⟨q, .inr ⟨_, rfl⟩, hi, no, Ext.refl⟩ r2 (w2_keysT upd_same (DKs.ext e2 h))
      | fro _ => cases e
      | ins _ _ => cases e
      | xd _ => cases e
  | non => cases e
  | bl b => cases e
  | int b => cases e
theorem Cfg.tuk {K : Frag} {xa : XA} {ι : List Addr} {H H' : Hp} {ρ : Rho} {σ : L2.St} {G G' : GH} (c : Cfg K xa ι H ρ σ G) (x : ExtW K ι H ι H') (r : Rz K ι H' G') : Cfg K xa ι H' ρ σ G' :=
  ⟨⟨c.env.len, fun i d h => let ⟨v, h1, h2⟩ := c.env.at_ i d h; ⟨v, h1, h2.extW x⟩⟩, r, c.xr⟩
theorem LR.extW {K : Frag} {X : Cx} {l : Lk} {ι1 : List Addr} {H1 H : Hp} (h : LR K X l ι1 H1 ι1 H) : Ext K ι1 H1 ι1 H := by
  cases l with
  | none => exact h
  | some p =>
    obtain ⟨n, a, o, u⟩ := p
    obtain ⟨h1, h2, h3, h4, h5⟩ := h
    exact (Ext.wr0 fun z hz => by rw [h1] at hz; cases hz; exact h2.wr).trans h5
section
variable {X : Cx} {xa : XA} {W : WX} {tg iter : Expr} {body : List Stmt} {f : FE} {p : Pat} {b : FS} {pos : Pos}
theorem ds_for (hp : PassesOwn (model X.prog X.w) X.A X.env X.xe) (hc : X.calm = true) (hi : DE X xa W iter f) (hg : DG X xa tg p) (hb : DSs X xa (UnW X W) body b) (hs : ∀ x, foldedSetIterable iter X.env x = pure x := by intro _; rfl) : DS X xa W (.For tg iter body [] pos) (sFor f p b) := by
  refine PSm (ps_unl (ps_for hp hc (pi_it hi) hg hb hs)) fun N σ H ⟨ι, ρ, G, c, q⟩ => ?_
  refine ⟨ι, ρ, G, c, (PostS.bind (rel := DV X.K) c q).mono fun v H1 ⟨ι1, x, G1, e1, c1, d1, p1⟩ => ?_⟩
  cases e : iterD x G1 with
  | none => rw [e] at p1; exact False.elim p1
  | some z =>
    obtain ⟨xs, lk, ck, G2⟩ := z
    rw [e] at p1
    refine iter_read (R := fun J H1 => ∃ Wm : Nat → Nat → L2.St → Hp → Prop, (∃ m, Wm 0 m σ H1) ∧ ∀ i m σ H, Wm i m σ H → (J.stop i H ∧ (Ends.unl X N).nx σ H) ∨ (J.go i H ∧ ∃ Nx : L2.St → Hp → Prop, (∀ σ' H', Nx σ' H' → ∃ m', m' < m ∧ Wm (i + 1) m' σ' H') ∧ ∀ x H', J.yld i H x H' → tG X.K xa p x σ H' fun σ2 H2 => tS X.K xa (UnW X W) b { Ends.unl X N with nx := Nx, ct := Nx, bk := (Ends.unl X N).nx } σ2 H2)) c1.rz d1 e fun l J H2 hl lr r2 w => ?_
    subst hl
    exact for_read w (c1.ext lr.extW r2) lr p1
end
end F2
end
section
namespace F2
open PySem PySem.Spec PyProof.Rows L2

/-! ### range -/
def rngD (lo : Int) (n : Nat) : List D := (List.range n).map fun (k : Nat) => .int (lo + (k : Int))
theorem rngD_get {lo : Int} {n i : Nat} (h : i < n) : (rngD lo n)[i]? = some (.int (lo + i)) := by
  unfold rngD
  rw [List.getElem?_map, List.getElem?_range h]; rfl
theorem w2_rng {K : Frag} {ι : List Addr} {H : Hp} {lo : Int} {n : Nat} : Walks2 K ι H none (Itr lo n) (rngD lo n) := by
  have hl : (rngD lo n).length = n := by simp [rngD]
  refine ⟨fun i ι' H' G' e r c h => ?_, fun ι' H' G' e r c => ?_⟩
  · rw [hl] at h
    exact ⟨h, fun x H'' ⟨e1, e2⟩ => ⟨e1, _, rngD_get h, by subst e2; simp only [DV]⟩⟩
  · show n ≤ _
    omega
/-- what range(..) gives for the arguments -/
def rngA : Nat → List D → Option (List D)
  | 1, [.int j] => if -(2 ^ 62) ≤ j ∧ j < 2 ^ 62 then some (rngD 0 j.toNat) else none
  | 2, [.int i, .int j] => if -(2 ^ 62) ≤ i ∧ i < 2 ^ 62 ∧ -(2 ^ 62) ≤ j ∧ j < 2 ^ 62 then some (rngD i (j - i).toNat) else none
  | _, _ => none
noncomputable def sForR (k : Nat) (f : FA) (p : Pat) (body : FS) : FS := fun ρ G => (f ρ G).toS ρ fun as G1 => match rngA k as with
  | some xs => forIt p body none xs xs ρ G1
  | none => .st
def FTests (f : FT) : FT := f
section
variable {X : Cx} {xa : XA} {W : WX} {tg : Expr} {body : List Stmt} {f : FA} {p : Pat} {b : FS} {pos p0 p1 : Pos}
/-- what a range's reading promises -/
theorem rng1_read {K : Frag} {σ : L2.St} {H : Hp} {vs : List V} {ι : List Addr} {d : List D} {xs : List D} {R : It → Hp → Prop} (hd : DVs K ι H d vs) (e : rngA 1 d = some xs) (k : ∀ J, Walks2 K ι H none J xs → R J H) :
    ∃ j : Int, vs = [.int j] ∧ -(2 ^ 62) ≤ j ∧ j < 2 ^ 62 ∧ R (Itr 0 j.toNat) H := by
  match d, e with
  | [], e => exact absurd e (by simp [rngA])
  | x :: y :: r, e => exact absurd e (by simp [rngA])
  | [x], e =>
    obtain ⟨v, r, rfl, h1, h2⟩ := hd.cons_inv
    rw [h2.nil_inv]
    cases x with
    | int j =>
      simp only [DV] at h1
      subst h1
      simp only [rngA] at e
      split at e
      · rename_i hb
        cases e
        exact ⟨j, rfl, hb.1, hb.2, k _ w2_rng⟩
      · cases e
    | _ => cases e
theorem rng2_read {K : Frag} {σ : L2.St} {H : Hp} {vs : List V} {ι : List Addr} {d : List D} {xs : List D} {R : It → Hp → Prop} (hd : DVs K ι H d vs) (e : rngA 2 d = some xs) (k : ∀ J, Walks2 K ι H none J xs → R J H) :
    ∃ i j : Int, vs = [.int i, .int j] ∧ (-(2 ^ 62) ≤ i ∧ i < 2 ^ 62 ∧ -(2 ^ 62) ≤ j ∧ j < 2 ^ 62) ∧ R (Itr i (j - i).toNat) H := by
  match d, e with
  | [], e => exact absurd e (by simp [rngA])
  | [x], e => exact absurd e (by simp [rngA])
  | x :: y :: z :: r, e => exact absurd e (by simp [rngA])
  | [x, y], e =>
    obtain ⟨v, r, rfl, h1, h2⟩ := hd.cons_inv
    obtain ⟨u, r, rfl, h2, h3⟩ := h2.cons_inv
    rw [h3.nil_inv]
    cases x with
    | int i =>
      cases y with
      | int j =>
        simp only [DV] at h1 h2
        subst h1 h2
        simp only [rngA] at e
        split at e
        · rename_i hb
          cases e
          exact ⟨i, j, rfl, hb, k _ w2_rng⟩
        · cases e
      | _ => cases e
    | _ => cases e
abbrev ForR (X : Cx) (xa : XA) (W : WX) (p : Pat) (b : FS) (N : Ends) (σ : L2.St) : It → Hp → Prop := fun J H1 => ∃ Wm : Nat → Nat → L2.St → Hp → Prop, (∃ m, Wm 0 m σ H1) ∧ ∀ i m σ H, Wm i m σ H → (J.stop i H ∧ (Ends.unl X N).nx σ H) ∨ (J.go i H ∧ ∃ Nx : L2.St → Hp → Prop, (∀ σ' H', Nx σ' H' → ∃ m', m' < m ∧ Wm (i + 1) m' σ' H') ∧ ∀ x H', J.yld i H x H' → tG X.K xa p x σ H' fun σ2 H2 => tS X.K xa (UnW X W) b { Ends.unl X N with nx := Nx, ct := Nx, bk := (Ends.unl X N).nx } σ2 H2)
theorem ds_forR1 {a : Expr} (hp : PassesOwn (model X.prog X.w) X.A X.env X.xe) (hc : X.calm = true) (hgl : Gl X "range") (hm : X.mg "range" = none) (ha : DA X xa W [a] f) (hg : DG X xa tg p) (hb : DSs X xa (UnW X W) body b)
    (hs : starEach [a] X.env = [(false, eval a X.env)] := by rfl) (hfs : ∀ x, foldedSetIterable (.Call (.Name "range" p0) [a] [] p1) X.env x = pure x := by intro _; rfl) : DS X xa W (.For tg (.Call (.Name "range" p0) [a] [] p1) body [] pos) (sForR 1 f p b) := by
  refine PSm (ps_unl (ps_for hp hc (pi_range1 hgl hm ha hs) hg hb hfs)) fun N σ H ⟨ι, ρ, G, c, q⟩ => ?_
  refine ⟨ι, ρ, G, c, ?_⟩
  unfold sForR at q
  refine (PostS.bind (rel := DVs X.K) c q).mono fun vs H1 ⟨ι1, d, G1, e1, c1, d1, p1⟩ => ?_
  cases e : rngA 1 d with
  | none => rw [e] at p1; exact False.elim p1
  | some xs =>
    rw [e] at p1
    exact rng1_read (R := ForR X xa W p b N σ) (σ := σ) d1 e fun J w => for_read (l := none) w c1 Ext.refl (by simpa [Lk.num] using p1)
theorem ds_forR2 {a a2 : Expr} (hp : PassesOwn (model X.prog X.w) X.A X.env X.xe) (hc : X.calm = true) (hgl : Gl X "range") (hm : X.mg "range" = none) (ha : DA X xa W [a, a2] f) (hg : DG X xa tg p) (hb : DSs X xa (UnW X W) body b)
    (hs : starEach [a, a2] X.env = [(false, eval a X.env), (false, eval a2 X.env)] := by rfl) (hs2 : starEach [a2] X.env = [(false, eval a2 X.env)] := by rfl) (hfs : ∀ x, foldedSetIterable (.Call (.Name "range" p0) [a, a2] [] p1) X.env x = pure x := by intro _; rfl) :
    DS X xa W (.For tg (.Call (.Name "range" p0) [a, a2] [] p1) body [] pos) (sForR 2 f p b) := by
  refine PSm (ps_unl (ps_for hp hc (pi_range2 hgl hm ha hs hs2) hg hb hfs)) fun N σ H ⟨ι, ρ, G, c, q⟩ => ?_
  refine ⟨ι, ρ, G, c, ?_⟩
  unfold sForR at q
  refine (PostS.bind (rel := DVs X.K) c q).mono fun vs H1 ⟨ι1, d, G1, e1, c1, d1, p1⟩ => ?_
  cases e : rngA 2 d with
  | none => rw [e] at p1; exact False.elim p1
  | some xs =>
    rw [e] at p1
    exact rng2_read (R := ForR X xa W p b N σ) (σ := σ) d1 e fun J w => for_read (l := none) w c1 Ext.refl (by simpa [Lk.num] using p1)
end

/-! ### while -/
def whl (t : FT) (b : FS) : Nat → FS
  | 0, _, _ => .st
  | n + 1, ρ, G => (t ρ G).toS ρ fun c G1 => if c = true then match b ρ G1 with
    | .nx ρ' G' => whl t b n ρ' G'
    | .ct ρ' G' => whl t b n ρ' G'
    | .bk ρ' G' => .nx ρ' G'
    | z => z
    else .nx ρ G1
open Classical in
noncomputable def sWhile (t : FT) (b : FS) : FS := fun ρ G => if h : ∃ n, whl t b n ρ G ≠ .st then whl t b h.choose ρ G else .st
theorem whl_more (t : FT) (b : FS) : ∀ (n m : Nat) (ρ : Rho) (G : GH), whl t b n ρ G ≠ .st → n ≤ m → whl t b m ρ G = whl t b n ρ G
  | 0, m, ρ, G, h, _ => absurd rfl h
  | n + 1, 0, ρ, G, h, hm => absurd hm (by omega)
  | n + 1, m + 1, ρ, G, h, hm => by
    have hm' : n ≤ m := by omega
    simp only [whl] at h ⊢
    cases z : t ρ G with
    | ok c G1 =>
      rw [z] at h
      simp only [R.toS_ok] at h ⊢
      by_cases hc : c = true
      · rw [if_pos hc] at h ⊢
        rw [if_pos hc]
        cases zb : b ρ G1 with
        | nx ρ' G' => rw [zb] at h; exact whl_more t b n m ρ' G' h hm'
        | ct ρ' G' => rw [zb] at h; exact whl_more t b n m ρ' G' h hm'
        | bk ρ' G' => rfl
        | rt d G' => rfl
        | er cc j ρ' G' => rfl
        | st => rfl
      · rw [if_neg hc, if_neg hc]
    | er cc j G1 => rfl
    | st => rfl
theorem sWhile_eq {t : FT} {b : FS} {ρ : Rho} {G : GH} {r : RS} (n : Nat) (h : whl t b n ρ G = r) (hr : r ≠ .st) : sWhile t b ρ G = r := by
  have hx : ∃ n, whl t b n ρ G ≠ .st := ⟨n, by rw [h]; exact hr⟩
  unfold sWhile
  rw [dif_pos hx]
  have h1 := hx.choose_spec
  rcases Nat.le_total n hx.choose with hl | hl
  · rw [whl_more t b n _ ρ G (by rw [h]; exact hr) hl, h]
  · rw [← whl_more t b _ n ρ G h1 hl, h]
section
variable {X : Cx} {xa : XA} {W : WX} {cnd : Expr} {body : List Stmt} {t : FT} {b : FS} {pos : Pos}
theorem ds_while (hp : PassesOwn (model X.prog X.w) X.A X.env X.xe) (hc : DT X xa W cnd t) (hb : DSs X xa W body b) : DS X xa W (.While cnd body [] pos) (sWhile t b) := by
  refine PSm (ps_while hp hc hb) fun N σ H ⟨ι, ρ, G, c, q⟩ => ?_
  unfold sWhile at q
  split at q
  · rename_i hx
    generalize hx.choose = n at q
    refine ⟨fun m σ' H' => ∃ ι' ρ' G', Ext X.K ι H ι' H' ∧ Cfg X.K xa ι' H' ρ' σ' G' ∧ PostS X.K xa W σ ι' H' (whl t b m ρ' G') N, ⟨n, ι, ρ, G, Ext.refl, c, q⟩, ?_⟩
    rintro m σ1 H1 ⟨ι1, ρ1, G1, e1, c1, q1⟩
    cases m with
    | zero => exact False.elim q1
    | succ m =>
      simp only [whl] at q1
      refine ⟨ι1, ρ1, G1, c1, (PostS.bind (rel := fun _ _ a v => v = a) c1 q1).mono fun v H2 ⟨ι2, x, G2, e2, c2, d2, p2⟩ => ?_⟩
      subst d2
      by_cases hv : v = true
      · rw [if_pos hv] at p2
        rw [if_pos hv]
        refine ⟨fun σ3 H3 => ∃ ι3 ρ3 G3, Ext X.K ι H ι3 H3 ∧ Cfg X.K xa ι3 H3 ρ3 σ3 G3 ∧ PostS X.K xa W σ ι3 H3 (whl t b m ρ3 G3) N, fun σ3 H3 h3 => ⟨m, Nat.lt_succ_self m, h3⟩, ι2, ρ1, G2, c2, ?_⟩
        cases zb : b ρ1 G2 with
        | nx ρ3 G3 => rw [zb] at p2; exact fun ι3 H3 σ3 x3 c3 => ⟨ι3, ρ3, G3, (e1.trans e2).trans x3, c3, PostS.shift (show PostS X.K xa W σ ι2 H2 (whl t b m ρ3 G3) N from p2) x3⟩
        | ct ρ3 G3 => rw [zb] at p2; exact fun ι3 H3 σ3 x3 c3 => ⟨ι3, ρ3, G3, (e1.trans e2).trans x3, c3, PostS.shift (show PostS X.K xa W σ ι2 H2 (whl t b m ρ3 G3) N from p2) x3⟩
        | bk ρ3 G3 => rw [zb] at p2; exact p2
        | rt d G3 => rw [zb] at p2; exact p2
        | er cc j ρ3 G3 => rw [zb] at p2; exact p2
        | st => rw [zb] at p2; exact False.elim p2
      · rw [if_neg hv] at p2
        rw [if_neg hv]
        exact p2 ι2 H2 σ1 Ext.refl c2
  · exact False.elim q
end

/-! ### list comprehensions -/
def wipeD (ρ : Rho) : List Nat → Rho
  | [] => ρ
  | v :: vs => (wipeD ρ vs).set v none
theorem wipe_get (σ : L2.St) : ∀ (vs : List Nat) (i : Nat), (wipe σ vs)[i]? = if i ∈ vs ∧ i < σ.length then some none else σ[i]?
  | [], i => by simp [wipe]
  | v :: vs, i => by
    unfold wipe
    by_cases hi : v = i
    · subst hi
      by_cases hl : v < σ.length
      · rw [List.getElem?_set_self (by rw [wipe_length]; exact hl)]
        simp [hl]
      · rw [List.getElem?_eq_none (by rw [List.length_set, wipe_length]; omega), List.getElem?_eq_none (by omega)]
        simp; omega
    · rw [List.getElem?_set_ne hi, wipe_get σ vs i]
      have : (i ∈ v :: vs ∧ i < σ.length) ↔ (i ∈ vs ∧ i < σ.length) := by
        simp only [List.mem_cons]
        constructor
        · rintro ⟨h | h, l⟩
          · exact absurd h.symm hi
          · exact ⟨h, l⟩
        · rintro ⟨h, l⟩; exact ⟨.inr h, l⟩
      simp only [this]
theorem wipeD_length (ρ : Rho) : ∀ vs : List Nat, (wipeD ρ vs).length = ρ.length
  | [] => rfl
  | v :: vs => by unfold wipeD; rw [List.length_set, wipeD_length ρ vs]
theorem wipeD_some {ρ : Rho} {i : Nat} {x : D} : ∀ {vs : List Nat}, (wipeD ρ vs)[i]? = some (some x) → ρ[i]? = some (some x) ∧ i ∉ vs
  | [], h => ⟨h, by simp⟩
  | v :: vs, h => by
    unfold wipeD at h
    by_cases hi : v = i
    · subst hi
      by_cases hv : v < (wipeD ρ vs).length
      · rw [List.getElem?_set_self hv] at h; cases h
      · rw [List.getElem?_eq_none (by simpa using hv)] at h; cases h
    · rw [List.getElem?_set_ne hi] at h
      obtain ⟨h1, h2⟩ := wipeD_some h
      exact ⟨h1, by simp only [List.mem_cons, not_or]; exact ⟨fun e => hi e.symm, h2⟩⟩
theorem wipe_same {l vs : List Nat} {σ σ' : L2.St} (h : SameOut l (wipe σ vs) σ') (hl : ∀ i ∈ l, i ∈ vs) : wipe σ' vs = wipe σ vs := by
  apply List.ext_getElem?
  intro i
  have hlen : σ'.length = σ.length := by rw [h.1, wipe_length]
  rw [wipe_get, wipe_get, hlen]
  by_cases hi : i ∈ vs
  · by_cases hh : i < σ.length
    · rw [if_pos ⟨hi, hh⟩, if_pos ⟨hi, hh⟩]
    · rw [if_neg (fun z => hh z.2), if_neg (fun z => hh z.2), List.getElem?_eq_none (by omega), List.getElem?_eq_none (by omega)]
  · rw [if_neg (fun z => hi z.1), if_neg (fun z => hi z.1), h.2 i (fun z => hi (hl i z)), wipe_get, if_neg (fun z => hi z.1)]
theorem Cfg.wipe {K : Frag} {xa : XA} {ι : List Addr} {H : Hp} {ρ : Rho} {σ : L2.St} {G : GH} (c : Cfg K xa ι H ρ σ G) (vs : List Nat) : Cfg K none ι H (wipeD ρ vs) (wipe σ vs) G := by
  refine ⟨⟨by rw [wipeD_length, wipe_length]; exact c.env.len, fun i d h => ?_⟩, c.rz, trivial⟩
  obtain ⟨h1, h2⟩ := wipeD_some h
  obtain ⟨v, h3, h4⟩ := c.env.at_ i d h1
  exact ⟨v, by rw [wipe_get, if_neg (fun z => h2 z.1)]; exact h3, h4⟩
def W0 : WX := fun _ _ _ _ => False
/-- no exception leaves a comprehension -/
def noEr {α : Type} : R α → R α
  | .ok a G => .ok a G
  | _ => .st
@[simp] theorem noEr_ok {α : Type} (a : α) (G : GH) : noEr (.ok a G) = .ok a G := rfl
theorem Post.noEr {α β : Type} {K : Frag} {W W' : WX} {σ σ' : L2.St} {ι : List Addr} {H : Hp} {rel : List Addr → Hp → α → β → Prop} {r : R α} {Q : β → Hp → Prop} (p : Post K W σ ι H rel (noEr r) Q) : Post K W' σ' ι H rel r Q := by
  cases r with
  | ok a G => exact p
  | er c j G => exact False.elim p
  | st => exact p
open Classical in
noncomputable def lcIt (p : Pat) (tt : FT) (te : FE) (ck : Option Nat) (all : List D) (n0 : Nat) (ρw : Rho) : List D → GH → R Unit
  | [], G => if chkL ck all G then .ok () G else .st
  | x :: r, G => if chkL ck all G then match setP p x ρw with
    | some ρ1 => (noEr (tt ρ1 G)).bind fun b G1 => if b = true then (noEr (te ρ1 G1)).bind fun d G2 => match G2[n0]? with
        | some (.lst acc) => if acc.length < 16777216 then lcIt p tt te ck all n0 ρw r (G2.set n0 (.lst (acc ++ [d]))) else .st
        | _ => .st
      else lcIt p tt te ck all n0 ρw r G1
    | none => .st
    else .st
noncomputable def lcRun (p : Pat) (tt : FT) (te : FE) (own : List Nat) (ck lk : Option Nat) (xs : List D) (ρ : Rho) (G : GH) : R D :=
  (lcIt p tt te ck xs G.length (wipeD ρ own) xs (G ++ [.lst []])).bind fun _ G3 => .ok (.ref G.length) (unlockG lk G3)
noncomputable def fLc (f : FE) (p : Pat) (tt : FT) (te : FE) (own : List Nat) : FE := fun ρ G => (f ρ G).bind fun x G1 => match iterD x G1 with
  | some (xs, lk, ck, G2) => lcRun p tt te own ck lk xs ρ G2
  | none => .st
noncomputable def fLcR (k : Nat) (f : FA) (p : Pat) (tt : FT) (te : FE) (own : List Nat) : FE := fun ρ G => (f ρ G).bind fun as G1 => match rngA k as with
  | some xs => lcRun p tt te own none none xs ρ G1
  | none => .st
def fYes : FT := fun _ G => .ok true G
theorem lc_loop {X : Cx} {xa : XA} {W : WX} {p : Pat} {tt : FT} {te : FE} {own : List Nat} {ck : Option Nat} {all : List D} {l : Lk} {Q : VK} {J : It} {σ : L2.St} {ι1 ι : List Addr} {H1 H : Hp} {ρ : Rho} {G : GH} {σ₀ : L2.St} {Da : Addr}
    (hsl : ∀ i ∈ p.slots, i ∈ own) (w : Walks2 X.K ι H ck J all) (c : Cfg X.K xa ι H ρ σ G) (lr : LR X.K X l ι1 H1 ι H) (q : PostE X.K W σ₀ ι1 H1 (lcRun p tt te own ck l.num all ρ G) Q) (hD : H Da = none) :
    ∃ Wm : Nat → Nat → Hp → Prop, (∃ m, Wm 0 m (upd H Da (.lst []))) ∧ ∀ i m H, Wm i m H →
      (J.stop i H ∧ UnL X (Q (.ref Da)) H) ∨ (J.go i H ∧ ∃ Nx : Hp → Prop, (∀ H', Nx H' → ∃ m', m' < m ∧ Wm (i + 1) m' H') ∧ ∀ x H', J.yld i H x H' → tG X.K none p x (wipe σ own) H' fun σ2 H2 => wipe σ2 own = wipe σ own ∧ tT X.K none W0 tt σ2 H2 fun b H3 =>
        if b = true then tE X.K none W0 te σ2 H3 fun y H4 => ∃ acc, H4 Da = some (.lst acc) ∧ acc.length < sizeLine ∧ Nx (upd H4 Da (.lst (acc ++ [y]))) else Nx H3) := by
  obtain ⟨e0, r0, hat⟩ := c.rz.new (p := Da) (u := .lst []) (o := .lst []) hD fun e => ⟨[], upd_same, DVs.nil⟩
  have c0 := (c.ext e0 r0).wipe own
  unfold lcRun at q
  refine ⟨fun i m H' => ∃ ι' G', m = all.length - i ∧ i ≤ all.length ∧ Ext X.K (ι ++ [Da]) (upd H Da (.lst [])) ι' H' ∧ Cfg X.K none ι' H' (wipeD ρ own) (wipe σ own) G' ∧ PostE X.K W σ₀ ι1 H1 ((lcIt p tt te ck all G.length (wipeD ρ own) (all.drop i) G').bind fun _ G3 => .ok (.ref G.length) (unlockG l.num G3)) Q,
    ⟨all.length, _, _, by simp, Nat.zero_le _, Ext.refl, c0, by simpa using q⟩, ?_⟩
  rintro i m H' ⟨ι', G', rfl, hi, e, c', q⟩
  have e' : Ext X.K ι H ι' H' := e0.trans e
  have hat' : ι'[G.length]? = some Da := e.at hat
  by_cases hlt : i < all.length
  · right
    have hd : all.drop i = all[i] :: all.drop (i + 1) := List.drop_eq_getElem_cons hlt
    rw [hd, lcIt] at q
    by_cases hc : chkL ck all G'
    · rw [if_pos hc] at q
      obtain ⟨g, y⟩ := w.go i ι' H' G' e' c'.rz hc hlt
      refine ⟨g, fun H2 => ∃ ι2 G2, Ext X.K (ι ++ [Da]) (upd H Da (.lst [])) ι2 H2 ∧ Cfg X.K none ι2 H2 (wipeD ρ own) (wipe σ own) G2 ∧ PostE X.K W σ₀ ι1 H1 ((lcIt p tt te ck all G.length (wipeD ρ own) (all.drop (i + 1)) G2).bind fun _ G3 => .ok (.ref G.length) (unlockG l.num G3)) Q,
        fun H2 ⟨ι2, G2, e2, c2, q2⟩ => ⟨all.length - (i + 1), by omega, ι2, G2, rfl, hlt, e2, c2, q2⟩, fun x H'' hy => ?_⟩
      obtain ⟨rfl, d, hd', hx⟩ := y x H'' hy
      have hd2 : d = all[i] := by
        have : all[i]? = some all[i] := by simp [hlt]
        rw [this] at hd'; exact (Option.some.inj hd').symm
      subst hd2
      refine ⟨ι', wipeD ρ own, G', all[i], c', hx, ?_⟩
      cases es : setP p all[i] (wipeD ρ own) with
      | none => rw [es] at q; exact False.elim q
      | some ρ1 =>
        rw [es] at q
        dsimp only at q ⊢
        intro σ1 c1 so
        refine ⟨wipe_same so hsl, ι', ρ1, G', c1, ?_⟩
        cases et : tt ρ1 G' with
        | ok bb G1 =>
          rw [et] at q
          intro ι3 H3 v e3 r3 dv
          subst dv
          simp only [noEr_ok, R.bind_ok] at q
          by_cases hb : v = true
          · rw [if_pos hb] at q ⊢
            refine ⟨ι3, ρ1, G1, c1.ext e3 r3, ?_⟩
            cases ee : te ρ1 G1 with
            | ok dd G2 =>
              rw [ee] at q
              simp only [noEr_ok, R.bind_ok] at q
              intro ι4 H4 v4 e4 r4 dv4
              have hat4 : ι4[G.length]? = some Da := e4.at (e3.at hat')
              cases eg : G2[G.length]? with
              | none => rw [eg] at q; exact False.elim q
              | some og =>
                rw [eg] at q
                cases og with
                | lst acc =>
                  dsimp only at q
                  by_cases hl : acc.length < 16777216
                  · rw [if_pos hl] at q
                    obtain ⟨vs, qv, hv⟩ := r4.at_ _ _ _ hat4 eg
                    obtain ⟨e5, r5⟩ := r4.relist hat4 eg qv (hv.append (DVs.cons dv4 DVs.nil))
                    refine ⟨vs, qv, by rw [szl, ← hv.length]; exact hl, ι4, _, ((e.trans e3).trans e4).trans e5, ?_, q⟩
                    exact c'.ext ((e3.trans e4).trans e5) r5
                  · rw [if_neg hl] at q; exact False.elim q
                | _ => exact False.elim q
            | er cc j G2 => rw [ee] at q; exact False.elim q
            | st => rw [ee] at q; exact False.elim q
          · rw [if_neg hb] at q ⊢
            exact ⟨ι3, G1, e.trans e3, c'.ext e3 r3, q⟩
        | er cc j G1 => rw [et] at q; exact False.elim q
        | st => rw [et] at q; exact False.elim q
    · rw [if_neg hc] at q
      exact False.elim q
  · left
    have e1 : i = all.length := by omega
    subst e1
    rw [List.drop_length, lcIt] at q
    by_cases hc : chkL ck all G'
    · rw [if_pos hc] at q
      simp only [R.bind_ok] at q
      refine ⟨w.stop ι' H' G' e' c'.rz hc, (lr.more e').fin fun H3 e3 w3 r3 => ?_⟩
      exact q ι' H3 (.ref Da) e3 (r3 c'.rz) (by simp only [DV]; exact ⟨Da, hat', rfl⟩)
    · rw [if_neg hc] at q
      exact False.elim q
section
variable {X : Cx} {xa : XA} {W : WX} {tg iter elt : Expr} {ifs : List Expr} {scope : Scope} {own : List (Str × Nat)} {f : FE} {fa : FA} {p : Pat} {tt : FT} {te : FE} {pos p0 p1 : Pos}
def DTs (X : Cx) (xa : XA) (W : WX) (ifs : List Expr) (f : FT) : Prop := PTs X ifs (tT X.K xa W f)
theorem dts_nil : DTs X xa W [] fYes := ⟨fun pins s σ H Q I ⟨ι, ρ, G, c, q⟩ => pts_nil.run pins s σ H Q I (q.ok Ext.refl c.rz rfl)⟩
theorem dts_one {e : Expr} {t : FT} (h : DT X xa W e t) : DTs X xa W [e] t := pts_one h
abbrev Blk (X : Cx) (s : Shared) (H : Hp) (scope : Scope) (cl : List (Str × Addr)) (C : Addr) (fp : List Addr) : Cx := X.blk s H scope (compEnvC scope cl C X.env) fp
theorem tLc_of {σ : L2.St} {H : Hp} {ι : List Addr} {ρ : Rho} {G : GH} {Q : VK} (hsl : ∀ i ∈ p.slots, i ∈ own.map (·.2)) (c : Cfg X.K xa ι H ρ σ G) (q : PostE X.K W σ ι H (fLc f p tt te (own.map (·.2)) ρ G) Q) :
    tLc (iIt X (tE X.K xa W f)) (tG X.K none p) (tT X.K none W0 tt) (tE X.K none W0 te) (own.map (·.2)) σ H (fun v H' => UnL X (Q v) H') := by
  refine ⟨ι, ρ, G, c, (Post.bind (rel := DV X.K) q).mono fun v H1 ⟨ι1, x, G1, e1, r1, d1, p1⟩ => ?_⟩
  cases e : iterD x G1 with
  | none => rw [e] at p1; exact False.elim p1
  | some z =>
    obtain ⟨xs, lk, ck, G2⟩ := z
    rw [e] at p1
    refine iter_read (R := fun J H1 => ∀ D, H1 D = none → ∃ Wm : Nat → Nat → Hp → Prop, (∃ m, Wm 0 m (upd H1 D (.lst []))) ∧ ∀ i m H, Wm i m H →
      (J.stop i H ∧ UnL X (Q (.ref D)) H) ∨ (J.go i H ∧ ∃ Nx : Hp → Prop, (∀ H', Nx H' → ∃ m', m' < m ∧ Wm (i + 1) m' H') ∧ ∀ x H', J.yld i H x H' → tG X.K none p x (wipe σ (own.map (·.2))) H' fun σ2 H2 => wipe σ2 (own.map (·.2)) = wipe σ (own.map (·.2)) ∧ tT X.K none W0 tt σ2 H2 fun b H3 =>
        if b = true then tE X.K none W0 te σ2 H3 fun y H4 => ∃ acc, H4 D = some (.lst acc) ∧ acc.length < sizeLine ∧ Nx (upd H4 D (.lst (acc ++ [y]))) else Nx H3)) r1 d1 e fun l J H2 hl lr r2 w => ?_
    subst hl
    intro D hD
    exact lc_loop hsl w ((c.ext e1 r1).ext lr.extW r2) lr p1 hD
theorem de_lc (hc : X.calm = true) (hN : X.N.Nodup) (hi : DE X xa W iter f) (ok : BlkOk X.N X.env.scope scope own) (hsl : ∀ i ∈ p.slots, i ∈ own.map (·.2))
    (hg : ∀ (s : Shared) (H : Hp) (C : Addr) (cl : List (Str × Addr)) (fp : List Addr), DG (Blk X s H scope cl C fp) none tg p) (ht : ∀ (s : Shared) (H : Hp) (C : Addr) (cl : List (Str × Addr)) (fp : List Addr), DTs (Blk X s H scope cl C fp) none W0 ifs tt)
    (he : ∀ (s : Shared) (H : Hp) (C : Addr) (cl : List (Str × Addr)) (fp : List Addr), DE (Blk X s H scope cl C fp) none W0 elt te) (hs : ∀ x, foldedSetIterable iter X.env x = pure x := by intro _; rfl) :
    DE X xa W (.ListComp elt [⟨tg, iter, ifs, 0⟩] scope pos) (fLc f p tt te (own.map (·.2))) :=
  PEm (pe_unl (pe_lc (g := tG X.K none p) (tt := tT X.K none W0 tt) (te := tE X.K none W0 te) hc hN (pi_it hi) ok hg ht he hs)) fun σ H Q ⟨ι, ρ, G, c, q⟩ => tLc_of hsl c q
theorem ds_setLc {i : Nat} {y : Str} {py spos : Pos} (hc : X.calm = true) (hN : X.N.Nodup) (hy : X.N[i]? = some y) (hn : XaNo xa i) (hyl : X.env.scope.names.lookup y = some .local)
    (hsw : swapsWith (.ListComp elt [⟨tg, iter, ifs, 0⟩] scope pos) (some (.Name y py)) spos.line X.env = pure true) (hi : DE X xa W iter f) (ok : BlkOk X.N X.env.scope scope own) (hsl : ∀ i ∈ p.slots, i ∈ own.map (·.2))
    (hg : ∀ (s : Shared) (H : Hp) (C : Addr) (cl : List (Str × Addr)) (fp : List Addr), DG (Blk X s H scope cl C fp) none tg p) (ht : ∀ (s : Shared) (H : Hp) (C : Addr) (cl : List (Str × Addr)) (fp : List Addr), DTs (Blk X s H scope cl C fp) none W0 ifs tt)
    (he : ∀ (s : Shared) (H : Hp) (C : Addr) (cl : List (Str × Addr)) (fp : List Addr), DE (Blk X s H scope cl C fp) none W0 elt te) (hs : ∀ x, foldedSetIterable iter X.env x = pure x := by intro _; rfl) :
    DS X xa W (.Assign [.Name y py] (.ListComp elt [⟨tg, iter, ifs, 0⟩] scope pos) spos) (sSet (.nm i) (fLc f p tt te (own.map (·.2)))) := by
  refine PSm (ps_unl (ps_setLc (g := tG X.K none p) (tt := tT X.K none W0 tt) (te := tE X.K none W0 te) hc hN hy hyl hsw (pi_it hi) ok hg ht he hs)) fun N σ H ⟨ι, ρ, G, c, q⟩ => ?_
  have := tLc_of (X := X) (xa := xa) (W := W) (own := own) (f := f) (p := p) (tt := tt) (te := te) (Q := fun x H1 => N.nx (σ.set i (some x)) H1) hsl c ((PostS.bind (rel := DV X.K) c q).mono fun v H1 ⟨ι1, x, G1, e1, c1, d1, p1⟩ =>
    (show PostS X.K xa W σ ι1 H1 (.nx (ρ.set i (some x)) G1) N from p1) ι1 H1 _ Ext.refl (c1.set d1 hn))
  exact this
theorem tLcR_of {σ : L2.St} {H : Hp} {ι : List Addr} {ρ : Rho} {G : GH} {Q : VK} (k : Nat) (hsl : ∀ i ∈ p.slots, i ∈ own.map (·.2)) (c : Cfg X.K xa ι H ρ σ G) (q : PostE X.K W σ ι H (fLcR k fa p tt te (own.map (·.2)) ρ G) Q) :
    PostA X.K W σ ι H (fa ρ G) fun vs H1 => ∃ ι1 d xs, DVs X.K ι1 H1 d vs ∧ rngA k d = some xs ∧ ∀ J, Walks2 X.K ι1 H1 none J xs → ∀ D, H1 D = none → ∃ Wm : Nat → Nat → Hp → Prop, (∃ m, Wm 0 m (upd H1 D (.lst []))) ∧ ∀ i m H, Wm i m H →
      (J.stop i H ∧ UnL X (Q (.ref D)) H) ∨ (J.go i H ∧ ∃ Nx : Hp → Prop, (∀ H', Nx H' → ∃ m', m' < m ∧ Wm (i + 1) m' H') ∧ ∀ x H', J.yld i H x H' → tG X.K none p x (wipe σ (own.map (·.2))) H' fun σ2 H2 => wipe σ2 (own.map (·.2)) = wipe σ (own.map (·.2)) ∧ tT X.K none W0 tt σ2 H2 fun b H3 =>
        if b = true then tE X.K none W0 te σ2 H3 fun y H4 => ∃ acc, H4 D = some (.lst acc) ∧ acc.length < sizeLine ∧ Nx (upd H4 D (.lst (acc ++ [y]))) else Nx H3) := by
  unfold fLcR at q
  refine (Post.bind (rel := DVs X.K) q).mono fun vs H1 ⟨ι1, d, G1, e1, r1, d1, p1⟩ => ?_
  cases e : rngA k d with
  | none => rw [e] at p1; exact False.elim p1
  | some xs =>
    rw [e] at p1
    exact ⟨ι1, d, xs, d1, e, fun J w D hD => lc_loop (l := none) hsl w (c.ext e1 r1) Ext.refl p1 hD⟩
theorem de_lcR1 {a : Expr} (hc : X.calm = true) (hN : X.N.Nodup) (hgl : Gl X "range") (hm : X.mg "range" = none) (ha : DA X xa W [a] fa) (ok : BlkOk X.N X.env.scope scope own) (hsl : ∀ i ∈ p.slots, i ∈ own.map (·.2))
    (hg : ∀ (s : Shared) (H : Hp) (C : Addr) (cl : List (Str × Addr)) (fp : List Addr), DG (Blk X s H scope cl C fp) none tg p) (ht : ∀ (s : Shared) (H : Hp) (C : Addr) (cl : List (Str × Addr)) (fp : List Addr), DTs (Blk X s H scope cl C fp) none W0 ifs tt)
    (he : ∀ (s : Shared) (H : Hp) (C : Addr) (cl : List (Str × Addr)) (fp : List Addr), DE (Blk X s H scope cl C fp) none W0 elt te)
    (hst : starEach [a] X.env = [(false, eval a X.env)] := by rfl) (hs : ∀ x, foldedSetIterable (.Call (.Name "range" p0) [a] [] p1) X.env x = pure x := by intro _; rfl) :
    DE X xa W (.ListComp elt [⟨tg, .Call (.Name "range" p0) [a] [] p1, ifs, 0⟩] scope pos) (fLcR 1 fa p tt te (own.map (·.2))) :=
  PEm (pe_unl (pe_lc (g := tG X.K none p) (tt := tT X.K none W0 tt) (te := tE X.K none W0 te) hc hN (pi_range1 hgl hm ha hst) ok hg ht he hs)) fun σ H Q ⟨ι, ρ, G, c, q⟩ =>
    ⟨ι, ρ, G, c, (tLcR_of 1 hsl c q).mono fun vs H1 ⟨ι1, d, xs, h1, h3, h4⟩ => rng1_read (σ := σ) (R := fun J H1 => ∀ D, H1 D = none → ∃ Wm : Nat → Nat → Hp → Prop, (∃ m, Wm 0 m (upd H1 D (.lst []))) ∧ ∀ i m H, Wm i m H →
      (J.stop i H ∧ UnL X (Q (.ref D)) H) ∨ (J.go i H ∧ ∃ Nx : Hp → Prop, (∀ H', Nx H' → ∃ m', m' < m ∧ Wm (i + 1) m' H') ∧ ∀ x H', J.yld i H x H' → tG X.K none p x (wipe σ (own.map (·.2))) H' fun σ2 H2 => wipe σ2 (own.map (·.2)) = wipe σ (own.map (·.2)) ∧ tT X.K none W0 tt σ2 H2 fun b H3 =>
        if b = true then tE X.K none W0 te σ2 H3 fun y H4 => ∃ acc, H4 D = some (.lst acc) ∧ acc.length < sizeLine ∧ Nx (upd H4 D (.lst (acc ++ [y]))) else Nx H3)) h1 h3 h4⟩
theorem de_lcR2 {a a2 : Expr} (hc : X.calm = true) (hN : X.N.Nodup) (hgl : Gl X "range") (hm : X.mg "range" = none) (ha : DA X xa W [a, a2] fa) (ok : BlkOk X.N X.env.scope scope own) (hsl : ∀ i ∈ p.slots, i ∈ own.map (·.2))
    (hg : ∀ (s : Shared) (H : Hp) (C : Addr) (cl : List (Str × Addr)) (fp : List Addr), DG (Blk X s H scope cl C fp) none tg p) (ht : ∀ (s : Shared) (H : Hp) (C : Addr) (cl : List (Str × Addr)) (fp : List Addr), DTs (Blk X s H scope cl C fp) none W0 ifs tt)
    (he : ∀ (s : Shared) (H : Hp) (C : Addr) (cl : List (Str × Addr)) (fp : List Addr), DE (Blk X s H scope cl C fp) none W0 elt te)
    (hst : starEach [a, a2] X.env = [(false, eval a X.env), (false, eval a2 X.env)] := by rfl) (hst2 : starEach [a2] X.env = [(false, eval a2 X.env)] := by rfl) (hs : ∀ x, foldedSetIterable (.Call (.Name "range" p0) [a, a2] [] p1) X.env x = pure x := by intro _; rfl) :
    DE X xa W (.ListComp elt [⟨tg, .Call (.Name "range" p0) [a, a2] [] p1, ifs, 0⟩] scope pos) (fLcR 2 fa p tt te (own.map (·.2))) :=
  PEm (pe_unl (pe_lc (g := tG X.K none p) (tt := tT X.K none W0 tt) (te := tE X.K none W0 te) hc hN (pi_range2 hgl hm ha hst hst2) ok hg ht he hs)) fun σ H Q ⟨ι, ρ, G, c, q⟩ =>
    ⟨ι, ρ, G, c, (tLcR_of 2 hsl c q).mono fun vs H1 ⟨ι1, d, xs, h1, h3, h4⟩ => rng2_read (σ := σ) (R := fun J H1 => ∀ D, H1 D = none → ∃ Wm : Nat → Nat → Hp → Prop, (∃ m, Wm 0 m (upd H1 D (.lst []))) ∧ ∀ i m H, Wm i m H →
      (J.stop i H ∧ UnL X (Q (.ref D)) H) ∨ (J.go i H ∧ ∃ Nx : Hp → Prop, (∀ H', Nx H' → ∃ m', m' < m ∧ Wm (i + 1) m' H') ∧ ∀ x H', J.yld i H x H' → tG X.K none p x (wipe σ (own.map (·.2))) H' fun σ2 H2 => wipe σ2 (own.map (·.2)) = wipe σ (own.map (·.2)) ∧ tT X.K none W0 tt σ2 H2 fun b H3 =>
        if b = true then tE X.K none W0 te σ2 H3 fun y H4 => ∃ acc, H4 D = some (.lst acc) ∧ acc.length < sizeLine ∧ Nx (upd H4 D (.lst (acc ++ [y]))) else Nx H3)) h1 h3 h4⟩
end
end F2
end
section
namespace F2
open PySem PySem.Spec PyProof.Rows L2

/-! ### what a def promises -/
abbrev FD := List D → GH → R D
def wOf (E : XK) : WX := fun cls d _ H => E cls d H
/-- the promise of a def of n parameters that computes g -/
def SpD (K : Frag) (n : Nat) (g : FD) : Sp := fun vs H Q E => ∃ ι ds G, DVs K ι H ds vs ∧ Rz K ι H G ∧ ds.length = n ∧ PostE K (wOf E) [] ι H (g ds G) Q
/-- a body's run: n slots -/
def runB (n : Nat) (b : FS) : FD := fun ds G => match b (ds.map some ++ List.replicate (n - ds.length) none) G with
  | .nx _ G' => .ok .non G'
  | .rt d G' => .ok d G'
  | .er c j _ G' => .er c j G'
  | _ => .st
theorem EnvR.start {K : Frag} {ι : List Addr} {H : Hp} {N : List Str} {ds : List D} {vs : List V} (h : DVs K ι H ds vs) : EnvR K ι H (ds.map some ++ List.replicate (N.length - ds.length) none) (start N vs) := by
  have hl := h.length
  refine ⟨by simp [L2.start, hl], fun i d e => ?_⟩
  by_cases hi : i < ds.length
  · rw [List.getElem?_append_left (by simpa using hi), List.getElem?_map] at e
    cases z : ds[i]? with
    | none => rw [z] at e; cases e
    | some x =>
      rw [z] at e
      cases e
      obtain ⟨v, h1, h2⟩ := h.get z
      refine ⟨v, ?_, h2⟩
      unfold L2.start
      rw [List.getElem?_append_left (by rw [List.length_map, ← hl]; exact hi), List.getElem?_map, h1]; rfl
  · rw [List.getElem?_append_right (by simpa using hi)] at e
    obtain ⟨h1, h2⟩ := List.getElem?_eq_some_iff.mp e
    simp at h2
/-- THE RULE: a def by its body -/
theorem fn_okD {P : Program} {w : World} {K : Frag} {mg : Str → Option Value} {base : Heap} {k : Nat} {x qual : Str} {params : Arguments} {body : List Stmt} {scope : Scope} {dvs : List V} {kws : List (Str × V)} {f : Addr} {fd : FuncData} {N ps : List Str} {b : FS}
    (F : FunD K x qual params body scope dvs kws f fd) (S : FnScope N ps scope)
    (hbody : ∀ (cdv : Value) (A : Around) (outer : List Env) (s : Shared) (H : Hp) (E : XK), Room k (A.deeper (envOfC qual scope s.heap.objs.size f cdv)) →
      Takes (cxOf (L2.CX P w) P w K mg base N qual scope f cdv A outer s H E) (wOf E) → PassesOwn (model P w) (A.deeper (envOfC qual scope s.heap.objs.size f cdv)) (envOfC qual scope s.heap.objs.size f cdv) (cxOf (L2.CX P w) P w K mg base N qual scope f cdv A outer s H E).xe →
      DSs (cxOf (L2.CX P w) P w K mg base N qual scope f cdv A outer s H E) none (wOf E) body b) :
    FnOk P w K mg base (L2.CX P w) (k + 1) f fd ps (SpD K ps.length (runB N.length b)) := by
  refine F.ok S (fun vs H Q E ⟨ι, ds, G, h1, h2, h3, h4⟩ => by rw [← h1.length]; exact h3) fun cdv A outer s H vs Q E hr ⟨ι, ds, G, h1, h2, h3, h4⟩ => ?_
  refine ⟨_, hbody cdv A outer s H E hr (takes_of rfl rfl rfl rfl) PassesOwn.leaving, ι, _, G, ⟨EnvR.start (N := N) h1, h2, trivial⟩, ?_⟩
  unfold runB at h4
  show PostS K none (wOf E) _ ι H (b (ds.map some ++ List.replicate (N.length - ds.length) none) G) _
  cases z : b (ds.map some ++ List.replicate (N.length - ds.length) none) G with
  | nx ρ G' => rw [z] at h4; exact fun ι' H' σ' e c => h4 ι' H' .non e c.rz (by simp only [DV])
  | rt d G' => rw [z] at h4; exact h4
  | bk ρ G' => rw [z] at h4; exact False.elim h4
  | ct ρ G' => rw [z] at h4; exact False.elim h4
  | er c j ρ G' => rw [z] at h4; exact fun ι' H' σ' d e cf hj => h4 ι' H' d e cf.rz hj
  | st => rw [z] at h4; exact False.elim h4
/-- nothing is promised -/
theorem fn_st {P : Program} {w : World} {K : Frag} {mg : Str → Option Value} {base : Heap} {k : Nat} {x qual : Str} {params : Arguments} {body : List Stmt} {scope : Scope} {dvs : List V} {kws : List (Str × V)} {f : Addr} {fd : FuncData} {ps : List Str}
    (F : FunD K x qual params body scope dvs kws f fd) : FnOk P w K mg base (L2.CX P w) k f fd ps (SpD K ps.length fun _ _ => .st) :=
  ⟨fun vs H Q E ⟨ι, ds, G, h1, h2, h3, h4⟩ => False.elim h4, fun A outer s H args us vs Q E _ _ _ _ ⟨ι, ds, G, h1, h2, h3, h4⟩ => False.elim h4⟩

/-! ### what a callee is -/
/-- values of every heap -/
def Fix (K : Frag) (ds : List D) (vs : List V) : Prop := ∀ ι H, DVs K ι H ds vs
theorem Fix.nil {K : Frag} : Fix K [] [] := fun _ _ => DVs.nil
theorem Fix.atoms {K : Frag} {ds : List D} {vs : List V} (h : atomsV ds = some vs) : Fix K ds vs := fun _ _ => atomsV_dv h
/-- how a call may be bound: the defaults that fill up -/
def Fills (K : Frag) (fd : FuncData) (ps : List Str) (dfl : List D) : Prop := ∃ dvs ds, Fix K dfl dvs ∧ Vals dvs ds ∧ Binds K fd ps ds
theorem Fills.none {K : Frag} {fd : FuncData} {ps : List Str} (h : Binds K fd ps []) : Fills K fd ps [] := ⟨[], [], .nil, .nil, h⟩
/-- a callee: where it is, what it computes; n its parameters -/
structure Cal (P : Program) (w : World) (K : Frag) (mg : Str → Option Value) (base : Heap) (k : Nat) (n : Nat) (dfls : List (List D)) (g : FD) (f : Addr) : Prop where
  ok : ∃ (fd : FuncData) (ps : List Str), ps.length = n ∧ FnOk P w K mg base (L2.CX P w) k f fd ps (SpD K n g) ∧ ∀ dfl ∈ dfls, Fills K fd ps dfl
  kp : PySem.W.keepIn K (.ref f) = true
/-- a call's function: the arguments, the defaults -/
def fCal (n : Nat) (g : FD) (dfl : List D) (t : FA) : FE := fun ρ G => (t ρ G).bind fun xs G1 => if (xs ++ dfl).length = n then g (xs ++ dfl) G1 else .st
def fMethD (C m : Str) (n : Nat) (g : FD) (dfl : List D) (o : FE) (t : FA) : FE := fun ρ G => (o ρ G).bind fun x G1 => match x with
  | .ref i => match G1[i]? with
    | some (.ins c fs) => if c = C ∧ fs.lookup m = none then (t ρ G1).bind fun xs G2 => if (x :: (xs ++ dfl)).length = n then g (x :: (xs ++ dfl)) G2 else .st else .st
    | _ => .st
  | _ => .st
def fMakeD (C : Str) (n : Nat) (g : FD) (dfl : List D) (t : FA) : FE := fun ρ G => (t ρ G).bind fun xs G1 => if (D.ref G1.length :: (xs ++ dfl)).length = n then (g (.ref G1.length :: (xs ++ dfl)) (G1 ++ [.ins C []])).bind fun d G2 => match d with
  | .non => .ok (.ref G1.length) G2
  | _ => .st
  else .st
section
variable {X : Cx} {W : WX} {xa : XA} {k n : Nat} {dfls : List (List D)} {dfl : List D} {g : FD} {f : Addr} {x m C : Str} {p pos apos : Pos} {e o : Expr} {es : List Expr} {t : FA} {fo : FE}
/-- the callee's promise from the caller's -/
theorem SpD.of {K : Frag} {σ : L2.St} {ι : List Addr} {H : Hp} {G : GH} {xs : List D} {vs dvs : List V} {Q : VK} (hx : DVs K ι H xs vs) (hd : Fix K dfl dvs) (r : Rz K ι H G) (q : PostE K W σ ι H (if (xs ++ dfl).length = n then g (xs ++ dfl) G else .st) Q) : SpD K n g (vs ++ dvs) H Q (WE W σ) := by
  by_cases hl : (xs ++ dfl).length = n
  · rw [if_pos hl] at q
    exact ⟨ι, xs ++ dfl, G, hx.append (hd ι H), r, hl, q⟩
  · rw [if_neg hl] at q; exact False.elim q
theorem de_call (c : Cal X.prog X.w X.K X.mg X.base k n dfls g f) (hdf : dfl ∈ dfls) (hr : Room k X.A) (tk : Takes X W) (hm : X.mg x = some (.ref f)) (hg : Gl X x) (ha : DA X xa W (e :: es) t)
    (hdb : (x == ("__debug__" : Str)) = false := by decide) (he : starEach (e :: es) X.env = (false, eval e X.env) :: starEach es X.env := by rfl) (hpl : (backTo pos (starEach es X.env)).any (·.1) = false := by rfl) :
    DE X xa W (.Call (.Name x p) (e :: es) [] pos) (fCal n g dfl t) := by
  obtain ⟨fd, ps, hn, F, hf⟩ := c.ok
  obtain ⟨dvs, ds, h1, h2, h3⟩ := hf dfl hdf
  refine PEm (pe_callSD (E := WE W) F hr hg hm c.kp h3 h2 (passAt tk) ha hdb he hpl) fun σ H Q ⟨ι, ρ, G, cf, q⟩ => ⟨ι, ρ, G, cf, (Post.bind (rel := DVs X.K) q).mono fun vs H1 ⟨ι1, xs, G1, e1, r1, d1, p1⟩ => ?_⟩
  exact SpD.of d1 h1 r1 p1
theorem passes_any (tk : Takes X W) (hW : ∀ c d σ σ' H, W c d σ H → W c d σ' H) (σ : L2.St) : Passes (L2.CX X.prog X.w) X (WE W σ) := passes_call tk fun cls d σ' H h => hW cls d σ σ' H h
/-- a wish that does not see the slots -/
def NoSl (W : WX) : Prop := ∀ c d σ σ' H, W c d σ H → W c d σ' H
theorem NoSl.unw (h : NoSl W) : NoSl (UnW X W) := fun c d σ σ' H q => q.elim (fun q => .inl (h c d σ σ' H q)) fun ⟨a, o, u, e, n, q⟩ => .inr ⟨a, o, u, e, n, h c d σ σ' _ q⟩
theorem NoSl.of (E : XK) : NoSl (wOf E) := fun _ _ _ _ _ h => h
theorem NoSl.w0 : NoSl W0 := fun _ _ _ _ _ h => h
theorem de_call0 (c : Cal X.prog X.w X.K X.mg X.base k n dfls g f) (hdf : dfl ∈ dfls) (hr : Room k X.A) (tk : Takes X W) (hs : NoSl W) (hm : X.mg x = some (.ref f)) (hg : Gl X x) (hdb : (x == ("__debug__" : Str)) = false := by decide) :
    DE X xa W (.Call (.Name x p) [] [] pos) (fCal n g dfl fA0) := by
  obtain ⟨fd, ps, hn, F, hf⟩ := c.ok
  obtain ⟨dvs, ds, h1, h2, h3⟩ := hf dfl hdf
  refine PEm (pe_call0 (E := WE W []) F hr hg hm c.kp h3 h2 (passes_any tk hs []) hdb) fun σ H Q ⟨ι, ρ, G, cf, q⟩ => ?_
  have q' : PostE X.K W [] ι H (fCal n g dfl fA0 ρ G) Q := by
    cases z : fCal n g dfl fA0 ρ G with
    | ok a G' => rw [z] at q; exact q
    | er cc j G' => rw [z] at q; exact fun ι' H' d e r hj => hs _ _ _ _ _ (q ι' H' d e r hj)
    | st => rw [z] at q; exact q
  exact SpD.of (W := W) (σ := []) DVs.nil h1 cf.rz q'
theorem PostE.noSl {K : Frag} {σ σ' : L2.St} {ι : List Addr} {H : Hp} {r : R D} {Q : VK} (hs : NoSl W) (q : PostE K W σ ι H r Q) : PostE K W σ' ι H r Q := by
  cases r with
  | ok a G' => exact q
  | er cc j G' => exact fun ι' H' d e r hj => hs _ _ _ _ _ (q ι' H' d e r hj)
  | st => exact q
/-- o.m(..) -/
theorem meth_read {σ : L2.St} {H : Hp} {Q : VK} {dvs : List V} (hs : NoSl W) (hd : Fix X.K dfl dvs) (q : tE X.K xa W (fMethD C m n g dfl fo t) σ H Q) : tMeth (He.ga X.K C) m (SpD X.K n g) dvs (WE W []) (tE X.K xa W fo) (tA X.K xa W t) σ H Q := by
  obtain ⟨ι, ρ, G, cf, q⟩ := q
  refine ⟨ι, ρ, G, cf, (Post.bind (rel := DV X.K) q).mono fun v H1 ⟨ι1, x, G1, e1, r1, d1, p1⟩ => ?_⟩
  cases x with
  | ref i =>
    dsimp only at p1
    cases z : G1[i]? with
    | none => rw [z] at p1; exact False.elim p1
    | some ob =>
      rw [z] at p1
      cases ob with
      | ins c fs =>
        dsimp only at p1
        split at p1
        · rename_i hc
          obtain ⟨rfl, hl⟩ := hc
          have d1' := d1
          simp only [DV] at d1'
          obtain ⟨a, ha, rfl⟩ := d1'
          obtain ⟨dx, vs, qa, hv⟩ := r1.at_ i a _ ha z
          have hlk : vs.lookup m = none := by
            have := DKs.lookup (f := m) hv
            rw [hl] at this
            exact this
          refine ⟨a, dx, vs, rfl, qa, hlk, ι1, ρ, G1, cf.ext e1 r1, (Post.bind (rel := DVs X.K) p1).mono fun us H2 ⟨ι2, xs, G2, e2, r2, d2, p2⟩ => ?_⟩
          have := SpD.of (dfl := dfl) (n := n) (g := g) (W := W) (σ := []) (xs := .ref i :: xs) (vs := .ref a :: us) (DVs.cons (d1.ext e2) d2) hd r2 (PostE.noSl hs p2)
          exact this
        · exact False.elim p1
      | _ => exact False.elim p1
  | _ => exact False.elim p1
theorem de_meth {pl : Sem Bool} (ho : DE X xa W o fo) (cl : Cls X.K (He.ga X.K C)) (hm : Meth X.K (He.ga X.K C) m f) (c : Cal X.prog X.w X.K X.mg X.base k n dfls g f) (hdf : dfl ∈ dfls) (hr : Room k X.A) (tk : Takes X W) (hs : NoSl W) (ha : DA X xa W (e :: es) t)
    (hst : starEach (e :: es) X.env = (false, eval e X.env) :: starEach es X.env := by rfl) (hpl : (backTo pos (starEach es X.env)).any (·.1) = false := by rfl)
    (ht : eval (.Call (.Attribute o m apos) (e :: es) [] pos) X.env = (do
      let ov ← eval o X.env
      standAt apos.atName
      let (f, first) ← holding [ov] (getMethod ov m pl)
      callWith pos f first (backTo pos (starEach (e :: es) X.env)) (backToKw pos (keywordEach [] X.env))) := by rfl) :
    DE X xa W (.Call (.Attribute o m apos) (e :: es) [] pos) (fMethD C m n g dfl fo t) := by
  obtain ⟨fd, ps, hn, F, hf⟩ := c.ok
  obtain ⟨dvs, ds, h1, h2, h3⟩ := hf dfl hdf
  exact PEm (pe_meth (E := WE W []) ho cl hm F hr h3 h2 (passes_any tk hs []) ha hst hpl ht) fun σ H Q q => meth_read hs h1 q
theorem de_meth0 {pl : Sem Bool} (ho : DE X xa W o fo) (cl : Cls X.K (He.ga X.K C)) (hm : Meth X.K (He.ga X.K C) m f) (c : Cal X.prog X.w X.K X.mg X.base k n dfls g f) (hdf : dfl ∈ dfls) (hr : Room k X.A) (tk : Takes X W) (hs : NoSl W)
    (ht : eval (.Call (.Attribute o m apos) [] [] pos) X.env = (do
      let ov ← eval o X.env
      standAt apos.atName
      let (f, first) ← holding [ov] (getMethod ov m pl)
      callWith pos f first (backTo pos (starEach [] X.env)) (backToKw pos (keywordEach [] X.env))) := by rfl) :
    DE X xa W (.Call (.Attribute o m apos) [] [] pos) (fMethD C m n g dfl fo fA0) := by
  obtain ⟨fd, ps, hn, F, hf⟩ := c.ok
  obtain ⟨dvs, ds, h1, h2, h3⟩ := hf dfl hdf
  refine PEm (pe_meth0 (E := WE W []) ho cl hm F hr h3 h2 (passes_any tk hs []) ht) fun σ H Q q => ?_
  have q2 := meth_read (xa := xa) hs h1 q
  obtain ⟨ι, ρ, G, cf, q3⟩ := q2
  refine ⟨ι, ρ, G, cf, q3.mono fun v H1 ⟨a, dx, fs, e1, e2, e3, ι1, ρ1, G1, cf1, q4⟩ => ⟨a, dx, fs, e1, e2, e3, ?_⟩⟩
  exact q4.ok Ext.refl cf1.rz DVs.nil
/-- C(..) -/
theorem make_read {K : Frag} {σ : L2.St} {ι : List Addr} {H : Hp} {G : GH} {Q : VK} {xs : List D} {vs dvs : List V} (hs : NoSl W) (hx : DVs K ι H xs vs) (hd : Fix K dfl dvs) (r : Rz K ι H G)
    (q : PostE K W σ ι H (if (D.ref G.length :: (xs ++ dfl)).length = n then (g (.ref G.length :: (xs ++ dfl)) (G ++ [.ins C []])).bind fun d G2 => match d with
      | .non => .ok (.ref G.length) G2
      | _ => .st
      else .st) Q) : ∀ x dx, H x = none → H dx = none → dx ≠ x → SpD K n g (.ref x :: (vs ++ dvs)) (upd (upd H dx (.own x)) x (.ins (He.ga K C) dx [])) (fun v H2 => v = .non ∧ Q (.ref x) H2) (WE W []) := by
  intro x dx hx0 hdx hne
  by_cases hl : (D.ref G.length :: (xs ++ dfl)).length = n
  · rw [if_pos hl] at q
    obtain ⟨e1, r1⟩ := r.side (o := .own x) hdx
    have hx1 : (upd H dx (.own x)) x = none := by rw [L2.upd_ne (Ne.symm hne)]; exact hx0
    obtain ⟨e2, r2, hat⟩ := r1.new (u := .ins (He.ga K C) dx []) (o := .ins C []) hx1 fun e => ⟨dx, [], upd_same, .nil⟩
    have e12 := e1.trans e2
    refine ⟨_, _, _, DVs.cons (by simp only [DV]; exact ⟨x, hat, rfl⟩) ((hx.ext e12).append (hd _ _)), r2, hl, ?_⟩
    have q2 := Post.bind (rel := DV K) (PostE.noSl (σ' := []) hs (Post.shift q e12))
    exact q2.mono fun v H3 ⟨ι3, d, G3, e3, r3, d3, p3⟩ => by
      cases d with
      | non =>
        simp only [DV] at d3
        exact ⟨d3, p3.ok Ext.refl r3 (by simp only [DV]; exact ⟨x, e3.at hat, rfl⟩)⟩
      | _ => exact False.elim p3
  · rw [if_neg hl] at q; exact False.elim q
theorem de_make (M : Mk X.K (He.ga X.K C) f) (c : Cal X.prog X.w X.K X.mg X.base k n dfls g f) (hdf : dfl ∈ dfls) (hr : Room (k + 1) X.A) (tk : Takes X W) (hs : NoSl W) (hm : X.mg C = some (.ref (He.ga X.K C))) (hg : Gl X C) (ha : DA X xa W (e :: es) t)
    (hdb : (C == ("__debug__" : Str)) = false := by decide) (he : starEach (e :: es) X.env = (false, eval e X.env) :: starEach es X.env := by rfl) (hpl : (backTo pos (starEach es X.env)).any (·.1) = false := by rfl) :
    DE X xa W (.Call (.Name C p) (e :: es) [] pos) (fMakeD C n g dfl t) := by
  obtain ⟨fd, ps, hn, F, hf⟩ := c.ok
  obtain ⟨dvs, ds, h1, h2, h3⟩ := hf dfl hdf
  refine PEm (pe_make (E := WE W []) M F hr hg hm h3 h2 (passes_any tk hs []) ha hdb he hpl) fun σ H Q ⟨ι, ρ, G, cf, q⟩ => ⟨ι, ρ, G, cf, (Post.bind (rel := DVs X.K) q).mono fun vs H1 ⟨ι1, xs, G1, e1, r1, d1, p1⟩ => ?_⟩
  exact make_read hs d1 h1 r1 p1
theorem de_make0 (M : Mk X.K (He.ga X.K C) f) (c : Cal X.prog X.w X.K X.mg X.base k n dfls g f) (hdf : dfl ∈ dfls) (hr : Room (k + 1) X.A) (tk : Takes X W) (hs : NoSl W) (hm : X.mg C = some (.ref (He.ga X.K C))) (hg : Gl X C)
    (hdb : (C == ("__debug__" : Str)) = false := by decide) : DE X xa W (.Call (.Name C p) [] [] pos) (fMakeD C n g dfl fA0) := by
  obtain ⟨fd, ps, hn, F, hf⟩ := c.ok
  obtain ⟨dvs, ds, h1, h2, h3⟩ := hf dfl hdf
  refine PEm (pe_make0 (E := WE W []) M F hr hg hm h3 h2 (passes_any tk hs []) hdb) fun σ H Q ⟨ι, ρ, G, cf, q⟩ => ?_
  have := (Post.bind (rel := DVs X.K) (r := fA0 ρ G) q)
  exact make_read hs DVs.nil h1 cf.rz q
end
/-- within a comprehension nothing is let out -/
theorem takes0 {X : Cx} : Takes X W0 := fun u s' ⟨_, _, _, _, _, _, _, _, _, _, _, _, _, _, _, _, w⟩ => False.elim w
end F2
end
section
namespace F2
open PySem PySem.Spec PyProof.Rows L2

/-! ### the law's end -/
/-- nothing is let out -/
theorem FnOk.cx0 {P : Program} {w : World} {K : Frag} {mg : Str → Option Value} {base : Heap} {k : Nat} {f : Addr} {fd : FuncData} {ps : List Str} {sp : Sp} (F : FnOk P w K mg base (L2.CX P w) k f fd ps sp) :
    FnOk P w K mg base CX0 k f fd ps (fun vs H Q _ => sp vs H Q fun _ _ _ => False) := by
  refine ⟨fun vs H Q E h => F.len _ _ _ _ h, fun A outer s H args us vs Q E hr e0 hb hv hs => ?_⟩
  refine codeAny_mono (F.run A outer s H args us vs Q _ hr e0 hb hv hs) fun r s' hq => ?_
  cases r with
  | error e =>
    obtain ⟨_, _, _, _, _, _, _, _, _, _, _, _, h⟩ := hq
    exact False.elim h
  | ok fl => cases fl with
    | ret u => exact hq
    | next => exact hq
    | brk => exact hq
    | cont => exact hq
theorem ints_dv {K : Frag} {ι : List Addr} {H : Hp} : ∀ ns : List Int, DVs K ι H (ns.map D.int) (ns.map V.int)
  | [] => DVs.nil
  | n :: ns => DVs.cons (by simp only [DV]) (ints_dv ns)
theorem law_entry {K : Frag} {g : FD} {ns : List Int} (h : ∃ G', g [.scr (ns.map D.int)] [] = .ok (.bl true) G') (H : Hp) (a : Addr) (hO : Only H) (hS : SqL K H a (ns.map V.int)) : SpD K 1 g [.ref a] H (fun v _ => v = .bl true) (fun _ _ _ => False) := by
  obtain ⟨G', h⟩ := h
  have hF : FroL K H a (ns.map V.int) := by
    rcases hS with (q | ⟨o, q⟩) | q
    · rcases hO a with z | ⟨o, xs, z⟩
      · rw [z] at q; cases q
      · rw [z] at q; cases q
    · exact .inl ⟨o, q⟩
    · exact .inr q
  refine ⟨[], [.scr (ns.map D.int)], [], DVs.cons (by simp only [DV]; exact ⟨a, _, rfl, hF, ints_dv ns⟩) DVs.nil, ⟨rfl, fun i j b hi => by simp at hi, fun i b o hi => by simp at hi⟩, rfl, ?_⟩
  rw [h]
  intro ι' H' v _ _ hv
  simpa only [DV] using hv
/-! ### list(d) of a dict -/
def gListD (xs : List D) (G : GH) : R D := match xs with
  | [.ref i] => match G[i]? with
    | some (.dK kvs) => .ok (.ref G.length) (G ++ [.lst (kvs.map fun p => keyV p.1)])
    | some (.fK kvs) => .ok (.ref G.length) (G ++ [.lst (kvs.map fun p => keyV p.1)])
    | _ => gList xs G
  | _ => gList xs G
def rListDD (K : Frag) : List V → Hp → VK → Prop := fun xs H Q => (∃ p ys, xs = [.ref p] ∧ (SqL K H p ys ∨ SqT K H p ys) ∧ ∀ l, H l = none → Q (.ref l) (upd H l (.lst ys))) ∨
  ∃ (a : Addr) (kvs : List (Key × V)), xs = [.ref a] ∧ Rd H a (.dK kvs) ∧ ∀ p, H p = none → Q (.ref p) (upd H p (.lst (kvs.map fun kv => kV kv.1)))
theorem cr_listDD {X : Cx} (hc : X.calm = true) : CallR X (.type "list") (rListDD X.K) := fun pins s σ H vs us Q I r q => q.elim (call_list_of pins s σ H vs us Q I r) (call_listD hc pins s σ H vs us Q I r)
theorem keys_dv {K : Frag} {ι : List Addr} {H : Hp} : ∀ {kvs : List (Key × D)} {vs : List (Key × V)}, DKs K ι H kvs vs → DVs K ι H (kvs.map fun p => keyV p.1) (vs.map fun kv => kV kv.1)
  | _, _, .nil => DVs.nil
  | p :: ks, q :: vs, .cons ⟨h1, h2, h3⟩ t => by
    refine DVs.cons ?_ (keys_dv t)
    show DV K ι H (keyV p.1) (kV q.1)
    rw [← h1]
    exact keyV_dv h3
theorem oa_listDD {K : Frag} : OpA K gListD (rListDD K) := by
  intro W σ ι H G xs vs Q r h p
  unfold gListD at p
  have old : PostE K W σ ι H (gList xs G) Q → rListDD K vs H Q := fun p => .inl (oa_list W σ ι H G xs vs Q r h p)
  split at p
  · rename_i i
    obtain ⟨v, rfl, hx⟩ := h.one
    have hx' := hx
    simp only [DV] at hx'
    obtain ⟨a, hi, rfl⟩ := hx'
    split at p
    · rename_i kvs g
      obtain ⟨ws, q, hv⟩ := r.at_ i a _ hi g
      refine .inr ⟨a, ws, rfl, .inl q, fun l hl => ?_⟩
      obtain ⟨e2, r2, hat⟩ := r.new (u := .lst (ws.map fun kv => kV kv.1)) (o := .lst (kvs.map fun p => keyV p.1)) hl fun e => ⟨_, upd_same, (keys_dv hv).ext e⟩
      exact p.ok e2 r2 (by simp only [DV]; exact ⟨l, hat, rfl⟩)
    · rename_i kvs g
      obtain ⟨o, ws, q, hv⟩ := r.at_ i a _ hi g
      refine .inr ⟨a, ws, rfl, .inr ⟨o, q⟩, fun l hl => ?_⟩
      obtain ⟨e2, r2, hat⟩ := r.new (u := .lst (ws.map fun kv => kV kv.1)) (o := .lst (kvs.map fun p => keyV p.1)) hl fun e => ⟨_, upd_same, (keys_dv hv).ext e⟩
      exact p.ok e2 r2 (by simp only [DV]; exact ⟨l, hat, rfl⟩)
    · exact old p
  · exact old p
end F2
end
section
namespace F2
open PySem PySem.Spec PyProof.Rows L2
/-- a comprehension's block, decided -/
def blkB (N : List Str) (sc scope : Scope) (own : List (Str × Nat)) : Bool :=
  decide (scope.kind = .function) && (scope.names.all fun y => decide (scope.names.lookup y.1 = some y.2)) && (own.all fun p => decide (N[p.2]? = some p.1)) &&
    (scope.names.all fun y => decide (y.2 = .free → sc.names.lookup y.1 = some .cell ∨ sc.names.lookup y.1 = some .free)) && (scope.names.all fun y => decide (y.2 = .local ∨ y.2 = .cell → y.1 ∈ own.map (·.1) ∨ y.1 ∉ N))
theorem blk_of {N : List Str} {sc scope : Scope} {own : List (Str × Nat)} (h : blkB N sc scope own = true) : BlkOk N sc scope own := by
  unfold blkB at h
  simp only [Bool.and_eq_true, List.all_eq_true, decide_eq_true_eq] at h
  obtain ⟨⟨⟨⟨h1, h2⟩, h3⟩, h4⟩, h5⟩ := h
  exact ⟨h1, fun y hy => h2 y hy, fun p hp => h3 p hp, fun y hy => h4 y hy, fun y hy => h5 y hy⟩
end F2
end
section
namespace F2
open PySem PySem.Spec PyProof.Rows L2

/-! ### unfolding: every combinator as it runs -/
section
variable {ρ : Rho} {G : GH}
@[simp] theorem x_fC (d : D) : fC d ρ G = .ok d G := rfl
theorem x_fV (i : Nat) : fV i ρ G = match ρ[i]? with
  | some (some d) => .ok d G
  | _ => .st := rfl
@[simp] theorem x_fV0 (d : D) (r : Rho) : fV 0 (some d :: r) G = .ok d G := rfl
@[simp] theorem x_fVs (i : Nat) (a : Option D) (r : Rho) : fV (i + 1) (a :: r) G = fV i r G := rfl
@[simp] theorem x_fV1 (a : Option D) (d : D) (r : Rho) : fV 1 (a :: some d :: r) G = .ok d G := rfl
@[simp] theorem x_fV2 (a b : Option D) (d : D) (r : Rho) : fV 2 (a :: b :: some d :: r) G = .ok d G := rfl
@[simp] theorem x_fV3 (a b c : Option D) (d : D) (r : Rho) : fV 3 (a :: b :: c :: some d :: r) G = .ok d G := rfl
@[simp] theorem x_fV4 (a b c e : Option D) (d : D) (r : Rho) : fV 4 (a :: b :: c :: e :: some d :: r) G = .ok d G := rfl
@[simp] theorem x_fV5 (a b c e f : Option D) (d : D) (r : Rho) : fV 5 (a :: b :: c :: e :: f :: some d :: r) G = .ok d G := rfl
@[simp] theorem x_fV6 (a b c e f g : Option D) (d : D) (r : Rho) : fV 6 (a :: b :: c :: e :: f :: g :: some d :: r) G = .ok d G := rfl
@[simp] theorem x_fV7 (a b c e f g h : Option D) (d : D) (r : Rho) : fV 7 (a :: b :: c :: e :: f :: g :: h :: some d :: r) G = .ok d G := rfl
@[simp] theorem x_fV8 (a b c e f g h i : Option D) (d : D) (r : Rho) : fV 8 (a :: b :: c :: e :: f :: g :: h :: i :: some d :: r) G = .ok d G := rfl
@[simp] theorem x_fV9 (a b c e f g h i j : Option D) (d : D) (r : Rho) : fV 9 (a :: b :: c :: e :: f :: g :: h :: i :: j :: some d :: r) G = .ok d G := rfl
@[simp] theorem x_fV10 (a b c e f g h i j k : Option D) (d : D) (r : Rho) : fV 10 (a :: b :: c :: e :: f :: g :: h :: i :: j :: k :: some d :: r) G = .ok d G := rfl
@[simp] theorem x_fA0 : fA0 ρ G = .ok [] G := rfl
@[simp] theorem x_fAc (f : FE) (g : FA) : fAc f g ρ G = (f ρ G).bind fun x G1 => (g ρ G1).bind fun xs G2 => .ok (x :: xs) G2 := rfl
@[simp] theorem x_fTup (g : FA) : fTup g ρ G = (g ρ G).bind fun xs G1 => if xs.length ≤ 16777216 then .ok (.tup xs) G1 else .st := rfl
@[simp] theorem x_fLst (g : FA) : fLst g ρ G = (g ρ G).bind fun xs G1 => if xs.length ≤ 16777216 then .ok (.ref G1.length) (G1 ++ [.lst xs]) else .st := rfl
@[simp] theorem x_f1 (g : D → GH → R D) (f : FE) : f1 g f ρ G = (f ρ G).bind fun x G1 => g x G1 := rfl
@[simp] theorem x_f2 (g : D → D → GH → R D) (f h : FE) : f2 g f h ρ G = (f ρ G).bind fun x G1 => (h ρ G1).bind fun y G2 => g x y G2 := rfl
@[simp] theorem x_fB (f : FE) : fB f ρ G = (f ρ G).bind fun x G1 => match x with
  | .bl b => .ok b G1
  | _ => .st := rfl
@[simp] theorem x_fTru (f : FE) : fTru f ρ G = (f ρ G).bind fun x G1 => match truB x G1 with
  | some b => .ok b G1
  | none => .st := rfl
@[simp] theorem x_fNotT (f : FT) : fNotT f ρ G = (f ρ G).bind fun b G1 => .ok (!b) G1 := rfl
@[simp] theorem x_fAndT (f g : FT) : fAndT f g ρ G = (f ρ G).bind fun b G1 => if b = true then g ρ G1 else .ok false G1 := rfl
@[simp] theorem x_fOrT (f g : FT) : fOrT f g ρ G = (f ρ G).bind fun b G1 => if b = true then .ok true G1 else g ρ G1 := rfl
@[simp] theorem x_fAnd (f g : FE) : fAnd f g ρ G = (f ρ G).bind fun x G1 => match truB x G1 with
  | some b => if b = true then g ρ G1 else .ok x G1
  | none => .st := rfl
@[simp] theorem x_fOr (f g : FE) : fOr f g ρ G = (f ρ G).bind fun x G1 => match truB x G1 with
  | some b => if b = true then .ok x G1 else g ρ G1
  | none => .st := rfl
@[simp] theorem x_fNot (f : FE) : fNot f ρ G = (f ρ G).bind fun x G1 => match truB x G1 with
  | some b => .ok (.bl (!b)) G1
  | none => .st := rfl
@[simp] theorem x_fIf (t : FT) (f g : FE) : fIf t f g ρ G = (t ρ G).bind fun b G1 => if b = true then f ρ G1 else g ρ G1 := rfl
@[simp] theorem x_fYes : fYes ρ G = .ok true G := rfl
@[simp] theorem x_fCall (g : List D → GH → R D) (as : FA) : fCall g as ρ G = (as ρ G).bind fun xs G1 => g xs G1 := rfl
@[simp] theorem x_fMeth (T : String) (g : D → List D → GH → R D) (f : FE) (as : FA) : fMeth T g f as ρ G = (f ρ G).bind fun x G1 => if isTyM T x G1 = true then (as ρ G1).bind fun xs G2 => g x xs G2 else .st := rfl
@[simp] theorem x_fO0 : fO0 ρ G = .ok none G := rfl
@[simp] theorem x_fO1 (f : FE) : fO1 f ρ G = (f ρ G).bind fun x G1 => match x with
  | .int i => .ok (some i) G1
  | _ => .st := rfl
@[simp] theorem x_fSl (f : FE) (l h : Rho → GH → R (Option Int)) : fSl f l h ρ G = (f ρ G).bind fun x G1 => (l ρ G1).bind fun lo G2 => (h ρ G2).bind fun hi G3 => gSl x lo hi G3 := rfl
@[simp] theorem x_fD0K : fD0K ρ G = .ok (.ref G.length) (G ++ [.dK []]) := rfl
@[simp] theorem x_fD0T : fD0T ρ G = .ok (.ref G.length) (G ++ [.dT []]) := rfl
@[simp] theorem x_fCal (n : Nat) (g : FD) (dfl : List D) (t : FA) : fCal n g dfl t ρ G = (t ρ G).bind fun xs G1 => if (xs ++ dfl).length = n then g (xs ++ dfl) G1 else .st := rfl
@[simp] theorem x_fMethD (C m : Str) (n : Nat) (g : FD) (dfl : List D) (o : FE) (t : FA) : fMethD C m n g dfl o t ρ G = (o ρ G).bind fun x G1 => match x with
  | .ref i => match G1[i]? with
    | some (.ins c fs) => if c = C ∧ fs.lookup m = none then (t ρ G1).bind fun xs G2 => if (x :: (xs ++ dfl)).length = n then g (x :: (xs ++ dfl)) G2 else .st else .st
    | _ => .st
  | _ => .st := rfl
@[simp] theorem x_fMakeD (C : Str) (n : Nat) (g : FD) (dfl : List D) (t : FA) : fMakeD C n g dfl t ρ G = (t ρ G).bind fun xs G1 => if (D.ref G1.length :: (xs ++ dfl)).length = n then (g (.ref G1.length :: (xs ++ dfl)) (G1 ++ [.ins C []])).bind fun d G2 => match d with
  | .non => .ok (.ref G1.length) G2
  | _ => .st
  else .st := rfl
@[simp] theorem x_fLc (f : FE) (p : Pat) (tt : FT) (te : FE) (own : List Nat) : fLc f p tt te own ρ G = (f ρ G).bind fun x G1 => match iterD x G1 with
  | some (xs, lk, ck, G2) => lcRun p tt te own ck lk xs ρ G2
  | none => .st := rfl
@[simp] theorem x_fLcR (k : Nat) (f : FA) (p : Pat) (tt : FT) (te : FE) (own : List Nat) : fLcR k f p tt te own ρ G = (f ρ G).bind fun as G1 => match rngA k as with
  | some xs => lcRun p tt te own none none xs ρ G1
  | none => .st := rfl
/-! statements -/
@[simp] theorem x_sNil : sNil ρ G = .nx ρ G := rfl
theorem x_sSeq (s t : FS) : sSeq s t ρ G = match s ρ G with
  | .nx ρ' G' => t ρ' G'
  | r => r := rfl
@[simp] theorem x_sNever : sNever ρ G = .st := rfl
@[simp] theorem x_sExpr (f : FE) : sExpr f ρ G = (f ρ G).toS ρ fun _ G1 => .nx ρ G1 := rfl
@[simp] theorem x_sRet (f : FE) : sRet f ρ G = (f ρ G).toS ρ fun d G1 => .rt d G1 := rfl
@[simp] theorem x_sRetN : sRetN ρ G = .rt .non G := rfl
@[simp] theorem x_sIf (t : FT) (a b : FS) : sIf t a b ρ G = (t ρ G).toS ρ fun c G1 => if c = true then a ρ G1 else b ρ G1 := rfl
@[simp] theorem x_sSet (p : Pat) (f : FE) : sSet p f ρ G = (f ρ G).toS ρ fun d G1 => match setP p d ρ with
  | some ρ' => .nx ρ' G1
  | none => .st := rfl
@[simp] theorem x_sBrk : sBrk ρ G = .bk ρ G := rfl
@[simp] theorem x_sCont : sCont ρ G = .ct ρ G := rfl
@[simp] theorem x_sSetIx (o i v : FE) : sSetIx o i v ρ G = (v ρ G).toS ρ fun d G1 => (o ρ G1).toS ρ fun x G2 => (i ρ G2).toS ρ fun y G3 => (gSetIx x y d G3).toS ρ fun _ G4 => .nx ρ G4 := rfl
@[simp] theorem x_sSetFld (C n : Str) (o v : FE) : sSetFld C n o v ρ G = (v ρ G).toS ρ fun d G1 => (o ρ G1).toS ρ fun x G2 => (gSetFld C n x d G2).toS ρ fun _ G3 => .nx ρ G3 := rfl
@[simp] theorem x_sDel (o i : FE) : sDel o i ρ G = (o ρ G).toS ρ fun x G1 => (i ρ G1).toS ρ fun y G2 => (gDel x y G2).toS ρ fun _ G3 => .nx ρ G3 := rfl
theorem x_sFor (f : FE) (p : Pat) (body : FS) : sFor f p body ρ G = (f ρ G).toS ρ fun x G1 => match iterD x G1 with
  | some (xs, lk, ck, G2) => unlS lk (forIt p body ck xs xs ρ G2)
  | none => .st := rfl
theorem x_sForR (k : Nat) (f : FA) (p : Pat) (body : FS) : sForR k f p body ρ G = (f ρ G).toS ρ fun as G1 => match rngA k as with
  | some xs => forIt p body none xs xs ρ G1
  | none => .st := rfl
end
theorem seq_nx {s t : FS} {ρ ρ' : Rho} {G G' : GH} (h : s ρ G = .nx ρ' G') : sSeq s t ρ G = t ρ' G' := by rw [x_sSeq, h]
@[simp] theorem x_runB (n : Nat) (b : FS) (ds : List D) (G : GH) : runB n b ds G = match b (ds.map some ++ List.replicate (n - ds.length) none) G with
  | .nx _ G' => .ok .non G'
  | .rt d G' => .ok d G'
  | .er c j _ G' => .er c j G'
  | _ => .st := rfl
@[simp] theorem x_setP_nm (i : Nat) (d : D) (ρ : Rho) : setP (.nm i) d ρ = some (ρ.set i (some d)) := by simp [setP]
@[simp] theorem x_setP_tu (ps : List Pat) (xs : List D) (ρ : Rho) : setP (.tu ps) (.tup xs) ρ = setPs ps xs ρ := by simp [setP, asTup]
@[simp] theorem x_setP_ktu (ps : List Pat) (xs : List D) (ρ : Rho) : setP (.tu ps) (.ktup xs) ρ = setPs ps xs ρ := by simp [setP, asTup]
@[simp] theorem x_setPs_nil (ρ : Rho) : setPs [] [] ρ = some ρ := by simp [setPs]
@[simp] theorem x_setPs_cons (p : Pat) (ps : List Pat) (x : D) (xs : List D) (ρ : Rho) : setPs (p :: ps) (x :: xs) ρ = match setP p x ρ with
  | some ρ' => setPs ps xs ρ'
  | none => none := by rw [setPs] <;> rfl
/-! ### texts -/
theorem chars_inj : ∀ (l m : List Char), l.map Char.toNat = m.map Char.toNat → l = m
  | [], [], _ => rfl
  | [], _ :: _, h => by simp at h
  | _ :: _, [], h => by simp at h
  | a :: l, b :: m, h => by
    simp only [List.map_cons, List.cons.injEq] at h
    rw [Char.toNat_inj.mp h.1, chars_inj l m h.2]
@[simp] theorem ofString_inj {a b : String} : (Str.ofString a = Str.ofString b) ↔ a = b := by
  constructor
  · intro h
    rw [Str.ofString_eq_toList, Str.ofString_eq_toList] at h
    have h1 := congrArg Str.cps h
    have h2 : a.toList.map Char.toNat = b.toList.map Char.toNat := congrArg Array.toList h1
    apply String.toList_injective
    exact chars_inj _ _ h2
  · intro h; rw [h]
/-! ### operations on what is known -/
@[simp] theorem g_add_int (i j : Int) (G : GH) : gAdd (.int i) (.int j) G = .ok (.int (i + j)) G := rfl
@[simp] theorem g_add_tup (a b : List D) (G : GH) : gAdd (.tup a) (.tup b) G = if a.length + b.length ≤ 16777216 then .ok (.tup (a ++ b)) G else .st := rfl
@[simp] theorem g_sub_int (i j : Int) (G : GH) : gSub (.int i) (.int j) G = .ok (.int (i - j)) G := rfl
theorem g_mul_int {i j : Int} {G : GH} (h : -(2 ^ 64) < j ∧ j < 2 ^ 64) : gMul (.int i) (.int j) G = .ok (.int (i * j)) G := by
  unfold gMul gI
  dsimp only
  rw [if_pos (decide_eq_true (.inr h))]
theorem g_div_int {i j : Int} {G : GH} (h : 0 < j ∧ j < 1073741824) : gDiv (.int i) (.int j) G = .ok (.int (i / j)) G := by
  unfold gDiv gI
  dsimp only
  rw [if_pos (decide_eq_true h)]
theorem g_mod_int {i j : Int} {G : GH} (h : 0 < j) : gMod (.int i) (.int j) G = .ok (.int (i % j)) G := by
  unfold gMod gI
  dsimp only
  rw [if_pos (decide_eq_true h)]
@[simp] theorem g_mul_if (i j : Int) (G : GH) : gMul (.int i) (.int j) G = if (-18446744073709551616 < i ∧ i < 18446744073709551616) ∨ (-18446744073709551616 < j ∧ j < 18446744073709551616) then .ok (.int (i * j)) G else .st := by
  unfold gMul gI
  simp only [decide_eq_true_eq]
  rfl
@[simp] theorem g_div_if (i j : Int) (G : GH) : gDiv (.int i) (.int j) G = if 0 < j ∧ j < 1073741824 then .ok (.int (i / j)) G else .st := by
  unfold gDiv gI
  simp only [decide_eq_true_eq]
@[simp] theorem g_mod_if (i j : Int) (G : GH) : gMod (.int i) (.int j) G = if 0 < j then .ok (.int (i % j)) G else .st := by
  unfold gMod gI
  simp only [decide_eq_true_eq]
@[simp] theorem g_neg_int (i : Int) (G : GH) : gNeg (.int i) G = .ok (.int (-i)) G := rfl
@[simp] theorem g_lt_int (i j : Int) (G : GH) : gLt (.int i) (.int j) G = .ok (.bl (decide (i < j))) G := rfl
@[simp] theorem g_le_int (i j : Int) (G : GH) : gLe (.int i) (.int j) G = .ok (.bl (decide (i ≤ j))) G := rfl
@[simp] theorem g_gt_int (i j : Int) (G : GH) : gGt (.int i) (.int j) G = .ok (.bl (decide (j < i))) G := rfl
@[simp] theorem g_ge_int (i j : Int) (G : GH) : gGe (.int i) (.int j) G = .ok (.bl (decide (j ≤ i))) G := rfl
@[simp] theorem g_eq_int (i j : Int) (G : GH) : gEq (.int i) (.int j) G = .ok (.bl (decide (i = j))) G := rfl
@[simp] theorem g_ne_int (i j : Int) (G : GH) : gNe (.int i) (.int j) G = .ok (.bl (!decide (i = j))) G := rfl
@[simp] theorem g_eq_str (i j : Str) (G : GH) : gEq (.str i) (.str j) G = .ok (.bl (decide (i = j))) G := rfl
@[simp] theorem g_ne_str (i j : Str) (G : GH) : gNe (.str i) (.str j) G = .ok (.bl (!decide (i = j))) G := rfl
@[simp] theorem g_isN (x : D) (G : GH) : gIsN x G = .ok (.bl (isNonD x)) G := rfl
@[simp] theorem g_notN (x : D) (G : GH) : gNotN x G = .ok (.bl (!isNonD x)) G := rfl
@[simp] theorem g_int_int (i : Int) (G : GH) : gInt [.int i] G = .ok (.int i) G := rfl
@[simp] theorem g_int_bl (b : Bool) (G : GH) : gInt [.bl b] G = .ok (.int (if b then 1 else 0)) G := rfl
@[simp] theorem g_abs_int (i : Int) (G : GH) : gAbs [.int i] G = .ok (.int (if i < 0 then -i else i)) G := rfl
@[simp] theorem g_list_scr (xs : List D) (G : GH) : gListD [.scr xs] G = .ok (.ref G.length) (G ++ [.lst xs]) := rfl
theorem g_list_dK {n : Nat} {kvs : List (Key × D)} {G : GH} (h : G[n]? = some (.dK kvs)) : gListD [.ref n] G = .ok (.ref G.length) (G ++ [.lst (kvs.map fun p => keyV p.1)]) := by
  unfold gListD
  dsimp only
  rw [h]
@[simp] theorem g_len_tup (xs : List D) (G : GH) : gLen [.tup xs] G = .ok (.int xs.length) G := rfl
@[simp] theorem g_len_scr (xs : List D) (G : GH) : gLen [.scr xs] G = .ok (.int xs.length) G := rfl
@[simp] theorem g_tuple_tup (xs : List D) (G : GH) : gTuple [.tup xs] G = .ok (.tup xs) G := rfl
@[simp] theorem g_ix_tup (xs : List D) (i : Int) (G : GH) : gIx (.tup xs) (.int i) G = match atI xs i with
  | some d => .ok d G
  | none => .st := rfl
@[simp] theorem g_ix_ktup (xs : List D) (i : Int) (G : GH) : gIx (.ktup xs) (.int i) G = match atI xs i with
  | some d => .ok d G
  | none => .st := rfl
@[simp] theorem g_ix_scr (xs : List D) (i : Int) (G : GH) : gIx (.scr xs) (.int i) G = match atI xs i with
  | some d => .ok d G
  | none => .st := rfl
theorem g_ix_lst {n : Nat} {xs : List D} {i : Int} {G : GH} (h : G[n]? = some (.lst xs)) : gIx (.ref n) (.int i) G = match atI xs i with
  | some d => .ok d G
  | none => .st := by
  unfold gIx itemsD
  dsimp only
  rw [h] <;> rfl
theorem g_len_lst {n : Nat} {xs : List D} {G : GH} (h : G[n]? = some (.lst xs)) : gLen [.ref n] G = .ok (.int xs.length) G := by
  unfold gLen lenB
  dsimp only
  rw [h]
theorem g_tuple_lst {n : Nat} {xs : List D} {G : GH} (h : G[n]? = some (.lst xs)) : gTuple [.ref n] G = .ok (.tup xs) G := by
  unfold gTuple itemsD
  dsimp only
  rw [h]
theorem g_list_lst {n : Nat} {xs : List D} {G : GH} (h : G[n]? = some (.lst xs)) : gListD [.ref n] G = .ok (.ref G.length) (G ++ [.lst xs]) := by
  unfold gListD gList itemsD
  dsimp only
  rw [h]
theorem g_add_lst {n m : Nat} {xs ys : List D} {G : GH} (h : G[n]? = some (.lst xs)) (h2 : G[m]? = some (.lst ys)) (hl : xs.length + ys.length ≤ 16777216) : gAdd (.ref n) (.ref m) G = .ok (.ref G.length) (G ++ [.lst (xs ++ ys)]) := by
  unfold gAdd
  dsimp only
  rw [h, h2]
  dsimp only
  rw [if_pos hl]
theorem g_sl_lst {n : Nat} {xs : List D} {lo hi : Option Int} {G : GH} (h : G[n]? = some (.lst xs)) : gSl (.ref n) lo hi G = .ok (.ref G.length) (G ++ [.lst (cutG xs lo hi)]) := by
  unfold gSl itemsD
  dsimp only
  rw [h]
theorem g_setix_lst {n : Nat} {xs : List D} {i : Int} {v : D} {G : GH} (h : G[n]? = some (.lst xs)) : gSetIx (.ref n) (.int i) v G = match ixN xs.length i with
  | some j => .ok () (G.set n (.lst (xs.set j v)))
  | none => .st := by
  unfold gSetIx
  dsimp only
  rw [h] <;> rfl
theorem g_append {n : Nat} {xs : List D} {v : D} {G : GH} (h : G[n]? = some (.lst xs)) (hl : xs.length < 16777216) : gAppend (.ref n) [v] G = .ok .non (G.set n (.lst (xs ++ [v]))) := by
  unfold gAppend
  dsimp only
  rw [h]
  dsimp only
  rw [if_pos hl]
theorem isTyM_lst {n : Nat} {xs : List D} {G : GH} (h : G[n]? = some (.lst xs)) : isTyM "list" (.ref n) G = true := by
  unfold isTyM
  dsimp only
  rw [h]
  rfl
@[simp] theorem atI_0 {α : Type} (x : α) (xs : List α) : atI (x :: xs) 0 = some x := by
  unfold atI ixN
  rw [if_pos (by omega), if_pos (by simp <;> omega)]; rfl
@[simp] theorem atI_1 {α : Type} (x y : α) (xs : List α) : atI (x :: y :: xs) 1 = some y := by
  unfold atI ixN
  rw [if_pos (by omega), if_pos (by simp <;> omega)]; rfl
@[simp] theorem atI_2 {α : Type} (x y z : α) (xs : List α) : atI (x :: y :: z :: xs) 2 = some z := by
  unfold atI ixN
  rw [if_pos (by omega), if_pos (by simp <;> omega)]; rfl
@[simp] theorem atI_3 {α : Type} (x y z w : α) (xs : List α) : atI (x :: y :: z :: w :: xs) 3 = some w := by
  unfold atI ixN
  rw [if_pos (by omega), if_pos (by simp <;> omega)]; rfl
theorem atI_nat {α : Type} {xs : List α} {i : Int} (h0 : 0 ≤ i) (h1 : i < xs.length) : atI xs i = xs[i.toNat]? := by
  unfold atI ixN
  rw [if_pos h0, if_pos h1]; rfl
theorem atI_mem {α : Type} {xs : List α} {i : Int} (h0 : 0 ≤ i) (h1 : i < xs.length) : ∃ d, atI xs i = some d ∧ d ∈ xs := by
  have h2 : i.toNat < xs.length := by omega
  exact ⟨xs[i.toNat], by rw [atI_nat h0 h1]; simp [h2], List.getElem_mem h2⟩
/-! ### plain trees: equal to themselves -/
def plB : Nat → D → Bool
  | 0, _ => false
  | _ + 1, .non => true
  | _ + 1, .bl _ => true
  | _ + 1, .int _ => true
  | _ + 1, .str _ => true
  | n + 1, .tup xs => xs.all (plB n)
  | _ + 1, _ => false
theorem pys_pl {f : D → Option PyData} : ∀ {xs : List D}, (∀ x ∈ xs, ∃ p, f x = some p ∧ p.plain = true) → ∃ ps, pys f xs = some ps ∧ PyData.plainAll ps = true
  | [], _ => ⟨[], rfl, rfl⟩
  | x :: xs, h => by
    obtain ⟨p, h1, h2⟩ := h x (List.mem_cons_self ..)
    obtain ⟨ps, h3, h4⟩ := pys_pl (xs := xs) fun y hy => h y (List.mem_cons_of_mem _ hy)
    exact ⟨p :: ps, by simp only [pys, h1, h3], by rw [PyData.plainAll, h2, h4]; rfl⟩
theorem py_pl (G : GH) : ∀ (n : Nat) (d : D), plB n d = true → ∃ p, py G n d = some p ∧ p.plain = true
  | 0, _, h => by cases h
  | n + 1, .non, _ => ⟨.none, by simp only [py], rfl⟩
  | n + 1, .bl b, _ => ⟨.bool b, by simp only [py], rfl⟩
  | n + 1, .int i, _ => ⟨.int i, by simp only [py], rfl⟩
  | n + 1, .str x, _ => ⟨.str x, by simp only [py], rfl⟩
  | n + 1, .tup xs, h => by
    have h' : xs.all (plB n) = true := h
    obtain ⟨ps, h1, h2⟩ := pys_pl (f := py G n) (xs := xs) fun x hx => py_pl G n x (List.all_eq_true.mp h' x hx)
    exact ⟨.tuple ps, by simp only [py, h1, Option.map_some], by rw [PyData.plain]; exact h2⟩
theorem plB_mono : ∀ {n m : Nat} {d : D}, n ≤ m → plB n d = true → plB m d = true
  | 0, _, _, _, h => by cases h
  | n + 1, 0, _, hm, _ => absurd hm (by omega)
  | n + 1, m + 1, .tup xs, hm, h => by
    have h' : xs.all (plB n) = true := h
    show xs.all (plB m) = true
    rw [List.all_eq_true] at h' ⊢
    exact fun x hx => plB_mono (by omega) (h' x hx)
  | n + 1, m + 1, .non, _, _ => rfl
  | n + 1, m + 1, .bl _, _, _ => rfl
  | n + 1, m + 1, .int _, _, _ => rfl
  | n + 1, m + 1, .str _, _, _ => rfl
theorem eqv_self {p : PyData} (h : p.plain = true) : PyData.eqv p p = true := PySem.SeqAt.eqv_refl_plain p h
theorem eqDeep_self {d : D} {G : GH} (h : plB 64 d = true) : eqDeep d d G = some true := by
  obtain ⟨p, h1, h2⟩ := py_pl G 64 d h
  unfold eqDeep
  rw [h1]
  dsimp only
  rw [eqv_self h2]
theorem eqB_self {d : D} {G : GH} (h : plB 64 d = true) : eqB d d G = some true := by
  cases d with
  | int i => simp [eqB]
  | str i => simp [eqB]
  | bl i => simp [eqB]
  | ref i => cases h
  | non => exact eqDeep_self (d := .non) (G := G) h
  | tup xs => exact eqDeep_self (d := .tup xs) (G := G) h
  | ktup xs => cases h
  | scr xs => cases h
theorem g_eq_self {d : D} {G : GH} (h : plB 64 d = true) : gEq d d G = .ok (.bl true) G := by
  unfold gEq; rw [eqB_self h]; rfl
theorem g_ne_self {d : D} {G : GH} (h : plB 64 d = true) : gNe d d G = .ok (.bl false) G := by
  unfold gNe; rw [eqB_self h]; rfl
@[simp] theorem g_isi_tup (xs : List D) (G : GH) : gIsi "tuple" (.tup xs) G = .ok (.bl true) G := rfl
@[simp] theorem tru_bl (b : Bool) (G : GH) : truB (.bl b) G = some b := rfl
/-! ### loops -/
theorem forIt_inv {p : Pat} {body : FS} {ck : Option Nat} {all : List D} (I : List D → Rho → GH → Prop)
    (end_ : ∀ ρ G, I [] ρ G → chkL ck all G)
    (step : ∀ x r ρ G, I (x :: r) ρ G → chkL ck all G ∧ ∃ ρ1, setP p x ρ = some ρ1 ∧ ∃ ρ' G', (body ρ1 G = .nx ρ' G' ∨ body ρ1 G = .ct ρ' G') ∧ I r ρ' G') :
    ∀ (xs : List D) (ρ : Rho) (G : GH), I xs ρ G → ∃ ρ' G', forIt p body ck all xs ρ G = .nx ρ' G' ∧ I [] ρ' G'
  | [], ρ, G, h => ⟨ρ, G, by rw [forIt, if_pos (end_ ρ G h)], h⟩
  | x :: r, ρ, G, h => by
    obtain ⟨h1, ρ1, h2, ρ', G', h3, h4⟩ := step x r ρ G h
    obtain ⟨ρ2, G2, h5, h6⟩ := forIt_inv I end_ step r ρ' G' h4
    refine ⟨ρ2, G2, ?_, h6⟩
    rw [forIt, if_pos h1, h2]
    dsimp only
    rcases h3 with e | e
    · rw [e]; exact h5
    · rw [e]; exact h5
/-- .. by the turn -/
theorem forIt_idx {p : Pat} {body : FS} {ck : Option Nat} {all : List D} (I : Nat → Rho → GH → Prop) (hck : ∀ i ρ G, I i ρ G → chkL ck all G)
    (step : ∀ (i : Nat) (h : i < all.length) ρ G, I i ρ G → ∃ ρ1, setP p all[i] ρ = some ρ1 ∧ ∃ ρ' G', (body ρ1 G = .nx ρ' G' ∨ body ρ1 G = .ct ρ' G') ∧ I (i + 1) ρ' G') {ρ : Rho} {G : GH} (h0 : I 0 ρ G) :
    ∃ ρ' G', forIt p body ck all all ρ G = .nx ρ' G' ∧ I all.length ρ' G' := by
  obtain ⟨ρ', G', e, i, h1, h2, h3⟩ := forIt_inv (p := p) (body := body) (ck := ck) (all := all) (fun xs ρ G => ∃ i, xs = all.drop i ∧ i ≤ all.length ∧ I i ρ G) (fun ρ G ⟨i, _, _, h⟩ => hck i ρ G h)
    (fun x r ρ G ⟨i, h1, h2, h3⟩ => by
      have hlt : i < all.length := by
        rcases Nat.lt_or_ge i all.length with h | h
        · exact h
        · rw [List.drop_eq_nil_of_le h] at h1; cases h1
      rw [List.drop_eq_getElem_cons hlt] at h1
      simp only [List.cons.injEq] at h1
      obtain ⟨rfl, rfl⟩ := h1
      obtain ⟨ρ1, a1, ρ', G', a2, a3⟩ := step i hlt ρ G h3
      exact ⟨hck i ρ G h3, ρ1, a1, ρ', G', a2, i + 1, rfl, hlt, a3⟩) all ρ G ⟨0, rfl, Nat.zero_le _, h0⟩
  have hi : i = all.length := by
    have : (all.drop i).length = 0 := by rw [← h1]; rfl
    rw [List.length_drop] at this
    omega
  subst hi
  exact ⟨ρ', G', e, h3⟩
theorem chkL_none {xs : List D} {G : GH} : chkL none xs G := fun _ h => nomatch h
/-- a comprehension that maps -/
theorem lcIt_map {p : Pat} {te : FE} {ck : Option Nat} {all : List D} {ρw : Rho} {A : GH} {f : D → D} (hck : ∀ n, ck = some n → A[n]? = some (.lst all)) :
    ∀ (xs : List D) (acc : List D) (B : GH), acc.length + xs.length ≤ 16777216 →
      (∀ x ∈ xs, ∃ ρ1, setP p x ρw = some ρ1 ∧ ∀ acc B, ∃ B', te ρ1 (A ++ .lst acc :: B) = .ok (f x) (A ++ .lst acc :: B')) →
      ∃ B', lcIt p fYes te ck all A.length ρw xs (A ++ .lst acc :: B) = .ok () (A ++ .lst (acc ++ xs.map f) :: B')
  | [], acc, B, hl, hx => ⟨B, by
      rw [lcIt, if_pos, List.map_nil, List.append_nil]
      intro n hn
      have := hck n hn
      rw [List.getElem?_append_left (List.getElem?_eq_some_iff.mp this).1]; exact this⟩
  | x :: xs, acc, B, hl, hx => by
    obtain ⟨ρ1, h1, h2⟩ := hx x (List.mem_cons_self ..)
    obtain ⟨B1, h3⟩ := h2 acc B
    obtain ⟨B2, h4⟩ := lcIt_map hck xs (acc ++ [f x]) B1 (by simp at hl ⊢; omega) fun y hy => hx y (List.mem_cons_of_mem _ hy)
    refine ⟨B2, ?_⟩
    rw [lcIt, if_pos]
    · rw [h1]
      dsimp only
      rw [x_fYes]
      simp only [noEr_ok, R.bind_ok, if_true]
      rw [h3]
      simp only [noEr_ok, R.bind_ok]
      rw [List.getElem?_append_right (Nat.le_refl _), Nat.sub_self, List.getElem?_cons_zero]
      dsimp only
      rw [if_pos (by simp at hl; omega)]
      have : (A ++ GO.lst acc :: B1).set A.length (.lst (acc ++ [f x])) = A ++ .lst (acc ++ [f x]) :: B1 := by
        rw [List.set_append_right _ _ (Nat.le_refl _), Nat.sub_self]; rfl
      rw [this, h4]
      simp
    · intro n hn
      have := hck n hn
      rw [List.getElem?_append_left (List.getElem?_eq_some_iff.mp this).1]; exact this
theorem lcRun_map {p : Pat} {te : FE} {ck : Option Nat} {lk : Option Nat} {own : List Nat} {xs : List D} {ρ : Rho} {A : GH} {f : D → D} (hck : ∀ n, ck = some n → A[n]? = some (.lst xs)) (hl : xs.length ≤ 16777216)
    (hx : ∀ x ∈ xs, ∃ ρ1, setP p x (wipeD ρ own) = some ρ1 ∧ ∀ acc B, ∃ B', te ρ1 (A ++ .lst acc :: B) = .ok (f x) (A ++ .lst acc :: B')) :
    ∃ B', lcRun p fYes te own ck lk xs ρ A = .ok (.ref A.length) (unlockG lk (A ++ .lst (xs.map f) :: B')) := by
  obtain ⟨B', h⟩ := lcIt_map (ρw := wipeD ρ own) (te := te) (p := p) hck xs [] [] (by simpa using hl) hx
  refine ⟨B', ?_⟩
  unfold lcRun
  rw [h]
  simp
/-! ### dicts of keys -/
theorem valD_nil {κ : Type} [DecidableEq κ] (k : κ) : valD ([] : List (κ × D)) k = none := rfl
theorem valD_cons {κ : Type} [DecidableEq κ] (p : κ × D) (l : List (κ × D)) (k : κ) : valD (p :: l) k = if p.1 = k then some p.2 else valD l k := by
  unfold valD
  rw [List.find?_cons]
  by_cases h : p.1 = k
  · simp [h]
  · simp [h]
theorem valD_get {κ : Type} [DecidableEq κ] : ∀ {l : List (κ × D)} {i : Nat} {k : κ} {d : D}, (l.map (·.1)).Nodup → l[i]? = some (k, d) → valD l k = some d
  | [], _, _, _, _, h => by simp at h
  | p :: l, 0, k, d, _, h => by
    simp at h; subst h
    rw [valD_cons, if_pos rfl]
  | p :: l, i + 1, k, d, nd, h => by
    have nd' := List.nodup_cons.mp (show (p.1 :: l.map (·.1)).Nodup from nd)
    have h' : l[i]? = some (k, d) := by simpa using h
    have hk : k ∈ l.map (·.1) := List.mem_map.mpr ⟨(k, d), List.mem_of_getElem? h', rfl⟩
    rw [valD_cons, if_neg (fun e => nd'.1 (by rw [e]; exact hk))]
    exact valD_get nd'.2 h'
theorem putKD_new {κ : Type} [DecidableEq κ] {l : List (κ × D)} {k : κ} {v : D} (h : k ∉ l.map (·.1)) : putKD l k v = l ++ [(k, v)] := by
  unfold putKD
  rw [if_neg]
  simp only [List.any_eq_true, not_exists, not_and, decide_eq_true_eq]
  intro p hp e
  exact h (List.mem_map.mpr ⟨p, hp, e⟩)
theorem g_setix_dK {n : Nat} {kvs : List (Key × D)} {i v : D} {k : Key} {G : GH} (h : G[n]? = some (.dK kvs)) (hk : keyD i = some k) (hl : kvs.length < 16777216) : gSetIx (.ref n) i v G = .ok () (G.set n (.dK (putKD kvs k v))) := by
  unfold gSetIx
  dsimp only
  rw [h]
  dsimp only
  rw [hk]
  dsimp only
  rw [if_pos hl]
theorem g_ix_dK {n : Nat} {kvs : List (Key × D)} {i d : D} {k : Key} {G : GH} (h : G[n]? = some (.dK kvs) ∨ G[n]? = some (.fK kvs)) (hk : keyD i = some k) (hv : valD kvs k = some d) : gIx (.ref n) i G = .ok d G := by
  have e1 : itemsD G (.ref n) = none := by
    unfold itemsD
    dsimp only
    rcases h with h | h <;> rw [h]
  have e2 : askD G n i = some (some d) := by
    unfold askD
    rcases h with h | h <;> rw [h] <;> dsimp only <;> rw [hk, Option.map_some, hv]
  have e3 : gIx (.ref n) i G = match itemsD G (.ref n) with
    | some xs => (match i with
      | .int i => (match atI xs i with
        | some d => .ok d G
        | none => .st)
      | _ => .st)
    | none => (match askD G n i with
      | some (some d) => .ok d G
      | _ => .st) := by cases i <;> rfl
  rw [e3, e1, e2]
@[simp] theorem keyD_keyV (k : Key) : keyD (keyV k) = some k := by cases k <;> rfl
theorem iter_dK {n : Nat} {kvs : List (Key × D)} {G : GH} (h : G[n]? = some (.dK kvs)) : iterD (.ref n) G = some (kvs.map (fun p => keyV p.1), some n, none, G.set n (.fK kvs)) := by
  unfold iterD
  dsimp only
  rw [h]
theorem iter_lst {n : Nat} {xs : List D} {G : GH} (h : G[n]? = some (.lst xs)) : iterD (.ref n) G = some (xs, none, some n, G) := by
  unfold iterD
  dsimp only
  rw [h]
@[simp] theorem iter_tup (xs : List D) (G : GH) : iterD (.tup xs) G = some (xs, none, none, G) := rfl
end F2
end
section
namespace F2
open PySem PySem.Spec PyProof.Rows L2

/-! ### an own exception whose __init__ begins with super().__init__(e) -/
/-- the context of such a def's body -/
def cxS (P : Program) (w : World) (K : Frag) (mg : Str → Option Value) (base : Heap) (N : List Str) (qual : Str) (scope : Scope) (f : Addr) (cda cc : Addr) (A : Around) (outer : List Env) (s : Shared) (H : Hp) (E : XK) : Cx where
  prog := P
  w := w
  K := K
  mg := mg
  base := base
  A := A.deeper (PySem.W.ksEnv qual scope s.heap.objs.size f (.ref cda) cc)
  N := N
  s_0 := s
  H_0 := H
  env := PySem.W.ksEnv qual scope s.heap.objs.size f (.ref cda) cc
  outer := outer
  stack := PySem.W.ksEnv qual scope s.heap.objs.size f (.ref cda) cc :: outer
  ex := []
  calm := true
  fn := fun _ => false
  pn := []
  xe := fun e s' => wpAny (model P w) (A.deeper (PySem.W.ksEnv qual scope s.heap.objs.size f (.ref cda) cc)) (leaving (PySem.W.ksEnv qual scope s.heap.objs.size f (.ref cda) cc) e) (fun _ s'' => L2.CX P w outer H s E e s'') (fun e' s'' => L2.CX P w outer H s E e' s'') s'
/-- the scope of such a def: parameters first, all names local but the class's cell -/
structure ScS (N ps : List Str) (sc : Scope) : Prop where
  kind : sc.kind = .function
  co : sc.isCoroutine = false
  gen : sc.isGenerator = false
  nd : N.Nodup
  pre : N.take ps.length = ps
  par : ∀ x ∈ ps, sc.names.lookup x = some .local
  nocell : ∀ y ∈ sc.names, y.2 ≠ .cell
  free : ∀ y ∈ sc.names, y.2 = .free → y.1 = "__class__"
  cls : sc.names.lookup ("__class__" : Str) = some .free
  sup : sc.names.lookup ("super" : Str) = some .globalImplicit
/-- what the written part says of such a class -/
structure SupC (P : Program) (K : Frag) (C : Addr) (cda cc : Addr) : Prop where
  code : ∃ ccl cdd vs ccs file tf, K.lookup cda = some ⟨ccl, cdd, .fields vs, ccs⟩ ∧ vs[2]? = some (.str file tf) ∧ ((P.main.file : Str) == file) = true
  cell : ∃ cl cld csl, K.lookup cc = some ⟨cl, cld, .cell (some (.ref C)), csl⟩
  cls : ∃ cd, PySem.W.clsIn K C = some cd
  sub : PySem.W.mroIn K C (.ref C) = some true
  opq : PySem.W.nsIn K cStatics "thirdparty.any" = some none
  sup : PySem.W.ks_superIn K C C "__init__" = some (some (.builtin "ValueError.__init__"))
  isB : PySem.W.subIn K (.ref C) (.type "ValueError") = some true
  top : (P.main.scope.names.lookup ("super" : Str)).isSome = false
theorem rev_lookup : ∀ {ps : List Str} {us : List Value} {i : Nat} {x : Str} {u : Value}, ps.Nodup → ps[i]? = some x → us[i]? = some u → (ps.zip us).reverse.lookup x = some u := by
  have key : ∀ {l : List (Str × Value)} {x : Str} {u : Value}, (l.map (·.1)).Nodup → (x, u) ∈ l → l.lookup x = some u := by
    intro l
    induction l with
    | nil => intro x u _ h; cases h
    | cons p l ih =>
      intro x u nd h
      have nd' := List.nodup_cons.mp (show (p.1 :: l.map (·.1)).Nodup from nd)
      obtain ⟨a, b⟩ := p
      rcases List.mem_cons.mp h with e | h
      · cases e; simp [List.lookup_cons]
      · have hx : x ∈ l.map (·.1) := List.mem_map.mpr ⟨(x, u), h, rfl⟩
        have hne : (x == a) = false := by
          simp only [beq_eq_false_iff_ne, ne_eq]
          intro e; subst e; exact nd'.1 hx
        rw [List.lookup_cons, hne]
        exact ih nd'.2 h
  intro ps us i x u nd h1 h2
  refine key ?_ ?_
  · rw [List.map_reverse]
    refine (List.reverse_perm _).nodup_iff.mpr ?_
    have sub : ∀ (ps : List Str) (us : List Value), ((ps.zip us).map (·.1)).Sublist ps := by
      intro ps
      induction ps with
      | nil => intro us; simp
      | cons p ps ih =>
        intro us
        cases us with
        | nil => simp
        | cons u us => exact (ih us).cons_cons p
    exact nd.sublist (sub ps us)
  · rw [List.mem_reverse]
    exact List.mem_of_getElem? (i := i) ((List.getElem?_zip_eq_some (z := (x, u))).mpr ⟨h1, h2⟩)
theorem inv_startS {P : Program} {w : World} {K : Frag} {mg : Str → Option Value} {base : Heap} {N ps : List Str} {qual : Str} {scope : Scope} {f C cda cc : Addr} {A : Around} {outer : List Env} {s : Shared} {H : Hp} {E : XK} {us : List Value} {vs : List V} {h1 : Heap} {tk : Nat}
    (S : ScS N ps scope) (T : SupC P K C cda cc) (hd : A.handled = none) (e0 : Env0 P w K mg base A outer s H) (hl : vs.length = ps.length) (r : Vals vs us)
    (hns : h1.Ns s.heap.objs.size (fun y => (ps.zip us).reverse.lookup y)) (hk : ∀ b o, s.heap.get? b = some o → h1.get? b = some o) :
    Inv (cxS P w K mg base N qual scope f cda cc A outer s H E) [] (L2.start N vs) H { s with heap := h1, toks := tk } := by
  have hpl : ps.length ≤ N.length := by have := congrArg List.length S.pre; rw [List.length_take] at this; omega
  obtain ⟨cl, cld, csl, hcell⟩ := T.cell
  have cellB := e0.mod.kin _ _ hcell
  obtain ⟨cellS, cellH⟩ := e0.bs _ _ cellB
  have one : ∀ (y : Str) (c : Addr), ([("__class__", cc)] : List (Str × Addr)).lookup y = some c → y = "__class__" ∧ c = cc := by
    intro y c h
    rw [List.lookup_cons] at h
    split at h
    · rename_i e; exact ⟨eq_of_beq e, (Option.some.inj h).symm⟩
    · cases h
  have noA : ∀ b : Addr, b ∉ (cxS P w K mg base N qual scope f cda cc A outer s H E).ex := fun b z => absurd (show b ∈ ([] : List Addr) from z) (by simp)
  refine ⟨⟨e0.mod, S.kind, rfl, rfl, Nat.le_refl _, fun y z c h1 h2 => ?_, fun y hy => ?_, fun y c h0 h => ?_, fun _ => hd, Around.frames_deeper e0.frames, .inr ⟨rfl, rfl⟩, fun b z => absurd z (noA b), e0.bs, e0.bsz, fun b _ _ => noA b, fun b z => absurd z (noA b), e0.funs, e0.frf⟩,
    rfl, e0.bare, Un.kept hk, ⟨_, hns, fun i y v a1 a2 a3 => ?_⟩, fun y c h => ?_, e0.hok.fresh (Nat.le_refl _), fun y c h => ?_, fun p hp => absurd (show p ∈ ([] : List (Addr × Obj)) from hp) (by simp), e0.hok.kept hk, ?_⟩
  · rw [(one y c h1).1, (one z c h2).1]
  · have hy : scope.names.lookup y = some .cell ∨ scope.names.lookup y = some .free := hy
    rcases hy with hy | hy
    · exact absurd rfl (S.nocell _ (PySem.mem_of_lookup hy))
    · have := S.free _ (PySem.mem_of_lookup hy) rfl
      have e : y = "__class__" := this
      subst e
      exact ⟨cc, rfl⟩
  · exact absurd h0 (by simp [cxS])
  · have hi : i < vs.length := by
      unfold L2.start at a2
      by_cases hi : i < vs.length
      · exact hi
      · rw [List.getElem?_append_right (by simpa using hi)] at a2
        rw [List.getElem?_replicate] at a2
        split at a2 <;> cases a2
    have ha : vs[i]? = some v := by
      unfold L2.start at a2
      rw [List.getElem?_append_left (by simpa using hi), List.getElem?_map] at a2
      cases e : vs[i]? with
      | none => rw [e] at a2; cases a2
      | some a => rw [e] at a2; cases a2; rfl
    obtain ⟨u, hu, rv⟩ := r.get ha
    have hp : ps[i]? = some y := by
      rw [← S.pre, List.getElem?_take_of_lt (by omega)]; exact a1
    have ndP : ps.Nodup := by rw [← S.pre]; exact S.nd.sublist (List.take_sublist _ _)
    exact ⟨u, rv, .inl ⟨S.par y (List.mem_of_getElem? hp), rev_lookup ndP hp hu⟩⟩
  · obtain ⟨_, rfl⟩ := one y c h
    exact ⟨some (.ref C), _, hk _ _ cellS, rfl⟩
  · obtain ⟨_, rfl⟩ := one y c h
    exact cellH
  · unfold L2.start
    show _ = N.length
    rw [List.length_append, List.length_map, List.length_replicate]
    omega
/-! ### super().__init__(..) over the invariant -/
section
open PySem.W PySem.Calls
variable {X : Cx} {pins : List (Addr × Obj)} {σ : L2.St} {H : Hp}
/-- the bound ValueError.__init__ called on the exception that is being made -/
theorem call_mw {s : Shared} {a C u : Addr} {rest : List Value} {Q : Value → Shared → Prop} {E : Value → Shared → Prop} {A : Around} (T : OexC X.K C) (I : Inv X pins σ H s) (e : H a = some (exo a C none)) (hu : s.heap.get? u = some (kxs_mw "ValueError.__init__" a)) (hl : rest.length ≤ sizeLine)
    (h : ∀ s', Inv X pins σ H s' → Q .none s') : wpAny (model X.prog X.w) A (call (.ref u) rest) Q E s := by
  obtain ⟨nm, q, N, bs, bm, sn, sub, ab, col, dd, k0, k1, k2, k3, k5, hC, hbm⟩ := T.cls
  obtain ⟨t1, ho⟩ := exo_at I.hok e
  obtain ⟨hp, g, d, t, os⟩ := s
  refine wpAny_call (codeAny_of_tree ?_)
  show wpAny _ A.in1 (callAny (.ref u) ⟨rest, []⟩) _ _ _
  simp only [callAny]
  refine wpAny_bind (wpAny_load hu ?_)
  simp only [kxs_mw, show (Value.type "method-wrapper" == Value.type "method" || Value.type "method-wrapper" == Value.type "builtin_function_or_method" || Value.type "method-wrapper" == Value.type "method-wrapper") = true by decide, if_true]
  refine KFB.if_so (by decide) ?_
  refine wpAny_bind (check_bound_init F.excBase_ValueError.toExcCallFacts (I.kIn _ _ hC) ho rfl ?_)
  refine wpAny_bind (wpAny_pure (wpAny_pure ?_))
  refine ⟨plainId_quiet F.excBase_ValueError.init.plain _, codeAny_builtin F.excBase_ValueError.initEntry ?_⟩
  refine exc_init_tree (cls := .ref C) (t0 := t1) (dv := none) (c2 := .none) (c3 := .none) (b4 := .bool false) ho hl fun h' k hx _ => ?_
  have J := I.write (t' := t) (x := a) (e := a) (o := exo a C none) (by rw [e]; exact True.intro) (.inl rfl) k ⟨_, hx⟩ (exo_ok hx)
  have eu : upd H a (exo a C none) = H := by
    funext b
    by_cases hb : b = a
    · rw [hb, upd_same, e]
    · rw [upd_ne hb]
  rw [eu] at J
  exact h _ J
/-- the first statement, with its activation known: super().__init__(e) -/
theorem super_stmt {P : Program} {w : World} {K : Frag} {mg : Str → Option Value} {base : Heap} {N : List Str} {qual : Str} {scope : Scope} {f C cda cc : Addr} {A : Around} {outer : List Env} {s0 : Shared} {H0 : Hp} {E0' : XK} {ps : List Str}
    {oc : Value} {od : Option Addr} {osl : Array (Option Value)} {name : Str} {params : Arguments} {body0 body : List Stmt} {dV kV doc pm ct : Value} {an : Option Addr} {ar : Arg} {e : Expr} {es : List Expr} {p0 p1 p2 p3 p4 : Pos} {te : TA} {s : Shared} {a : Addr} {Q : Flow → Shared → Prop} {pl : Sem Bool}
    (S : ScS N ps scope) (T : SupC P K C cda cc) (TC : OexC K C) (hlk : K.lookup f = some ⟨oc, od, .func (ksFn name qual params body0 scope dV kV doc pm an (.ref cda) ct cc), osl⟩) (har : (params.posonlyargs ++ params.args).head? = some ar) (hps : N[0]? = some ar.arg) (hloc : scope.names.lookup ar.arg = some .local)
    (hm : mg "super" = none) (he : PA (cxS P w K mg base N qual scope f cda cc A outer s0 H0 E0') (e :: es) te) (I : Inv (cxS P w K mg base N qual scope f cda cc A outer s0 H0 E0') pins σ H s) (h0 : σ[0]? = some (some (.ref a))) (ha : H a = some (exo a C none))
    (hq : te σ H fun vs H1 => vs.length ≤ 1000 ∧ H1 a = some (exo a C none) ∧ ∀ s', Inv (cxS P w K mg base N qual scope f cda cc A outer s0 H0 E0') pins σ H1 s' → Q .next s')
    (hev : eval (.Call (.Attribute (.Call (.Name "super" p0) [] [] p1) "__init__" p2) (e :: es) [] p3) (ksEnv qual scope s0.heap.objs.size f (.ref cda) cc) = (do
      let ov ← attributeBase (.Call (.Name "super" p0) [] [] p1) "__init__" (ksEnv qual scope s0.heap.objs.size f (.ref cda) cc) (eval (.Call (.Name "super" p0) [] [] p1) (ksEnv qual scope s0.heap.objs.size f (.ref cda) cc))
      standAt p2.atName
      let (g, first) ← holding [ov] (getMethod ov "__init__" pl)
      callWith p3 g first (backTo p3 (starEach (e :: es) (ksEnv qual scope s0.heap.objs.size f (.ref cda) cc))) []) := by rfl)
    (hsw : swapsWith (.Call (.Attribute (.Call (.Name "super" p0) [] [] p1) "__init__" p2) (e :: es) [] p3) none p4.line (ksEnv qual scope s0.heap.objs.size f (.ref cda) cc) = pure false := by rfl)
    (hst : starEach (e :: es) (ksEnv qual scope s0.heap.objs.size f (.ref cda) cc) = (false, eval e (ksEnv qual scope s0.heap.objs.size f (.ref cda) cc)) :: starEach es (ksEnv qual scope s0.heap.objs.size f (.ref cda) cc) := by rfl) (hpl : (backTo p3 (starEach es (ksEnv qual scope s0.heap.objs.size f (.ref cda) cc))).any (·.1) = false := by rfl) :
    PySem.wpAt (model P w) (A.deeper (ksEnv qual scope s0.heap.objs.size f (.ref cda) cc)) (.func body (ksEnv qual scope s0.heap.objs.size f (.ref cda) cc)) (exec (.Expr (.Call (.Attribute (.Call (.Name "super" p0) [] [] p1) "__init__" p2) (e :: es) [] p3) p4) (ksEnv qual scope s0.heap.objs.size f (.ref cda) cc)) Q
      (cxS P w K mg base N qual scope f cda cc A outer s0 H0 E0').xe s := by
  obtain ⟨ccl, cdd, vs, ccs, file, tf, hcode, hvs, hfile⟩ := T.code
  obtain ⟨cl, cld, csl, hcell⟩ := T.cell
  obtain ⟨cd, hcd⟩ := T.cls
  have KX : K.In s.heap := I.kIn
  obtain ⟨oD, hD1, hD2⟩ : ∃ oD, s.heap.get? C = some oD ∧ oD.data = .cls cd := by
    unfold clsIn at hcd
    split at hcd
    · rename_i c d cd' sl ho
      cases hcd
      exact ⟨_, KX _ _ ho, rfl⟩
    · cases hcd
  obtain ⟨t1, hox⟩ := exo_at I.hok ha
  have hself : ∃ m, s.heap.Ns s0.heap.objs.size m ∧ m ar.arg = some (.ref a) := by
    obtain ⟨m, hns, hl⟩ := I.loc
    obtain ⟨u, ru, lk⟩ := hl 0 ar.arg (.ref a) hps h0 (.inl hloc)
    rcases lk with ⟨_, lk⟩ | ⟨lk, _⟩
    · cases ru; exact ⟨m, hns, lk⟩
    · have lk : scope.names.lookup ar.arg = some .cell ∨ scope.names.lookup ar.arg = some .free := lk
      rw [hloc] at lk
      rcases lk with lk | lk <;> cases lk
  obtain ⟨m, hns, hself⟩ := hself
  obtain ⟨mb, hb, hbb⟩ := I.ok.mod.blt
  have hg := I.ok.mod.glob
  refine ks_wpAt_Expr_any ?_ (by unfold interactive; simp [S.kind]) hsw
  refine ks_wpAt_MethodCall (pl := pl) ?_ hev
  refine ks_wpAt_super_base (env := ksEnv qual scope s0.heap.objs.size f (.ref cda) cc) S.sup S.cls rfl rfl (KX _ _ hlk) rfl har rfl (KX _ _ hcode) rfl hvs hfile T.top ?_
  refine ks_loadName_global S.kind S.sup (loadGlobal_builtin (env := ksEnv qual scope s0.heap.objs.size f (.ref cda) cc) (hg.keeps I.bk) hm (hb.keeps I.bk) ((hbb _ (by decide +kernel)).trans (by rfl)) ⟨rfl, ?_⟩)
  refine wpAny_loadName_free S.kind S.cls rfl ⟨_, KX _ _ hcell, rfl⟩ ?_
  refine wpAny_loadName_local S.kind hloc hns hself ?_
  obtain ⟨hh, g, d, t, os⟩ := s
  refine ks_wpAny_isType_cls hD1 hD2 ⟨rfl, ?_⟩
  refine ks_wpAny_call_super hD1 hD2 hox rfl (fun c z => by cases z) (looks_mroIn KX T.sub) (fun h' eso k => ?_)
  -- the super object lies beside
  have I2 := I.kept (t' := t) k
  have X2 : K.In h' := I2.kIn
  have hox2 := k _ _ hox
  have hI : Looks (model P w) h' (isInstance (.ref a) (.type "ValueError")) true := (show InstAt h' a _ C none from ⟨hox2, rfl, rfl, trivial⟩).type.andThen (looks_subIn X2 T.isB)
  have hmm := T.sup
  unfold ks_superIn at hmm
  rw [hcd] at hmm
  refine kxs_getMethod kxs_ValueError eso (looks_opaque X2 T.opq) (l₀ := cd.mro) (fun A Q E s k q => wpAny_bind ((looks_clsIn X2 hcd) A _ E s k (wpAny_pure q))) rfl X2 hmm hI (ks_ne X2 (show InstAt h' a _ C none from ⟨hox2, rfl, rfl, trivial⟩) hcd) rfl ?_
  have I3 := I2.kept (h' := h'.push (kxs_mw "ValueError.__init__" a)) (t' := t + 1) (fun b o z => Heap.get?_push_of_some _ z)
  have emw : (h'.push (kxs_mw "ValueError.__init__" a)).get? h'.objs.size = some (kxs_mw "ValueError.__init__" a) := Heap.get?_push_size _ rfl
  have I4 := I3.pinned (fp := [h'.objs.size]) (fun b hb => by
    have e : b = h'.objs.size := by simpa using hb
    subst e
    exact I2.fpOk (Nat.le_refl _) (I2.hok.fresh (Nat.le_refl _))) (fun b hb => by
    have e : b = h'.objs.size := by simpa using hb
    subst e
    exact ⟨_, emw, fun v z => by cases z⟩)
  show wpAny _ _ (callWith p3 (.ref h'.objs.size) [] (backTo p3 (starEach (e :: es) (ksEnv qual scope s0.heap.objs.size f (.ref cda) cc))) []) _ _ _
  rw [hst]
  refine kxs_callWith (i := "ValueError.__init__") (x := a) (by show (false || (backTo p3 (starEach es (ksEnv qual scope s0.heap.objs.size f (.ref cda) cc))).any (·.1)) = false; rw [hpl]; rfl) ?_
  refine evalArgs_plain ?_
  have hrun := he.run p3 _ _ σ H _ I4 hq
  rw [show starEach (e :: es) (cxS P w K mg base N qual scope f cda cc A outer s0 H0 E0').env = (false, eval e (ksEnv qual scope s0.heap.objs.size f (.ref cda) cc)) :: starEach es (ksEnv qual scope s0.heap.objs.size f (.ref cda) cc) from hst] at hrun
  refine thn hrun fun us s5 ⟨vs5, H5, I5, r5, hl5, ha5, q5⟩ => ?_
  have pin5 := I5.pin (h'.objs.size, kxs_mw "ValueError.__init__" a) (List.mem_append_right _ (List.mem_append_right _ (mem_pinsAt (by simp) emw)))
  refine ⟨pin5.1, ?_⟩
  have hlen : us.length ≤ sizeLine := by rw [← r5.length, szl]; omega
  exact call_mw TC I5.unpinned ha5 pin5.1 hlen fun s' J => q5 s' J
end
/-- THE RULE: such a def keeps its promise -/
theorem fn_super {P : Program} {w : World} {K : Frag} {mg : Str → Option Value} {base : Heap} {k : Nat} {N ps : List Str} {qual name : Str} {scope : Scope} {f C cda cc : Addr} {oc : Value} {od : Option Addr} {osl : Array (Option Value)} {params : Arguments} {dV kV doc pm ct : Value} {an : Option Addr} {ar : Arg} {e : Expr} {es : List Expr} {rest : List Stmt} {p0 p1 p2 p3 p4 : Pos} {sp : Sp} {pl : Addr → Sem Bool}
    (S : ScS N ps scope) (T : SupC P K C cda cc) (TC : OexC K C) (hlk : K.lookup f = some ⟨oc, od, .func (PySem.W.ksFn name qual params (.Expr (.Call (.Attribute (.Call (.Name "super" p0) [] [] p1) "__init__" p2) (e :: es) [] p3) p4 :: rest) scope dV kV doc pm an (.ref cda) ct cc), osl⟩) (hcd : PySem.W.codeIn K (.ref cda) qual = true)
    (har : (params.posonlyargs ++ params.args).head? = some ar) (hps : N[0]? = some ar.arg) (hloc : scope.names.lookup ar.arg = some .local) (hm : mg "super" = none)
    (len : ∀ vs H Q E, sp vs H Q E → vs.length = ps.length)
    (hbody : ∀ (A : Around) (outer : List Env) (s : Shared) (H : Hp) (vs : List V) (Q : VK) (E : XK), Room k (A.deeper (PySem.W.ksEnv qual scope s.heap.objs.size f (.ref cda) cc)) → sp vs H Q E →
      ∃ (a : Addr) (te : TA) (tr : TS), (L2.start N vs)[0]? = some (some (.ref a)) ∧ H a = some (exo a C none) ∧ PA (cxS P w K mg base N qual scope f cda cc A outer s H E) (e :: es) te ∧ PSs (cxS P w K mg base N qual scope f cda cc A outer s H E) rest tr ∧
        ∀ Φ : List V → Hp → Prop, (∀ ws H1, ws.length ≤ 1000 → H1 a = some (exo a C none) → tr { nx := fun _ H' => Q .non H', rt := Q } (L2.start N vs) H1 → Φ ws H1) → te (L2.start N vs) H Φ)
    (hev : ∀ L, eval (.Call (.Attribute (.Call (.Name "super" p0) [] [] p1) "__init__" p2) (e :: es) [] p3) (PySem.W.ksEnv qual scope L f (.ref cda) cc) = (do
      let ov ← attributeBase (.Call (.Name "super" p0) [] [] p1) "__init__" (PySem.W.ksEnv qual scope L f (.ref cda) cc) (eval (.Call (.Name "super" p0) [] [] p1) (PySem.W.ksEnv qual scope L f (.ref cda) cc))
      standAt p2.atName
      let (g, first) ← holding [ov] (getMethod ov "__init__" (pl L))
      callWith p3 g first (backTo p3 (starEach (e :: es) (PySem.W.ksEnv qual scope L f (.ref cda) cc))) []))
    (hsw : ∀ L, swapsWith (.Call (.Attribute (.Call (.Name "super" p0) [] [] p1) "__init__" p2) (e :: es) [] p3) none p4.line (PySem.W.ksEnv qual scope L f (.ref cda) cc) = pure false)
    (hst : ∀ L, starEach (e :: es) (PySem.W.ksEnv qual scope L f (.ref cda) cc) = (false, eval e (PySem.W.ksEnv qual scope L f (.ref cda) cc)) :: starEach es (PySem.W.ksEnv qual scope L f (.ref cda) cc)) (hpl : ∀ L, (backTo p3 (starEach es (PySem.W.ksEnv qual scope L f (.ref cda) cc))).any (·.1) = false) :
    FnOk P w K mg base (L2.CX P w) (k + 1) f (PySem.W.ksFn name qual params (.Expr (.Call (.Attribute (.Call (.Name "super" p0) [] [] p1) "__init__" p2) (e :: es) [] p3) p4 :: rest) scope dV kV doc pm an (.ref cda) ct cc) ps sp := by
  refine ⟨len, fun A outer s H args us vs Q E hr e0 hb r hsp => ?_⟩
  have hl := len _ _ _ _ hsp
  have KX : K.In s.heap := e0.mod.kin.keeps fun b o e => (e0.bs b o e).1
  have lim : s.heap.NoLimit := e0.mod.nolimit.keeps fun b o e => (e0.bs b o e).1
  refine codeAny_call_function hr.depth (KX _ _ hlk) rfl S.co S.gen rfl (PySem.W.codeRec_of KX hcd) (hb _ _ _ _ ?_)
  refine wpAny_newFunctionEnv S.nocell (fun y hy => S.par _ (List.of_mem_zip (a := y.1) (b := y.2) hy).1) (fun h0 hns0 hsb0 => ?_) S.kind
  have hk : ∀ b o, s.heap.get? b = some o → h0.get? b = some o := fun b o e => hsb0.extBut b o (Nat.ne_of_lt (Heap.lt_size e)) (Heap.get?_push_of_some _ e)
  refine ⟨lim.keeps hk, PySem.ks_codeAny_funcAt ?_⟩
  obtain ⟨a, te, tr, hσ, hH, he, ht, hq⟩ := hbody A outer s H vs Q E (hr.deeper _) hsp
  have I := inv_startS (P := P) (w := w) (mg := mg) (qual := qual) (f := f) (E := E) (tk := s.toks + (ps.zip us).length) S T hr.hd e0 hl r hns0 hk
  refine PySem.ks_wpAt_execs_cons ?_
  refine super_stmt (pl := pl s.heap.objs.size) S T TC hlk har hps hloc hm he I hσ hH ?_ (hev _) (hsw _) (hst _) (hpl _)
  refine hq _ fun ws H1 h1 h2 h3 => ⟨h1, h2, fun s' J => ?_⟩
  refine PySem.wpAt_of_wpAny (wpAny_mono (ht.run [] s' (L2.start N vs) H1 _ J h3) (fun fl s'' hs => ?_) fun e s'' hs => hs)
  have fin : ∀ {σ' : L2.St} {H' : Hp} {v : V} {u : Value}, Inv (cxS P w K mg base N qual scope f cda cc A outer s H E) [] σ' H' s'' → RelV v u → Q v H' → CE outer P w H s Q u s'' :=
    fun {σ' H' v u} J rv q => ⟨v, H', J.os, J.bare, J.base, J.hok, rv, q⟩
  cases fl with
  | ret u =>
    obtain ⟨v, σ', H', J, rv, q⟩ := hs
    exact fin J rv q
  | next =>
    obtain ⟨σ', H', J, q⟩ := hs
    exact fin (v := V.non) (u := Value.none) J rfl q
  | brk =>
    obtain ⟨_, _, _, q⟩ := hs
    exact False.elim q
  | cont =>
    obtain ⟨_, _, _, q⟩ := hs
    exact False.elim q
/-- str(x) of a text, of an int -/
def rStr : List V → Hp → VK → Prop := fun xs H Q => (∃ a, xs = [.str a] ∧ Q (.str a) H) ∨ ∃ i : Int, xs = [.int i] ∧ i.natAbs < 1000000000000 ∧ Q (.str (Str.ofString (toString i))) H
theorem cr_str {X : Cx} : CallR X (.type "str") rStr := fun pins s σ H vs us Q I r q => q.elim (fun q => SkE.call_str_str (X := X) pins s σ H vs us Q I r q) fun ⟨i, e, hi, q⟩ => call_str_int pins s σ H vs us Q I r ⟨i, e, by
  rcases Nat.eq_zero_or_pos i.natAbs with h | h
  · rw [h]; decide
  · exact (Nat.log2_lt (by omega)).mpr (Nat.lt_of_lt_of_le hi (by
      have : (2 : Nat) ^ 40 ≤ 2 ^ 1920 := Nat.pow_le_pow_right (by decide) (by decide)
      exact Nat.le_trans (by decide) this)), q⟩
def strV : V → Option Str
  | .str a => some a
  | .int i => if i.natAbs < 1000000000000 then some (Str.ofString (toString i)) else none
  | _ => none
theorem tStr_of {σ : L2.St} {H : Hp} {i : Nat} {v : V} {z : Str} {Q : VK} (h : σ[i]? = some (some v)) (hz : strV v = some z) (q : Q (.str z) H) : tCB rStr (tCons (tVar i) tNil) σ H Q := by
  refine ⟨v, h, ?_⟩
  cases v with
  | str a => cases hz; exact .inl ⟨_, rfl, q⟩
  | int i =>
    have hz' : (if i.natAbs < 1000000000000 then some (Str.ofString (toString i)) else none) = some z := hz
    by_cases hi : i.natAbs < 1000000000000
    · rw [if_pos hi] at hz'; cases hz'; exact .inr ⟨i, rfl, hi, q⟩
    · rw [if_neg hi] at hz'; cases hz'
  | _ => cases hz
/-! ### one field: self.f = p -/
def sp1 (C : Addr) (fl : Str) : Sp := fun vs H Q E => ∃ a y, vs = [.ref a, y] ∧ (∃ z, strV y = some z) ∧ H a = some (exo a C none) ∧ ∀ dx, H dx = none → dx ≠ a → Q .non (upd (upd H dx (exd dx [(fl, y)])) a (exo a C (some dx)))
/-- two fields -/
def sp2 (C : Addr) (f1 f2 : Str) : Sp := fun vs H Q E => ∃ a y z, vs = [.ref a, y, z] ∧ (∃ u w, strV y = some u ∧ strV z = some w ∧ u.length + 1 ≤ 8388608 ∧ w.length ≤ 8388608) ∧ H a = some (exo a C none) ∧
  ∀ dx, H dx = none → dx ≠ a → Q .non (upd (upd H dx (exd dx [(f2, z), (f1, y)])) a (exo a C (some dx)))
theorem upd3 {H : Hp} {a dx : Addr} {o1 o2 o3 : HO} (h : dx ≠ a) : upd (upd (upd H dx o1) a o2) dx o3 = upd (upd H dx o3) a o2 := by
  funext b
  by_cases hb : b = a
  · subst hb; rw [upd_same, upd_ne (Ne.symm h), upd_same]
  · rw [upd_ne (a := a) hb]
    by_cases hd : b = dx
    · subst hd; rw [upd_same, upd_same]
    · rw [upd_ne hd, upd_ne hd, upd_ne hb, upd_ne hd]
end F2
end
section
namespace F2
open PySem PySem.Spec PyProof.Rows L2

/-! ### what an own exception's __init__ promises -/
def SpX (C : Addr) (n : Nat) (okV : List V → Prop) (fv : List V → List (Str × V)) : Sp := fun vs H Q E => ∃ a ys, vs = .ref a :: ys ∧ ys.length = n ∧ okV ys ∧ H a = some (exo a C none) ∧ ∀ dx, H dx = none → dx ≠ a → Q .non (upd (upd H dx (exd dx (fv ys))) a (exo a C (some dx)))
def okV1 : List V → Prop := fun ys => ∃ y z, ys = [y] ∧ strV y = some z
def fv1 (f : Str) : List V → List (Str × V)
  | [y] => [(f, y)]
  | _ => []
def okV2 : List V → Prop := fun ys => ∃ y z u w, ys = [y, z] ∧ strV y = some u ∧ strV z = some w ∧ u.length + 1 ≤ 8388608 ∧ w.length ≤ 8388608
def fv2 (f g : Str) : List V → List (Str × V)
  | [y, z] => [(g, z), (f, y)]
  | _ => []
/-- the same on D -/
def strD : D → Option Str
  | .str a => some a
  | .int i => if i.natAbs < 1000000000000 then some (Str.ofString (toString i)) else none
  | _ => none
def okD1 : List D → Bool
  | [x] => (strD x).isSome
  | _ => false
def fd1 (f : Str) : List D → List (Str × D)
  | [y] => [(f, y)]
  | _ => []
def okD2 : List D → Bool
  | [x, y] => match strD x, strD y with
    | some u, some w => decide (u.length + 1 ≤ 8388608 ∧ w.length ≤ 8388608)
    | _, _ => false
  | _ => false
def fd2 (f g : Str) : List D → List (Str × D)
  | [y, z] => [(g, z), (f, y)]
  | _ => []
/-- the arguments' form on V follows from that on D -/
structure ArgX (okd : List D → Bool) (fd : List D → List (Str × D)) (okv : List V → Prop) (fv : List V → List (Str × V)) (n : Nat) : Prop where
  to : ∀ (K : Frag) (ι : List Addr) (H : Hp) (xs : List D) (ys : List V), DVs K ι H xs ys → okd xs = true → ys.length = n ∧ okv ys ∧ DKs K ι H (fd xs) (fv ys)
theorem strD_dv {K : Frag} {ι : List Addr} {H : Hp} {x : D} {v : V} {z : Str} (h : DV K ι H x v) (e : strD x = some z) : strV v = some z := by
  cases x with
  | str a => simp only [DV] at h; obtain ⟨rfl, _⟩ := h; exact e
  | int i => simp only [DV] at h; subst h; exact e
  | _ => cases e
theorem arg1 (f : Str) : ArgX okD1 (fd1 f) okV1 (fv1 f) 1 := ⟨fun K ι H xs ys h e => by
  match xs, e with
  | [x], e =>
    obtain ⟨v, rfl, hv⟩ := h.one
    obtain ⟨z, ez⟩ := Option.isSome_iff_exists.mp (show (strD x).isSome = true from e)
    exact ⟨rfl, ⟨v, z, rfl, strD_dv hv ez⟩, .cons ⟨rfl, hv, rfl⟩ .nil⟩⟩
theorem arg2 (f g : Str) : ArgX okD2 (fd2 f g) okV2 (fv2 f g) 2 := ⟨fun K ι H xs ys h e => by
  match xs, e with
  | [x, y], e =>
    obtain ⟨v, w, rfl, hv, hw⟩ := h.two
    simp only [okD2] at e
    split at e
    · rename_i u z e1 e2
      obtain ⟨l1, l2⟩ := of_decide_eq_true e
      exact ⟨rfl, ⟨v, w, u, z, rfl, strD_dv hv e1, strD_dv hw e2, l1, l2⟩, .cons ⟨rfl, hw, rfl⟩ (.cons ⟨rfl, hv, rfl⟩ .nil)⟩
    · cases e⟩
/-! ### raise C(..) -/
def sRaise (C : Str) (okd : List D → Bool) (fd : List D → List (Str × D)) (f : FA) : FS := fun ρ G => (f ρ G).toS ρ fun xs G1 => if okd xs = true then .er C G1.length ρ (G1 ++ [.xd (fd xs)]) else .st
/-- what a class must have to be raised here -/
structure ExcC (P : Program) (w : World) (K : Frag) (mg : Str → Option Value) (base : Heap) (C : Str) (n : Nat) (okv : List V → Prop) (fv : List V → List (Str × V)) : Prop where
  oex : OexC K (He.ga K C)
  mgC : mg C = some (.ref (He.ga K C))
  ini : ∃ (fI : Addr) (fd : FuncData) (ps : List Str), PySem.W.findIn K (.ref (He.ga K C)) "__init__" = some (some (.ref fI)) ∧ PySem.W.typeIn K (.ref fI) = some (.type "function") ∧ Binds K fd ps [] ∧ FnOk P w K mg base (L2.CX P w) 1 fI fd ps (SpX (He.ga K C) n okv fv)
section
variable {X : Cx} {xa : XA} {W : WX} {C : Str} {n : Nat} {okd : List D → Bool} {fd : List D → List (Str × D)} {okv : List V → Prop} {fv : List V → List (Str × V)} {e : Expr} {es : List Expr} {fa : FA} {p pos pos' : Pos}
theorem ds_raise (ax : ArgX okd fd okv fv n) (T : ExcC X.prog X.w X.K X.mg X.base C n okv fv) (hc : X.calm = true) (hr : Room 2 X.A) (tk : Takes X W) (hg : Gl X C) (ha : DA X xa W (e :: es) fa) (hn : n ≤ 1000 := by decide)
    (hdb : (C == ("__debug__" : Str)) = false := by decide) (he : starEach (e :: es) X.env = (false, eval e X.env) :: starEach es X.env := by rfl) (hpl : (backTo pos (starEach es X.env)).any (·.1) = false := by rfl) :
    DS X xa W (.Raise (some (.Call (.Name C p) (e :: es) [] pos)) none pos') (sRaise C okd fd fa) := by
  obtain ⟨fI, fdt, ps, h1, h2, h3, h4⟩ := T.ini
  have hno : Passes (L2.CX X.prog X.w) X (fun _ _ _ => False) := fun pins σ H s e s' I c => by
    obtain ⟨_, _, _, _, _, _, _, _, _, _, _, _, h⟩ := c
    exact False.elim h
  refine PSm (ps_raise hc tk (pmk_oex (k := 1) T.oex h1 h2 h4 hr h3 .nil hno hg T.mgC ha hdb he hpl)) fun N σ H ⟨ι, ρ, G, c, q⟩ => ?_
  refine ⟨ι, ρ, G, c, (PostS.bind (rel := DVs X.K) c q).mono fun vs H1 ⟨ι1, xs, G1, e1, c1, d1, p1⟩ => ?_⟩
  by_cases ok : okd xs = true
  · rw [if_pos ok] at p1
    obtain ⟨l1, l2, l3⟩ := ax.to _ _ _ _ _ d1 ok
    refine ⟨by rw [l1]; exact hn, fun a ha0 => ⟨a, vs, by simp, l1, l2, upd_same, fun dx hdx hne => ?_⟩⟩
    rw [upd_ne hne] at hdx
    refine ⟨rfl, dx, fv vs, upd_same, by rw [upd_ne hne, upd_same], hdx, ?_⟩
    have hH : upd (del (upd (upd (upd H1 a (exo a (He.ga X.K C) none)) dx (exd dx (fv vs))) a (exo a (He.ga X.K C) (some dx))) a) dx (.xd (fv vs)) = upd H1 dx (.xd (fv vs)) := by
      funext b
      by_cases hb : b = dx
      · subst hb; rw [upd_same, upd_same]
      · rw [upd_ne hb, upd_ne hb]
        by_cases hba : b = a
        · subst hba; rw [del_same, ha0]
        · rw [del_ne hba, upd_ne hba, upd_ne hb, upd_ne hba]
    rw [hH]
    obtain ⟨e2, r2, hat⟩ := c1.rz.new (u := .xd (fv vs)) (o := .xd (fd xs)) hdx fun e => ⟨_, upd_same, DKs.ext e l3⟩
    exact (show PostS X.K xa W σ ι1 H1 (.er C G1.length ρ (G1 ++ [.xd (fd xs)])) N from p1) _ _ σ dx e2 (c1.ext e2 r2) hat
  · rw [if_neg ok] at p1
    exact False.elim p1
end
/-! ### try .. except C as n -/
def RS.clr (i : Nat) : RS → RS
  | .nx ρ G => .nx (ρ.set i none) G
  | .bk ρ G => .bk (ρ.set i none) G
  | .ct ρ G => .ct (ρ.set i none) G
  | .rt d G => .rt d G
  | _ => .st
def sTryAs (i : Nat) (em : List (Str × Bool)) (b : FS) (s : Str → Nat → FS) : FS := fun ρ G => match b ρ G with
  | .er c j ρ' G' => match em.lookup c with
    | some true => if i < ρ'.length then RS.clr i (s c j (ρ'.set i none) G') else .st
    | some false => .er c j ρ' G'
    | none => .st
  | r => r
def RS.nox : RS → RS
  | .er _ _ _ _ => .st
  | r => r
def sTryOnly (em : List (Str × Bool)) (b : FS) (s : Str → Nat → FS) : FS := fun ρ G => match b ρ G with
  | .er c j ρ' G' => match em.lookup c with
    | some true => RS.nox (s c j ρ' G')
    | some false => .er c j ρ' G'
    | none => .st
  | r => r
theorem EnvR.none {K : Frag} {ι : List Addr} {H : Hp} {ρ : Rho} {σ : L2.St} {i : Nat} {v : Option V} (e : EnvR K ι H ρ σ) : EnvR K ι H (ρ.set i none) (σ.set i v) := by
  refine ⟨by simp [e.len], fun j d h => ?_⟩
  by_cases hj : i = j
  · subst hj
    by_cases hl : i < ρ.length
    · rw [List.getElem?_set_self hl] at h; cases h
    · rw [List.getElem?_eq_none (by simpa using hl)] at h; cases h
  · rw [List.getElem?_set_ne hj] at h ⊢
    exact e.at_ j d h
section
variable {X : Cx} {W : WX} {x n : Str} {i : Nat} {em : List (Str × Bool)} {body suite : List Stmt} {b₀ : Stmt} {b : FS} {s : Str → Nat → FS} {np pos pos' : Pos}
theorem ds_tryAs (hs : X.stack = X.env :: X.outer) (hf : X.env.frame = some X.env.locals) (hN : X.N.Nodup) (tk : Takes X W) (hc : Names X x (.ref (He.ga X.K x))) (hem : ∀ c b, em.lookup c = some b → PySem.W.exmOne X.K (.ref (He.ga X.K c)) (.ref (He.ga X.K x)) = some b)
    (hb : ∀ (W' : WX) (pn : List (Addr × Obj)) (xe : Value → Shared → Prop), Takes (X.tr pn xe) W' → PassesOwn (model X.prog X.w) X.A X.env xe → DSs (X.tr pn xe) none W' body b)
    (hsu : ∀ (c : Str) (j : Nat) (a dd : Addr) (oe : Obj) (pn : List (Addr × Obj)), em.lookup c = some true → Zc (.ref (He.ga X.K c)) (some dd) oe → (∃ vs, oe.data = .fields vs) → DSs (X.suite a ((a, oe) :: pn)) (some (i, a, dd, j)) W0 (b₀ :: suite) (s c j))
    (hi : X.N[i]? = some n := by rfl) (hln : X.env.kindOf n = some .local := by rfl) :
    DS X none W (.Try body [.ExceptHandler (some (.Name x np)) (some n) (b₀ :: suite) pos'] [] [] pos) (sTryAs i em b s) := by
  refine PSm (ps_try_as hs hf hN hi hln hc tk (tb := fun W' => tS X.K none W' b) (ts := fun a cls d D σ H => ∃ c j dd, em.lookup c = some true ∧ cls = .ref (He.ga X.K c) ∧ d = some dd ∧ tS X.K (some (i, a, dd, j)) W0 (s c j) D σ H)
    (fun W' pn xe t p => hb W' pn xe t p) (fun a oe cls d pn hz hv => ⟨fun pins s0 σ H N I ⟨c, j, dd, h1, h2, h3, h4⟩ => ?_⟩)) fun N σ H ⟨ι, ρ, G, c, q⟩ => ⟨ι, ρ, G, c, ?_⟩
  · subst h2 h3
    exact (hsu c j a dd oe pn h1 hz hv).run pins s0 σ H N I h4
  · unfold sTryAs at q
    cases e : b ρ G with
    | nx ρ' G' => rw [e] at q; exact q
    | bk ρ' G' => rw [e] at q; exact q
    | ct ρ' G' => rw [e] at q; exact q
    | rt d G' => rw [e] at q; exact q
    | st => rw [e] at q; exact q
    | er cc j ρ' G' =>
      rw [e] at q
      dsimp only at q
      intro ι' H' σ' d x1 c1 hj
      cases el : em.lookup cc with
      | none => rw [el] at q; exact False.elim q
      | some bb =>
        rw [el] at q
        refine ⟨bb, hem cc bb el, fun hbt a ha => ?_, fun hbf => ?_⟩
        · subst hbt
          dsimp only at q
          by_cases hl : i < ρ'.length
          · rw [if_pos hl] at q
            have hl2 : i < σ'.length := by rw [← c1.env.len]; exact hl
            refine ⟨cc, j, d, el, rfl, rfl, ι', ρ'.set i none, G', ⟨c1.env.none, c1.rz, by rw [List.getElem?_set_self hl2], hj⟩, ?_⟩
            have q2 := PostS.shift q x1
            cases es : s cc j (ρ'.set i none) G' with
            | nx ρ2 G2 => rw [es] at q2; exact fun ι2 H2 σ2 x2 c2 => q2 ι2 H2 (σ2.set i none) x2 ⟨c2.env.none, c2.rz, trivial⟩
            | bk ρ2 G2 => rw [es] at q2; exact fun ι2 H2 σ2 x2 c2 => q2 ι2 H2 (σ2.set i none) x2 ⟨c2.env.none, c2.rz, trivial⟩
            | ct ρ2 G2 => rw [es] at q2; exact fun ι2 H2 σ2 x2 c2 => q2 ι2 H2 (σ2.set i none) x2 ⟨c2.env.none, c2.rz, trivial⟩
            | rt d2 G2 => rw [es] at q2; exact q2
            | er _ _ _ _ => rw [es] at q2; exact False.elim q2
            | st => rw [es] at q2; exact False.elim q2
          · rw [if_neg hl] at q; exact False.elim q
        · subst hbf
          exact q ι' H' σ' d x1 c1 hj
theorem ds_tryOnly (hs : X.stack = X.env :: X.outer) (hf : X.env.frame = some X.env.locals) (tk : Takes X W) (hc : Names X x (.ref (He.ga X.K x))) (hem : ∀ c b, em.lookup c = some b → PySem.W.exmOne X.K (.ref (He.ga X.K c)) (.ref (He.ga X.K x)) = some b)
    (hb : ∀ (W' : WX) (pn : List (Addr × Obj)) (xe : Value → Shared → Prop), Takes (X.tr pn xe) W' → PassesOwn (model X.prog X.w) X.A X.env xe → DSs (X.tr pn xe) none W' body b)
    (hsu : ∀ (c : Str) (j : Nat) (a : Addr) (oe : Obj) (pn : List (Addr × Obj)), em.lookup c = some true → DSs (X.suite a ((a, oe) :: pn)) none W0 (b₀ :: suite) (s c j)) :
    DS X none W (.Try body [.ExceptHandler (some (.Name x np)) none (b₀ :: suite) pos'] [] [] pos) (sTryOnly em b s) := by
  refine PSm (ps_try_only hs hf hc tk (tb := fun W' => tS X.K none W' b) (ts := fun a cls d D σ H => ∃ c j, em.lookup c = some true ∧ tS X.K none W0 (s c j) D σ H)
    (fun W' pn xe t p => hb W' pn xe t p) (fun a oe cls d pn hz hv => ⟨fun pins s0 σ H N I ⟨c, j, h1, h4⟩ => (hsu c j a oe pn h1).run pins s0 σ H N I h4⟩)) fun N σ H ⟨ι, ρ, G, c, q⟩ => ⟨ι, ρ, G, c, ?_⟩
  unfold sTryOnly at q
  cases e : b ρ G with
  | nx ρ' G' => rw [e] at q; exact q
  | bk ρ' G' => rw [e] at q; exact q
  | ct ρ' G' => rw [e] at q; exact q
  | rt d G' => rw [e] at q; exact q
  | st => rw [e] at q; exact q
  | er cc j ρ' G' =>
    rw [e] at q
    dsimp only at q
    intro ι' H' σ' d x1 c1 hj
    cases el : em.lookup cc with
    | none => rw [el] at q; exact False.elim q
    | some bb =>
      rw [el] at q
      refine ⟨bb, hem cc bb el, fun hbt a ha => ?_, fun hbf => ?_⟩
      · subst hbt
        dsimp only at q
        refine ⟨cc, j, el, ι', ρ', G', c1, ?_⟩
        have q2 := PostS.shift q x1
        cases es : s cc j ρ' G' with
        | nx ρ2 G2 => rw [es] at q2; exact q2
        | bk ρ2 G2 => rw [es] at q2; exact q2
        | ct ρ2 G2 => rw [es] at q2; exact q2
        | rt d2 G2 => rw [es] at q2; exact q2
        | er _ _ _ _ => rw [es] at q2; exact False.elim q2
        | st => rw [es] at q2; exact False.elim q2
      · subst hbf
        exact q ι' H' σ' d x1 c1 hj
/-- e.f of the exception at hand -/
def fXf (j : Nat) (f : Str) : FE := fun _ G => match G[j]? with
  | some (.xd fs) => match fs.lookup f with
    | some d => .ok d G
    | none => .st
  | _ => .st
theorem de_xf {W : WX} {c : Str} {j : Nat} {a dd : Addr} {oe : Obj} {pn : List (Addr × Obj)} {f : Str} {p1 p2 : Pos} (T : XfC X.K (He.ga X.K c)) (hno : PySem.W.findIn X.K (.ref (He.ga X.K c)) f = some none) (hz : Zc (.ref (He.ga X.K c)) (some dd) oe) (hv : ∃ vs, oe.data = .fields vs)
    (hi : X.N[i]? = some n := by rfl) (hvis : Vis X.env.scope n := by exact Or.inl rfl) (hd : (n == ("__debug__" : Str)) = false := by decide) (hcd : (n == ("__classdict__" : Str)) = false := by decide) (hbs : attributeBase (.Name n p1) f (X.suite a ((a, oe) :: pn)).env (eval (.Name n p1) (X.suite a ((a, oe) :: pn)).env) = eval (.Name n p1) (X.suite a ((a, oe) :: pn)).env := by rfl) :
    DE (X.suite a ((a, oe) :: pn)) (some (i, a, dd, j)) W (.Attribute (.Name n p1) f p2) (fXf j f) := by
  refine PEm (pe_xf T hno hz hv (pe_var (i := i) hi hvis hd hcd) hbs) fun σ H Q ⟨ι, ρ, G, cf, q⟩ => ?_
  obtain ⟨x1, x2⟩ := cf.xr
  unfold fXf at q
  cases g : G[j]? with
  | none => rw [g] at q; exact False.elim q
  | some o =>
    rw [g] at q
    cases o with
    | xd fs =>
      dsimp only at q
      obtain ⟨vs, hh, hk⟩ := cf.rz.at_ j dd _ x2 g
      have lk := DKs.lookup (f := f) hk
      cases el : fs.lookup f with
      | none => rw [el] at q; exact False.elim q
      | some d =>
        rw [el] at q lk
        obtain ⟨v, l1, l2⟩ := lk
        exact ⟨.ref a, x1, rfl, rfl, dd, vs, v, rfl, hh, l1, q.ok Ext.refl cf.rz l2⟩
    | _ => exact False.elim q
end
end F2
end
section
namespace F2
open PySem PySem.Spec PyProof.Rows L2

/-! ### what the head sees of an own exception class -/
structure ExD where
  x : Str
  name : Str
  qual : Str
  params : Arguments
  body : List Stmt
  scope : Scope
  fields : List Str
def exAd (K : Frag) (d : ExD) : Addr := He.ma K (He.ga K d.x) "__init__"
abbrev FnX : Type := Option (Str × Str × Arguments × FuncBody × Scope × Addr × List Str × Addr)
def exObs (K : Frag) (d : ExD) : FnX := match K.lookup (exAd K d) with
  | some ⟨_, _, .func fd, _⟩ => some (fd.name, fd.qualname, fd.params, fd.body, fd.scope, fd.globals, fd.closure.map (·.1), fd.builtins)
  | _ => none
def exVal (d : ExD) : FnX := some (d.name, d.qual, d.params, .stmts d.body, d.scope, mainGlobals, ["__class__"], builtinsNs)
def ccOf (K : Frag) (d : ExD) : Addr := match K.lookup (exAd K d) with
  | some ⟨_, _, .func fd, _⟩ => match fd.closure with
    | (_, c) :: _ => c
    | _ => 0
  | _ => 0
def cdOf (K : Frag) (d : ExD) : Addr := match K.lookup (exAd K d) with
  | some ⟨_, _, .func fd, _⟩ => match fd.code with
    | .ref c => c
    | _ => 0
  | _ => 0
def oexB (K : Frag) (C : Addr) : Bool := (match K.lookup C with
  | some ⟨.type "type", _, .cls cd, sl⟩ => (match cd.mro, sl.toList with
    | .ref C' :: bm, [_, _, _, _, some (.builtin n), _] => C' == C && n == "ValueError.__new__" && !cd.hasDel && cd.hasDict && HandSPX.refsVE bm
    | _, _ => false)
  | _ => false) && (decide (PySem.W.findIn K (.ref C) "__setattr__" = some (some (.builtin "object.__setattr__"))) && (decide (PySem.W.subIn K (.ref C) (.type "BaseException") = some true) && (decide (PySem.W.typeIn K (.ref C) = some (.type "type")) && PySem.W.keepIn K (.ref C))))
theorem and2 {a b : Bool} (h : (a && b) = true) : a = true ∧ b = true := Bool.and_eq_true_iff.mp h
theorem oexB_ok {K : Frag} {C : Addr} (h : oexB K C = true) : OexC K C := by
  obtain ⟨h0, h⟩ := and2 h
  obtain ⟨h1, h⟩ := and2 h
  obtain ⟨h2, h⟩ := and2 h
  obtain ⟨h3, h4⟩ := and2 h
  refine ⟨?_, of_decide_eq_true h1, of_decide_eq_true h2, of_decide_eq_true h3, h4⟩
  split at h0
  · rename_i dd cd sl ho
    split at h0
    · rename_i C' bm k0 k1 k2 k3 n k5 e1 e2
      simp only [Bool.and_eq_true, Bool.not_eq_true', beq_iff_eq] at h0
      obtain ⟨⟨⟨⟨rfl, rfl⟩, h5⟩, h6⟩, h7⟩ := h0
      obtain ⟨nm, bs, mro, ns, qn, hd, sn, sb, ab, col, del⟩ := cd
      dsimp only at e1 h5 h6
      subst e1 h5 h6
      have e3 : sl = #[k0, k1, k2, k3, some (.builtin "ValueError.__new__"), k5] := by
        apply Array.toList_inj.mp
        rw [e2]
      subst e3
      exact ⟨nm, qn, ns, bs, bm, sn, sb, ab, col, dd, k0, k1, k2, k3, k5, ho, h7⟩
    · cases h0
  · cases h0
def exB (file : Str) (K : Frag) (d : ExD) : Bool :=
  (match K.lookup (exAd K d) with
    | some ⟨_, _, .func fd, _⟩ => decide (fd.closure = [(("__class__" : Str), ccOf K d)]) && (decide (fd.code = .ref (cdOf K d)) && (PySem.W.codeIn K (.ref (cdOf K d)) d.qual && decide (fd.defaults = .none)))
    | _ => false) &&
  ((match K.lookup (cdOf K d) with
    | some ⟨_, _, .fields vs, _⟩ => (match vs[2]? with
      | some (Value.str f _) => file == f
      | _ => false)
    | _ => false) &&
  ((match K.lookup (ccOf K d) with
    | some ⟨_, _, .cell (some (.ref C)), _⟩ => C == He.ga K d.x
    | _ => false) &&
  ((PySem.W.clsIn K (He.ga K d.x)).isSome && (decide (PySem.W.mroIn K (He.ga K d.x) (.ref (He.ga K d.x)) = some true) && (decide (PySem.W.nsIn K cStatics "thirdparty.any" = some none) &&
  (decide (PySem.W.ks_superIn K (He.ga K d.x) (He.ga K d.x) "__init__" = some (some (.builtin "ValueError.__init__"))) && (decide (PySem.W.subIn K (.ref (He.ga K d.x)) (.type "ValueError") = some true) &&
  (oexB K (He.ga K d.x) && (decide (PySem.W.findIn K (.ref (He.ga K d.x)) "__init__" = some (some (.ref (exAd K d)))) && (decide (PySem.W.typeIn K (.ref (exAd K d)) = some (.type "function")) &&
  ((d.fields.all fun f => decide (PySem.W.findIn K (.ref (He.ga K d.x)) f = some none)) && xfB K (He.ga K d.x))))))))))))
/-- what it says -/
structure ExS (P : Program) (K : Frag) (d : ExD) : Prop where
  fn : ∃ oc od dV kV doc pm an ct osl, K.lookup (exAd K d) = some ⟨oc, od, .func (PySem.W.ksFn d.name d.qual d.params d.body d.scope dV kV doc pm an (.ref (cdOf K d)) ct (ccOf K d)), osl⟩ ∧ dV = .none
  cd : PySem.W.codeIn K (.ref (cdOf K d)) d.qual = true
  sup : (P.main.scope.names.lookup ("super" : Str)).isSome = false → SupC P K (He.ga K d.x) (cdOf K d) (ccOf K d)
  oex : OexC K (He.ga K d.x)
  ini : PySem.W.findIn K (.ref (He.ga K d.x)) "__init__" = some (some (.ref (exAd K d)))
  ty : PySem.W.typeIn K (.ref (exAd K d)) = some (.type "function")
  fld : ∀ f ∈ d.fields, PySem.W.findIn K (.ref (He.ga K d.x)) f = some none
  xf : XfC K (He.ga K d.x)
theorem exS_of {P : Program} {K : Frag} {d : ExD} (hv : exObs K d = exVal d) (hb : exB P.main.file K d = true) : ExS P K d := by
  obtain ⟨b1, hb⟩ := and2 hb
  obtain ⟨b2, hb⟩ := and2 hb
  obtain ⟨b3, hb⟩ := and2 hb
  obtain ⟨b4, hb⟩ := and2 hb
  obtain ⟨b5, hb⟩ := and2 hb
  obtain ⟨b6, hb⟩ := and2 hb
  obtain ⟨b7, hb⟩ := and2 hb
  obtain ⟨b8, hb⟩ := and2 hb
  obtain ⟨b9, hb⟩ := and2 hb
  obtain ⟨b10, hb⟩ := and2 hb
  obtain ⟨b11, hb⟩ := and2 hb
  obtain ⟨b12, b13⟩ := and2 hb
  have fnc : (∃ oc od dV kV doc pm an ct osl, K.lookup (exAd K d) = some ⟨oc, od, .func (PySem.W.ksFn d.name d.qual d.params d.body d.scope dV kV doc pm an (.ref (cdOf K d)) ct (ccOf K d)), osl⟩ ∧ dV = .none) ∧ PySem.W.codeIn K (.ref (cdOf K d)) d.qual = true := by
    unfold exObs at hv
    split at b1
    · rename_i oc od fd osl ho
      rw [ho] at hv
      simp only [Bool.and_eq_true, decide_eq_true_eq] at b1
      obtain ⟨c1, c2, c3, c4⟩ := b1
      obtain ⟨n1, n2, n3, n4, n5, n6, n7, n8, n9, n10, n11, n12, n13, n14, n15⟩ := fd
      simp only [exVal, Option.some.injEq, Prod.mk.injEq] at hv
      obtain ⟨h1, h2, h3, h4, h5, h6, h7, h8⟩ := hv
      dsimp only at c1 c2 c4
      subst h1 h2 h3 h4 h5 h6 h8 c1 c2
      exact ⟨⟨oc, od, n8, n9, n10, n11, n12, n14, osl, ho, c4⟩, c3⟩
    · cases b1
  refine ⟨fnc.1, fnc.2, fun top => ⟨?_, ?_, ?_, of_decide_eq_true b5, of_decide_eq_true b6, of_decide_eq_true b7, of_decide_eq_true b8, top⟩, oexB_ok b9, of_decide_eq_true b10, of_decide_eq_true b11, fun f hf => of_decide_eq_true (List.all_eq_true.mp b12 f hf), xfB_ok b13⟩
  · split at b2
    · rename_i a1 a2 vs a3 ho
      split at b2
      · rename_i f tk e2
        exact ⟨_, _, vs, _, f, tk, ho, e2, b2⟩
      · cases b2
    · cases b2
  · split at b3
    · rename_i a1 a2 C a3 ho
      have e : C = He.ga K d.x := eq_of_beq b3
      subst e
      exact ⟨_, _, _, ho⟩
    · cases b3
  · obtain ⟨cd, h⟩ := Option.isSome_iff_exists.mp b4
    exact ⟨cd, h⟩
/-! ### the Hook -/
abbrev AlE : Type := He.AlD × (Bool × List FnX)
/-- a tuple of the written part, by its name -/
abbrev TuD : Type := Str × List He.Dv
theorem tuB_ok {K : Frag} {x : Str} {vs : List He.Dv} (h : He.tupB K x vs = true) : KTup K (He.ga K x) (vs.map (He.Dv.v K)) := by
  unfold He.tupB at h
  cases q : K.lookup (He.ga K x) with
  | none => rw [q] at h; cases h
  | some o =>
    obtain ⟨oc, od, dt, osl⟩ := o
    rw [q] at h
    cases oc with
    | type c =>
      cases dt with
      | seq its n =>
        obtain ⟨h1, h2⟩ := and2 (show (decide (c = "tuple") && (decide (its.size ≤ sizeLine) && He.relAll (vs.map (He.Dv.v K)) its.toList)) = true from h)
        obtain ⟨h3, h4⟩ := and2 h2
        exact ⟨_, its, n, q, congrArg Value.type (of_decide_eq_true h1), rfl, of_decide_eq_true h3, He.relAll_ok h4⟩
      | _ => cases h
    | _ => cases dt <;> cases h
def obsE (fa : List He.Fa) (fn : List He.DefD) (file : Str) (ex : List ExD) (tu : List TuD) (K : Frag) : AlE := (He.obsD fa fn K, ((ex.all fun d => exB file K d) && (tu.all fun p => He.tupB K p.1 p.2), ex.map fun d => exObs K d))
def valE (fn : List He.DefD) (ex : List ExD) : AlE := (He.valD fn, (true, ex.map exVal))
def SaysE (fa : List He.Fa) (fn : List He.DefD) (file : Str) (ex : List ExD) (tu : List TuD) (K : Frag) : Prop := obsE fa fn file ex tu K = valE fn ex
def obsEG (n : Nat) (fa : List He.Fa) (fn : List He.DefD) (file : Str) (ex : List ExD) (tu : List TuD) (g : Addr → Option Obj) : AlE := obsE fa fn file ex tu (He.frG g (cStatics :: He.asD g n))
def hookE (n : Nat) (fa : List He.Fa) (fn : List He.DefD) (file : Str) (ex : List ExD) (tu : List TuD) : PySem.W.Hook where
  α := AlE
  obs := fun s => obsEG n fa fn file ex tu s.heap.get?
  val := fun _ => valE fn ex
  says := fun _ h => ∃ K : PySem.W.Frag, K.In h ∧ SaysE fa fn file ex tu K
  of := fun _ _ e => ⟨_, He.frG_in, e⟩
  keeps := fun _ _ _ ⟨K, hK, c⟩ k => ⟨K, PySem.W.Frag.In.keeps hK k, c⟩
theorem obsEG_eq {n : Nat} {fa : List He.Fa} {fn : List He.DefD} {file : Str} {ex : List ExD} {tu : List TuD} {g : Addr → Option Obj} {s : Shared} (h : ∀ a, g a = s.heap.get? a) : obsEG n fa fn file ex tu g = (hookE n fa fn file ex tu).obs s := by
  have e : g = s.heap.get? := funext h
  rw [e]; rfl
theorem SaysE.d {fa : List He.Fa} {fn : List He.DefD} {file : Str} {ex : List ExD} {tu : List TuD} {K : Frag} (c : SaysE fa fn file ex tu K) : He.SaysD fa fn K := congrArg (fun z : AlE => z.1) c
theorem SaysE.ex {fa : List He.Fa} {fn : List He.DefD} {P : Program} {ex : List ExD} {tu : List TuD} {K : Frag} (c : SaysE fa fn P.main.file ex tu K) (i : Nat) {d : ExD} (h : ex[i]? = some d := by rfl) : ExS P K d := by
  have c1 := (and2 (show ((ex.all fun d => exB P.main.file K d) && (tu.all fun p => He.tupB K p.1 p.2)) = true from congrArg (fun z : AlE => z.2.1) c)).1
  have c2 : (ex.map fun d => exObs K d) = ex.map exVal := congrArg (fun z : AlE => z.2.2) c
  have e2 : (ex.map fun d => exObs K d)[i]? = (ex.map exVal)[i]? := by rw [c2]
  rw [List.getElem?_map, List.getElem?_map, h] at e2
  exact exS_of (Option.some.inj e2) (List.all_eq_true.mp c1 d (List.mem_of_getElem? h))
theorem SaysE.tu {fa : List He.Fa} {fn : List He.DefD} {file : Str} {ex : List ExD} {tu : List TuD} {K : Frag} (c : SaysE fa fn file ex tu K) (i : Nat) {p : TuD} (h : tu[i]? = some p := by rfl) : KTup K (He.ga K p.1) (p.2.map (He.Dv.v K)) := by
  have c1 := (and2 (show ((ex.all fun d => exB file K d) && (tu.all fun p => He.tupB K p.1 p.2)) = true from congrArg (fun z : AlE => z.2.1) c)).2
  exact tuB_ok (List.all_eq_true.mp c1 p (List.mem_of_getElem? h))
/-! ### the bodies of such __init__ -/
section
variable {X : Cx} {C : Addr} {f g : Str} {e : Expr} {es : List Expr} {rest : List Stmt} {H : Hp} {vs : List V} {Q : VK} {E : XK} {N : List Str}
/-- super().__init__(str(p)); self.f = p -/
theorem hbody1 (hN : N.length = 2) (TC : OexC X.K C) (hno : PySem.W.findIn X.K (.ref C) f = some none) (he : PA X (e :: es) (tCons (tCB rStr (tCons (tVar 1) tNil)) tNil)) (hr : PSs X rest (tOst X.K f (tVar 0) (tVar 1))) (h : SpX C 1 okV1 (fv1 f) vs H Q E) :
    ∃ (a : Addr) (te : TA) (tr : TS), (L2.start N vs)[0]? = some (some (.ref a)) ∧ H a = some (exo a C none) ∧ PA X (e :: es) te ∧ PSs X rest tr ∧
      ∀ Φ : List V → Hp → Prop, (∀ ws H1, ws.length ≤ 1000 → H1 a = some (exo a C none) → tr { nx := fun _ H' => Q .non H', rt := Q } (L2.start N vs) H1 → Φ ws H1) → te (L2.start N vs) H Φ := by
  obtain ⟨a, ys, rfl, hl, ⟨y, z, rfl, hz⟩, ha, hq⟩ := h
  have hs : L2.start N [V.ref a, y] = [some (.ref a), some y] := by
    unfold L2.start
    simp [hN]
  rw [hs]
  refine ⟨a, _, _, rfl, ha, he, hr, fun Φ hΦ => ?_⟩
  exact tStr_of rfl hz (hΦ [.str z] H (by simp) ha ⟨y, rfl, .ref a, rfl, a, C, rfl, TC, hno, .inl ⟨ha, fun dx h1 h2 => hq dx h1 h2⟩⟩)
/-- super().__init__(str(p) + ' ' + str(q)); self.f = p; self.g = q -/
theorem hbody2 {sep : Str} (hsep : sep.length = 1) (hN : N.length = 3) (TC : OexC X.K C) (hno : PySem.W.findIn X.K (.ref C) f = some none) (hno2 : PySem.W.findIn X.K (.ref C) g = some none)
    (he : PA X (e :: es) (tCons (tOp (fun x y H Q => ∃ i j, x = .str i ∧ y = .str j ∧ i.length + j.length ≤ sizeLine ∧ Q (.str (i ++ j)) H) (tOp (fun x y H Q => ∃ i j, x = .str i ∧ y = .str j ∧ i.length + j.length ≤ sizeLine ∧ Q (.str (i ++ j)) H) (tCB rStr (tCons (tVar 1) tNil)) (fun _ H Q => Q (.str sep) H)) (tCB rStr (tCons (tVar 2) tNil))) tNil))
    (hr : PSs X rest (fun D σ H => tOst X.K f (tVar 0) (tVar 1) { D with nx := tOst X.K g (tVar 0) (tVar 2) D } σ H)) (h : SpX C 2 okV2 (fv2 f g) vs H Q E) :
    ∃ (a : Addr) (te : TA) (tr : TS), (L2.start N vs)[0]? = some (some (.ref a)) ∧ H a = some (exo a C none) ∧ PA X (e :: es) te ∧ PSs X rest tr ∧
      ∀ Φ : List V → Hp → Prop, (∀ ws H1, ws.length ≤ 1000 → H1 a = some (exo a C none) → tr { nx := fun _ H' => Q .non H', rt := Q } (L2.start N vs) H1 → Φ ws H1) → te (L2.start N vs) H Φ := by
  obtain ⟨a, ys, rfl, hl, ⟨y, y2, u, v, rfl, hu, hv, l1, l2⟩, ha, hq⟩ := h
  have hs : L2.start N [V.ref a, y, y2] = [some (.ref a), some y, some y2] := by
    unfold L2.start
    simp [hN]
  rw [hs]
  refine ⟨a, _, _, rfl, ha, he, hr, fun Φ hΦ => ?_⟩
  have ll : (u ++ sep).length = u.length + sep.length := by
    show (u.cps ++ sep.cps).size = u.cps.size + sep.cps.size
    simp
  refine tStr_of rfl hu ⟨u, sep, rfl, rfl, by rw [szl, hsep]; omega, tStr_of rfl hv ⟨u ++ sep, v, rfl, rfl, by rw [szl, ll, hsep]; omega, hΦ [_] H (by simp) ha ?_⟩⟩
  refine ⟨y, rfl, .ref a, rfl, a, C, rfl, TC, hno, .inl ⟨ha, fun dx h1 h2 => ?_⟩⟩
  refine ⟨y2, rfl, .ref a, rfl, a, C, rfl, TC, hno2, .inr ⟨dx, [(f, y)], upd_same, by rw [upd_ne h2, upd_same], by simp, ?_⟩⟩
  show Q .non _
  rw [upd3 h2]
  exact hq dx h1 h2
end
end F2
end
section
namespace F2
open PySem PySem.Spec PyProof.Rows L2

/-! ### a op b op c -/
def fChain (g g' : D → D → GH → R D) (fa fb fc : FE) : FE := fun ρ G => (fa ρ G).bind fun x G1 => (fb ρ G1).bind fun y G2 => (g x y G2).bind fun z G3 => match z with
  | .bl true => (fc ρ G3).bind fun w G4 => g' y w G4
  | .bl false => .ok (.bl false) G3
  | _ => .st
@[simp] theorem x_fChain (g g' : D → D → GH → R D) (fa fb fc : FE) (ρ : Rho) (G : GH) : fChain g g' fa fb fc ρ G = (fa ρ G).bind fun x G1 => (fb ρ G1).bind fun y G2 => (g x y G2).bind fun z G3 => match z with
  | .bl true => (fc ρ G3).bind fun w G4 => g' y w G4
  | .bl false => .ok (.bl false) G3
  | _ => .st := rfl
section
variable {X : Cx} {xa : XA} {W : WX} {a b c : Expr} {fa fb fc : FE} {pos : Pos} {g g' : D → D → GH → R D} {r r' : R2} {op op' : CmpOp}
theorem tE_chain {K : Frag} (ho : Op2 K g r) (ho' : Op2 K g' r') (σ : L2.St) (H : Hp) (Q : VK) (q : tE K xa W (fChain g g' fa fb fc) σ H Q) : tChain r r' (tE K xa W fa) (tE K xa W fb) (tE K xa W fc) σ H Q := by
  obtain ⟨ι, ρ, G, cf, p⟩ := q
  refine ⟨ι, ρ, G, cf, (Post.bind (rel := DV K) p).mono fun v H1 ⟨ι1, x, G1, e1, r1, d1, p1⟩ => ?_⟩
  refine ⟨ι1, ρ, G1, cf.ext e1 r1, (Post.bind (rel := DV K) p1).mono fun u H2 ⟨ι2, y, G2, e2, r2, d2, p2⟩ => ?_⟩
  refine ho W σ ι2 H2 G2 x y v u _ r2 (d1.ext e2) d2 ((Post.bind (rel := DV K) p2).mono fun z H3 ⟨ι3, dz, G3, e3, r3, d3, p3⟩ => ?_)
  cases dz with
  | bl k =>
    simp only [DV] at d3
    refine ⟨k, d3, ?_⟩
    cases k with
    | true =>
      rw [if_pos rfl]
      refine ⟨ι3, ρ, G3, ((cf.ext e1 r1).ext e2 r2).ext e3 r3, (Post.bind (rel := DV K) p3).mono fun w H4 ⟨ι4, dw, G4, e4, r4, d4, p4⟩ => ?_⟩
      exact ho' W σ ι4 H4 G4 y dw u w Q r4 ((d2.ext e3).ext e4) d4 p4
    | false =>
      rw [if_neg (by simp)]
      exact p3.ok Ext.refl r3 (by simp only [DV])
  | _ => exact False.elim p3
theorem dt_chain (hr : OpR X (compareOp op) r) (hr' : OpR X (compareOp op') r') (ho : Op2 X.K g r) (ho' : Op2 X.K g' r') (ha : DE X xa W a fa) (hb : DE X xa W b fb) (hc : DE X xa W c fc) (hm : lastMarks [op, op'] [b, c] = false := by with_unfolding_all rfl) :
    DT X xa W (.Compare a [op, op'] [b, c] pos) (fB (fChain g g' fa fb fc)) :=
  PTm (pt_chain hr hr' ha hb hc hm) fun σ H Q q => tT_b (fun _ _ _ z => tE_chain ho ho' _ _ _ z) σ H Q q
theorem de_chain (hr : OpR X (compareOp op) r) (hr' : OpR X (compareOp op') r') (ho : Op2 X.K g r) (ho' : Op2 X.K g' r') (ha : DE X xa W a fa) (hb : DE X xa W b fb) (hc : DE X xa W c fc) (hm : lastMarks [op, op'] [b, c] = false := by with_unfolding_all rfl) :
    DE X xa W (.Compare a [op, op'] [b, c] pos) (fChain g g' fa fb fc) := PEm (pe_chain hr hr' ha hb hc hm) (tE_chain ho ho')
end
/-- one class, one clause -/
theorem em1 {K : Frag} {c0 x : Str} {b0 : Bool} (h : PySem.W.exmOne K (.ref (He.ga K c0)) (.ref (He.ga K x)) = some b0) : ∀ c b, ([(c0, b0)] : List (Str × Bool)).lookup c = some b → PySem.W.exmOne K (.ref (He.ga K c)) (.ref (He.ga K x)) = some b := by
  intro c b hc
  rw [List.lookup_cons] at hc
  split at hc
  · rename_i e
    cases hc
    rw [eq_of_beq e]; exact h
  · cases hc
theorem em1_c {c c0 : Str} {b b0 : Bool} (h : ([(c0, b0)] : List (Str × Bool)).lookup c = some b) : c = c0 := by
  rw [List.lookup_cons] at h
  split at h
  · rename_i e; exact eq_of_beq e
  · cases h
@[simp] theorem x_sRaise (C : Str) (okd : List D → Bool) (fd : List D → List (Str × D)) (f : FA) (ρ : Rho) (G : GH) : sRaise C okd fd f ρ G = (f ρ G).toS ρ fun xs G1 => if okd xs = true then .er C G1.length ρ (G1 ++ [.xd (fd xs)]) else .st := rfl
theorem x_sTryAs (i : Nat) (em : List (Str × Bool)) (b : FS) (s : Str → Nat → FS) (ρ : Rho) (G : GH) : sTryAs i em b s ρ G = match b ρ G with
  | .er c j ρ' G' => match em.lookup c with
    | some true => if i < ρ'.length then RS.clr i (s c j (ρ'.set i none) G') else .st
    | some false => .er c j ρ' G'
    | none => .st
  | r => r := rfl
theorem x_fXf (j : Nat) (f : Str) (ρ : Rho) (G : GH) : fXf j f ρ G = match G[j]? with
  | some (.xd fs) => match fs.lookup f with
    | some d => .ok d G
    | none => .st
  | _ => .st := rfl
end F2
end
section
namespace F2
open PySem PySem.Spec PyProof.Rows L2

/-! ### trees of texts: == decides -/
def sB : Nat → D → Bool
  | 0, _ => false
  | _ + 1, .non => true
  | _ + 1, .str _ => true
  | n + 1, .tup xs => xs.all (sB n)
  | _ + 1, _ => false
theorem eqv_sB (G : GH) : ∀ (n : Nat) (d e : D) (p q : PyData), sB n d = true → sB n e = true → py G n d = some p → py G n e = some q → (PyData.eqv p q = true ↔ d = e)
  | 0, _, _, _, _, h, _, _, _ => by cases h
  | n + 1, d, e, p, q, hd, he, h1, h2 => by
    have ih := eqv_sB G n
    have all : ∀ (xs ys : List D) (ps qs : List PyData), (∀ x ∈ xs, sB n x = true) → (∀ y ∈ ys, sB n y = true) → pys (py G n) xs = some ps → pys (py G n) ys = some qs → (PyData.eqvAll ps qs = true ↔ xs = ys) := by
      intro xs
      induction xs with
      | nil =>
        intro ys ps qs _ hy e1 e2
        cases e1
        cases ys with
        | nil => cases e2; simp [PyData.eqvAll]
        | cons y ys =>
          simp only [pys] at e2
          split at e2
          · cases e2; simp [PyData.eqvAll]
          · cases e2
      | cons x xs ihx =>
        intro ys ps qs hx hy e1 e2
        simp only [pys] at e1
        split at e1
        · rename_i p ps' a1 a2
          cases e1
          cases ys with
          | nil => cases e2; simp [PyData.eqvAll]
          | cons y ys =>
            simp only [pys] at e2
            split at e2
            · rename_i q qs' c1 c2
              cases e2
              have k1 := ih x y p q (hx x (List.mem_cons_self ..)) (hy y (List.mem_cons_self ..)) a1 c1
              have k2 := ihx ys ps' qs' (fun z hz => hx z (List.mem_cons_of_mem _ hz)) (fun z hz => hy z (List.mem_cons_of_mem _ hz)) a2 c2
              rw [PyData.eqvAll, Bool.and_eq_true, k1, k2, List.cons.injEq]
            · cases e2
        · cases e1
    cases d with
    | non =>
      cases e with
      | non => simp only [py, Option.some.injEq] at h1 h2; subst h1 h2; simp [PyData.eqv]
      | str y => simp only [py, Option.some.injEq] at h1 h2; subst h1 h2; simp [PyData.eqv]
      | tup ys => simp only [py, Option.some.injEq] at h1 h2; obtain ⟨qs, _, rfl⟩ := Option.map_eq_some_iff.mp h2; subst h1; simp [PyData.eqv]
      | _ => cases he
    | str x =>
      cases e with
      | non => simp only [py, Option.some.injEq] at h1 h2; subst h1 h2; simp [PyData.eqv]
      | str y => simp only [py, Option.some.injEq] at h1 h2; subst h1 h2; simp [PyData.eqv]
      | tup ys => simp only [py, Option.some.injEq] at h1 h2; obtain ⟨qs, _, rfl⟩ := Option.map_eq_some_iff.mp h2; subst h1; simp [PyData.eqv]
      | _ => cases he
    | tup xs =>
      simp only [py] at h1
      obtain ⟨ps, a1, rfl⟩ := Option.map_eq_some_iff.mp h1
      cases e with
      | non => simp only [py, Option.some.injEq] at h2; subst h2; simp [PyData.eqv]
      | str y => simp only [py, Option.some.injEq] at h2; subst h2; simp [PyData.eqv]
      | tup ys =>
        simp only [py] at h2
        obtain ⟨qs, a2, rfl⟩ := Option.map_eq_some_iff.mp h2
        have hx : xs.all (sB n) = true := hd
        have hy : ys.all (sB n) = true := he
        rw [PyData.eqv, all xs ys ps qs (List.all_eq_true.mp hx) (List.all_eq_true.mp hy) a1 a2, D.tup.injEq]
      | _ => cases he
    | _ => cases hd
theorem sB_pl : ∀ {n : Nat} {d : D}, sB n d = true → plB n d = true
  | 0, _, h => by cases h
  | n + 1, .non, _ => rfl
  | n + 1, .str _, _ => rfl
  | n + 1, .tup xs, h => by
    have h' : xs.all (sB n) = true := h
    show xs.all (plB n) = true
    rw [List.all_eq_true] at h' ⊢
    exact fun x hx => sB_pl (h' x hx)
theorem sB_mono : ∀ {n m : Nat} {d : D}, n ≤ m → sB n d = true → sB m d = true
  | 0, _, _, _, h => by cases h
  | n + 1, 0, _, hm, _ => absurd hm (by omega)
  | n + 1, m + 1, .tup xs, hm, h => by
    have h' : xs.all (sB n) = true := h
    show xs.all (sB m) = true
    rw [List.all_eq_true] at h' ⊢
    exact fun x hx => sB_mono (by omega) (h' x hx)
  | n + 1, m + 1, .non, _, _ => rfl
  | n + 1, m + 1, .str _, _, _ => rfl
theorem any_eqv {G : GH} {x : D} {p : PyData} (hx : sB 64 x = true) (ep : py G 64 x = some p) : ∀ {ys : List D} {ps : List PyData}, (∀ y ∈ ys, sB 64 y = true) → pys (py G 64) ys = some ps → ((ps.any fun z => PyData.eqv z p) = true ↔ x ∈ ys)
  | [], ps, _, e => by cases e; simp
  | y :: ys, ps, h, e => by
    simp only [pys] at e
    split at e
    · rename_i q qs e1 e2
      cases e
      have k1 := eqv_sB G 64 y x q p (h y (List.mem_cons_self ..)) hx e1 ep
      have k2 := any_eqv hx ep (fun z hz => h z (List.mem_cons_of_mem _ hz)) e2
      rw [List.any_cons, Bool.or_eq_true, k1, k2, List.mem_cons]
      constructor
      · rintro (h | h)
        · exact .inl h.symm
        · exact .inr h
      · rintro (h | h)
        · exact .inl h.symm
        · exact .inr h
    · cases e
open Classical in
theorem notIn_sB {G : GH} {i : Nat} {x : D} {ys : List D} (g : G[i]? = some (.lst ys)) (hx : sB 64 x = true) (hy : ∀ y ∈ ys, sB 64 y = true) : gNotIn x (.ref i) G = .ok (.bl (!decide (x ∈ ys))) G := by
  obtain ⟨p, ep, _⟩ := py_pl G 64 x (sB_pl hx)
  obtain ⟨ps, es, _⟩ := pys_pl (f := py G 64) (xs := ys) fun y h => py_pl G 64 y (sB_pl (hy y h))
  have k := any_eqv hx ep hy es
  unfold gNotIn inB itemsD
  dsimp only
  rw [g]
  dsimp only
  rw [ep, es]
  dsimp only [Option.map_some]
  have e : (ps.any fun z => PyData.eqv z p) = decide (x ∈ ys) := by
    by_cases h : x ∈ ys
    · rw [k.mpr h, decide_eq_true h]
    · have h2 : ¬ (ps.any fun z => PyData.eqv z p) = true := fun z => h (k.mp z)
      rw [decide_eq_false h]; simpa using h2
  rw [e]; rfl
/-- two lists of the same trees -/
theorem ne_lists {G : GH} {i j : Nat} {xs : List D} (h1 : G[i]? = some (.lst xs)) (h2 : G[j]? = some (.lst xs)) (hp : ∀ x ∈ xs, plB 63 x = true) : gNe (.ref i) (.ref j) G = .ok (.bl false) G := by
  obtain ⟨ps, e, pl⟩ := pys_pl (f := py G 63) (xs := xs) fun x hx => py_pl G 63 x (hp x hx)
  have e1 : py G 64 (.ref i) = some (.list ps) := by simp only [py, h1, e, Option.map_some]
  have e2 : py G 64 (.ref j) = some (.list ps) := by simp only [py, h2, e, Option.map_some]
  have e3 : eqB (.ref i) (.ref j) G = some true := by
    unfold eqB
    dsimp only
    rw [h1, h2]
    dsimp only
    unfold eqDeep
    rw [e1, e2]
    dsimp only
    rw [eqv_self (p := .list ps) (by rw [PyData.plain]; exact pl)]
  unfold gNe
  rw [e3]; rfl
/-! ### x in (a, b, ..) of trees -/
open Classical in
theorem inB_sB {G : GH} {x y : D} {ys : List D} (g : itemsD G y = some ys) (hx : sB 64 x = true) (hy : ∀ y ∈ ys, sB 64 y = true) : inB x y G = some (decide (x ∈ ys)) := by
  obtain ⟨p, ep, _⟩ := py_pl G 64 x (sB_pl hx)
  obtain ⟨ps, es, _⟩ := pys_pl (f := py G 64) (xs := ys) fun y h => py_pl G 64 y (sB_pl (hy y h))
  have k := any_eqv hx ep hy es
  unfold inB
  rw [g]
  dsimp only
  rw [ep, es]
  dsimp only
  congr 1
  by_cases h : x ∈ ys
  · rw [k.mpr h, decide_eq_true h]
  · have h2 : ¬ (ps.any fun z => PyData.eqv z p) = true := fun z => h (k.mp z)
    rw [decide_eq_false h]; simpa using h2
theorem inB_strs {G : GH} {s : Str} {y : D} (l : List Str) (g : itemsD G y = some (l.map D.str)) : inB (.str s) y G = some (decide (s ∈ l)) := by
  rw [inB_sB g rfl (fun y hy => by obtain ⟨z, _, rfl⟩ := List.mem_map.mp hy; rfl)]
  congr 1
  simp
@[simp] theorem in_s2 (s a b : Str) (G : GH) : gIn (.str s) (.tup [.str a, .str b]) G = .ok (.bl (decide (s = a ∨ s = b))) G := by
  unfold gIn; rw [inB_strs [a, b] rfl]; simp [ofB]
@[simp] theorem in_s3 (s a b c : Str) (G : GH) : gIn (.str s) (.tup [.str a, .str b, .str c]) G = .ok (.bl (decide (s = a ∨ s = b ∨ s = c))) G := by
  unfold gIn; rw [inB_strs [a, b, c] rfl]; simp [ofB]
@[simp] theorem in_k2 (s a b : Str) (G : GH) : gIn (.str s) (.ktup [.str a, .str b]) G = .ok (.bl (decide (s = a ∨ s = b))) G := by
  unfold gIn; rw [inB_strs [a, b] rfl]; simp [ofB]
@[simp] theorem in_k3 (s a b c : Str) (G : GH) : gIn (.str s) (.ktup [.str a, .str b, .str c]) G = .ok (.bl (decide (s = a ∨ s = b ∨ s = c))) G := by
  unfold gIn; rw [inB_strs [a, b, c] rfl]; simp [ofB]
@[simp] theorem notin_s2 (s a b : Str) (G : GH) : gNotIn (.str s) (.tup [.str a, .str b]) G = .ok (.bl (!decide (s = a ∨ s = b))) G := by
  unfold gNotIn; rw [inB_strs [a, b] rfl]; simp [ofB]
/-- a tuple is no text -/
theorem notin_t2 {xs : List D} {a b : Str} {G : GH} (h : sB 64 (.tup xs) = true) : gNotIn (.tup xs) (.tup [.str a, .str b]) G = .ok (.bl true) G := by
  unfold gNotIn
  rw [inB_sB (ys := [.str a, .str b]) rfl h (fun y hy => by simp at hy; rcases hy with rfl | rfl <;> rfl)]
  simp [ofB]
/-- two lists of trees: == decides -/
theorem pys_eqv {G : GH} : ∀ {xs ys : List D} {ps qs : List PyData}, (∀ x ∈ xs, sB 63 x = true) → (∀ y ∈ ys, sB 63 y = true) → pys (py G 63) xs = some ps → pys (py G 63) ys = some qs → (PyData.eqvAll ps qs = true ↔ xs = ys)
  | [], [], _, _, _, _, h1, h2 => by cases h1; cases h2; simp [PyData.eqvAll]
  | [], y :: ys, _, _, _, _, h1, h2 => by
    cases h1
    simp only [pys] at h2
    split at h2
    · cases h2; simp [PyData.eqvAll]
    · cases h2
  | x :: xs, [], _, _, _, _, h1, h2 => by
    cases h2
    simp only [pys] at h1
    split at h1
    · cases h1; simp [PyData.eqvAll]
    · cases h1
  | x :: xs, y :: ys, _, _, hx, hy, h1, h2 => by
    simp only [pys] at h1 h2
    split at h1
    · rename_i p ps e1 e2
      cases h1
      split at h2
      · rename_i q qs e3 e4
        cases h2
        have k1 := eqv_sB G 63 x y p q (hx x (List.mem_cons_self ..)) (hy y (List.mem_cons_self ..)) e1 e3
        have k2 := pys_eqv (fun z hz => hx z (List.mem_cons_of_mem _ hz)) (fun z hz => hy z (List.mem_cons_of_mem _ hz)) e2 e4
        rw [PyData.eqvAll, Bool.and_eq_true, k1, k2, List.cons.injEq]
      · cases h2
    · cases h1
open Classical in
theorem eq_lists {G : GH} {i j : Nat} {xs ys : List D} (h1 : G[i]? = some (.lst xs)) (h2 : G[j]? = some (.lst ys)) (hx : ∀ x ∈ xs, sB 63 x = true) (hy : ∀ y ∈ ys, sB 63 y = true) : gEq (.ref i) (.ref j) G = .ok (.bl (decide (xs = ys))) G := by
  obtain ⟨ps, e, _⟩ := pys_pl (f := py G 63) (xs := xs) fun x h => py_pl G 63 x (sB_pl (hx x h))
  obtain ⟨qs, e', _⟩ := pys_pl (f := py G 63) (xs := ys) fun x h => py_pl G 63 x (sB_pl (hy x h))
  have k := pys_eqv hx hy e e'
  have e1 : py G 64 (.ref i) = some (.list ps) := by simp only [py, h1, e, Option.map_some]
  have e2 : py G 64 (.ref j) = some (.list qs) := by simp only [py, h2, e', Option.map_some]
  have e3 : eqB (.ref i) (.ref j) G = some (decide (xs = ys)) := by
    unfold eqB
    dsimp only
    rw [h1, h2]
    dsimp only
    unfold eqDeep
    rw [e1, e2]
    dsimp only
    rw [PyData.eqv]
    congr 1
    by_cases h : xs = ys
    · rw [k.mpr h, decide_eq_true h]
    · rw [decide_eq_false h]
      have h2 : ¬ PyData.eqvAll ps qs = true := fun z => h (k.mp z)
      simpa using h2
  unfold gEq
  rw [e3]; rfl
@[simp] theorem g_add_str (a b : Str) (G : GH) : gAdd (.str a) (.str b) G = if a.length + b.length ≤ 16777216 then .ok (.str (a ++ b)) G else .st := rfl
end F2
end
section
namespace Wk17
open PySem PySem.Spec PyProof.Rows L2 F2
abbrev top (i : Nat) : Stmt := PySem.Challenge.pw_pourparler_k17_kinds_of_expressions.main.body.getD i (.Pass ⟨0, 0, 0, 0⟩)
abbrev inClass (c : Stmt) (j : Nat) : Stmt := (match c with | .ClassDef (body := b) .. => b | _ => []).getD j (.Pass ⟨0, 0, 0, 0⟩)
/-!  operator_kind -/
abbrev s2 : Stmt := top 7
abbrev N2 : List Str := ["name", "one", "two"]
abbrev P2 : List Str := ["name", "one", "two"]
noncomputable def b2 (φ : Nat → FD) : FS := sSeq (sIf (fAndT (fB (f2 gIn (fV 0) (fC (.ktup [.str "add", .str "sub", .str "mul"])))) (fAndT (fB (f2 gEq (fV 1) (fC (.str "int")))) (fB (f2 gEq (fV 2) (fC (.str "int")))))) (sSeq (sRet (fC (.str "int"))) (sNil)) (sNil)) (sSeq (sIf (fAndT (fB (f2 gIn (fV 0) (fC (.ktup [.str "lt", .str "le"])))) (fAndT (fB (f2 gEq (fV 1) (fC (.str "int")))) (fB (f2 gEq (fV 2) (fC (.str "int")))))) (sSeq (sRet (fC (.str "bool"))) (sNil)) (sNil)) (sSeq (sIf (fAndT (fB (f2 gEq (fV 0) (fC (.str "eq")))) (fB (f2 gEq (fV 1) (fV 2)))) (sSeq (sRet (fC (.str "bool"))) (sNil)) (sNil)) (sSeq (sIf (fAndT (fB (f2 gIn (fV 0) (fTup (fAc (fC (.str "and")) (fAc (fC (.str "or")) (fA0)))))) (fAndT (fB (f2 gEq (fV 1) (fC (.str "bool")))) (fB (f2 gEq (fV 2) (fC (.str "bool")))))) (sSeq (sRet (fC (.str "bool"))) (sNil)) (sNil)) (sSeq (sRet (fC .non)) (sNil)))))
def d2 : He.DefD := ⟨("operator_kind", none), "operator_kind", "operator_kind", defArgs s2, defBody s2, defScope s2, [], []⟩
theorem sc2 : FnScope N2 P2 (defScope s2) := ⟨rfl, rfl, rfl, by decide +kernel, rfl, by decide +kernel, by decide +kernel⟩
/-!  name_kind -/
abbrev s3 : Stmt := top 8
abbrev N3 : List Str := ["name", "context", "at"]
abbrev P3 : List Str := ["name", "context", "at"]
noncomputable def b3 (φ : Nat → FD) : FS := sSeq (sIf (fNotT (fTru (fMethD "Context" "binds" 2 (φ 6) [] (fV 1) (fAc (fV 0) (fA0))))) (sSeq (sRaise "Mistaken" okD2 (fd2 "at" "why") (fAc (fV 2) (fAc (fC (.str "unknown")) (fA0)))) (sNil)) (sNil)) (sSeq (sIf (fTru (fMethD "Context" "is_end" 2 (φ 8) [] (fV 1) (fAc (fV 0) (fA0)))) (sSeq (sRaise "Mistaken" okD2 (fd2 "at" "why") (fAc (fV 2) (fAc (fC (.str "kind")) (fA0)))) (sNil)) (sNil)) (sSeq (sRet (fMethD "Context" "kind" 2 (φ 7) [] (fV 1) (fAc (fV 0) (fA0)))) (sNil)))
def d3 : He.DefD := ⟨("name_kind", none), "name_kind", "name_kind", defArgs s3, defBody s3, defScope s3, [], []⟩
theorem sc3 : FnScope N3 P3 (defScope s3) := ⟨rfl, rfl, rfl, by decide +kernel, rfl, by decide +kernel, by decide +kernel⟩
/-!  kind_of -/
abbrev s4 : Stmt := top 9
abbrev N4 : List Str := ["expression", "context", "at", "head", "one", "found"]
abbrev P4 : List Str := ["expression", "context", "at"]
noncomputable def b4 (φ : Nat → FD) : FS := sSeq (sSet (.nm 3) (f2 gIx (fV 0) (fC (.int 0)))) (sSeq (sIf (fB (f2 gIn (fV 3) (fTup (fAc (fC (.str "int")) (fAc (fC (.str "bool")) (fA0)))))) (sSeq (sRet (fV 3)) (sNil)) (sNil)) (sSeq (sIf (fB (f2 gEq (fV 3) (fC (.str "var")))) (sSeq (sRet (fCal 3 (φ 3) [] (fAc (f2 gIx (fV 0) (fC (.int 1))) (fAc (fV 1) (fAc (fV 2) (fA0)))))) (sNil)) (sNil)) (sSeq (sSet (.nm 4) (fCal 3 (φ 4) [] (fAc (f2 gIx (fV 0) (fC (.int 1))) (fAc (fV 1) (fAc (fV 2) (fA0)))))) (sSeq (sIf (fB (f2 gEq (fV 3) (fC (.str "not")))) (sSeq (sIf (fB (f2 gNe (fV 4) (fC (.str "bool")))) (sSeq (sRaise "Mistaken" okD2 (fd2 "at" "why") (fAc (fV 2) (fAc (fC (.str "kind")) (fA0)))) (sNil)) (sNil)) (sSeq (sRet (fC (.str "bool"))) (sNil))) (sNil)) (sSeq (sSet (.nm 5) (fCal 3 (φ 2) [] (fAc (fV 3) (fAc (fV 4) (fAc (fCal 3 (φ 4) [] (fAc (f2 gIx (fV 0) (fC (.int 2))) (fAc (fV 1) (fAc (fV 2) (fA0))))) (fA0)))))) (sSeq (sIf (fB (f1 gIsN (fV 5))) (sSeq (sRaise "Mistaken" okD2 (fd2 "at" "why") (fAc (fV 2) (fAc (fC (.str "kind")) (fA0)))) (sNil)) (sNil)) (sSeq (sRet (fV 5)) (sNil))))))))
def d4 : He.DefD := ⟨("kind_of", none), "kind_of", "kind_of", defArgs s4, defBody s4, defScope s4, [], []⟩
theorem sc4 : FnScope N4 P4 (defScope s4) := ⟨rfl, rfl, rfl, by decide +kernel, rfl, by decide +kernel, by decide +kernel⟩
/-! Context __init__ -/
abbrev s5 : Stmt := inClass (top 11) 0
abbrev N5 : List Str := ["self", "pairs", "name", "kind"]
abbrev P5 : List Str := ["self", "pairs"]
noncomputable def b5_1 (φ : Nat → FD) : FS := sSeq (sSetIx (f1 (gFld "Context" "bound") (fV 0)) (fV 2) (fV 3)) (sNil)
noncomputable def b5 (φ : Nat → FD) : FS := sSeq (sSetFld "Context" "bound" (fV 0) (fD0K)) (sSeq (sFor (fV 1) (.tu [.nm 2, .nm 3]) (b5_1 φ)) (sNil))
def d5 : He.DefD := ⟨("Context", some "__init__"), "__init__", "Context.__init__", defArgs s5, defBody s5, defScope s5, [.adr (He.dflAt ("Context", some "__init__") 0)], []⟩
theorem sc5 : FnScope N5 P5 (defScope s5) := ⟨rfl, rfl, rfl, by decide +kernel, rfl, by decide +kernel, by decide +kernel⟩
/-! Context binds -/
abbrev s6 : Stmt := inClass (top 11) 1
abbrev N6 : List Str := ["self", "name"]
abbrev P6 : List Str := ["self", "name"]
noncomputable def b6 (φ : Nat → FD) : FS := sSeq (sRet (f2 gIn (fV 1) (f1 (gFld "Context" "bound") (fV 0)))) (sNil)
def d6 : He.DefD := ⟨("Context", some "binds"), "binds", "Context.binds", defArgs s6, defBody s6, defScope s6, [], []⟩
theorem sc6 : FnScope N6 P6 (defScope s6) := ⟨rfl, rfl, rfl, by decide +kernel, rfl, by decide +kernel, by decide +kernel⟩
/-! Context kind -/
abbrev s7 : Stmt := inClass (top 11) 2
abbrev N7 : List Str := ["self", "name"]
abbrev P7 : List Str := ["self", "name"]
noncomputable def b7 (φ : Nat → FD) : FS := sSeq (sRet (f2 gIx (f1 (gFld "Context" "bound") (fV 0)) (fV 1))) (sNil)
def d7 : He.DefD := ⟨("Context", some "kind"), "kind", "Context.kind", defArgs s7, defBody s7, defScope s7, [], []⟩
theorem sc7 : FnScope N7 P7 (defScope s7) := ⟨rfl, rfl, rfl, by decide +kernel, rfl, by decide +kernel, by decide +kernel⟩
/-! Context is_end -/
abbrev s8 : Stmt := inClass (top 11) 3
abbrev N8 : List Str := ["self", "name"]
abbrev P8 : List Str := ["self", "name"]
noncomputable def b8 (φ : Nat → FD) : FS := sSeq (sRet (fAnd (f2 gIn (fV 1) (f1 (gFld "Context" "bound") (fV 0))) (f2 gNotIn (f2 gIx (f1 (gFld "Context" "bound") (fV 0)) (fV 1)) (fTup (fAc (fC (.str "int")) (fAc (fC (.str "bool")) (fA0))))))) (sNil)
def d8 : He.DefD := ⟨("Context", some "is_end"), "is_end", "Context.is_end", defArgs s8, defBody s8, defScope s8, [], []⟩
theorem sc8 : FnScope N8 P8 (defScope s8) := ⟨rfl, rfl, rfl, by decide +kernel, rfl, by decide +kernel, by decide +kernel⟩
/-! Context pairs -/
abbrev s13 : Stmt := inClass (top 11) 8
abbrev N13 : List Str := ["self", "name"]
abbrev P13 : List Str := ["self"]
noncomputable def b13 (φ : Nat → FD) : FS := sSeq (sRet (fLc (f1 (gFld "Context" "bound") (fV 0)) (.nm 1) (fYes) (fTup (fAc (fV 1) (fAc (f2 gIx (f1 (gFld "Context" "bound") (fV 0)) (fV 1)) (fA0)))) [1])) (sNil)
def d13 : He.DefD := ⟨("Context", some "pairs"), "pairs", "Context.pairs", defArgs s13, defBody s13, defScope s13, [], []⟩
theorem sc13 : FnScope N13 P13 (defScope s13) := ⟨rfl, rfl, rfl, by decide +kernel, rfl, by decide +kernel, by decide +kernel⟩
/-!  _law_draw -/
abbrev s16 : Stmt := top 13
abbrev N16 : List Str := ["_law_state", "_law_many", "_law_place", "_law_cell", "_law_one", "_law_two", "_law_digit"]
abbrev P16 : List Str := ["_law_state", "_law_many"]
noncomputable def b16 (φ : Nat → FD) : FS := sSeq (sIf (fB (f2 gLe (f2 gIx (fV 0) (fC (.int 2))) (fC (.int 0)))) (sSeq (sSet (.nm 2) (f2 gIx (fV 0) (fC (.int 1)))) (sSeq (sSetIx (fV 0) (fC (.int 1)) (f2 gAdd (fV 2) (fC (.int 1)))) (sSeq (sSet (.nm 3) (f2 gAdd (f2 gMul (fV 2) (fC (.int 7919))) (fC (.int 13)))) (sSeq (sIf (fB (f2 gLt (fV 2) (fCall gLen (fAc (f2 gIx (fV 0) (fC (.int 0))) (fA0))))) (sSeq (sSet (.nm 3) (f2 gIx (f2 gIx (fV 0) (fC (.int 0))) (fV 2))) (sNil)) (sNil)) (sSeq (sIf (fB (fChain gLe gLt (fC (.int 0)) (fV 3) (fC (.int 1000000000000000000)))) (sSeq (sSet (.nm 4) (f2 gMod (fCall gInt (fAc (f2 gAdd (f2 gAdd (f2 gMul (fV 3) (fC (.int 48271))) (f2 gMul (fV 2) (fC (.int 69621)))) (f2 gIx (fV 0) (fC (.int 3)))) (fA0))) (fC (.int 2147483647)))) (sSeq (sSet (.nm 5) (f2 gMod (fCall gInt (fAc (f2 gAdd (f2 gAdd (f2 gMul (fV 4) (fC (.int 16807))) (fV 3)) (fC (.int 11))) (fA0))) (fC (.int 2147483629)))) (sSeq (sSetIx (fV 0) (fC (.int 2)) (f2 gAdd (f2 gMul (fV 4) (fC (.int 2147483629))) (fV 5))) (sNil)))) (sSeq (sSetIx (fV 0) (fC (.int 2)) (fCall gAbs (fAc (fV 3) (fA0)))) (sNil))) (sSeq (sSetIx (fV 0) (fC (.int 3)) (f2 gMod (fCall gInt (fAc (f2 gAdd (f2 gMul (f2 gIx (fV 0) (fC (.int 3))) (fC (.int 31))) (fV 3)) (fA0))) (fC (.int 1000003)))) (sNil))))))) (sNil)) (sSeq (sSet (.nm 6) (f2 gMod (fCall gInt (fAc (f2 gIx (fV 0) (fC (.int 2))) (fA0))) (fV 1))) (sSeq (sSetIx (fV 0) (fC (.int 2)) (f2 gDiv (fCall gInt (fAc (f2 gIx (fV 0) (fC (.int 2))) (fA0))) (fV 1))) (sSeq (sRet (fV 6)) (sNil))))
def d16 : He.DefD := ⟨("_law_draw", none), "_law_draw", "_law_draw", defArgs s16, defBody s16, defScope s16, [], []⟩
theorem sc16 : FnScope N16 P16 (defScope s16) := ⟨rfl, rfl, rfl, by decide +kernel, rfl, by decide +kernel, by decide +kernel⟩
/-!  _law_context -/
abbrev s17 : Stmt := top 14
abbrev N17 : List Str := ["_law_state", "_law_pairs", "_law_name"]
abbrev P17 : List Str := ["_law_state"]
noncomputable def b17_1 (φ : Nat → FD) : FS := sSeq (sExpr (fMeth "list" gAppend (fV 1) (fAc (fTup (fAc (fV 2) (fAc (f2 gIx (fLst (fAc (fC (.str "int")) (fAc (fC (.str "bool")) (fAc (fTup (fAc (fC (.str "name")) (fAc (fC (.str "T")) (fA0)))) (fAc (fTup (fAc (fC (.str "end")) (fA0))) (fAc (fC (.str "int")) (fA0))))))) (fCal 2 (φ 16) [] (fAc (fV 0) (fAc (fC (.int 5)) (fA0))))) (fA0)))) (fA0)))) (sNil)
noncomputable def b17 (φ : Nat → FD) : FS := sSeq (sSet (.nm 1) (fLst (fA0))) (sSeq (sFor (fSl (fLst (fAc (fC (.str "a")) (fAc (fC (.str "b")) (fAc (fC (.str "c")) (fAc (fC (.str "d")) (fAc (fC (.str "e")) (fAc (fC (.str "f")) (fA0)))))))) (fO0) (fO1 (fCal 2 (φ 16) [] (fAc (fV 0) (fAc (fC (.int 7)) (fA0)))))) (.nm 2) (b17_1 φ)) (sSeq (sRet (fV 1)) (sNil)))
def d17 : He.DefD := ⟨("_law_context", none), "_law_context", "_law_context", defArgs s17, defBody s17, defScope s17, [], []⟩
theorem sc17 : FnScope N17 P17 (defScope s17) := ⟨rfl, rfl, rfl, by decide +kernel, rfl, by decide +kernel, by decide +kernel⟩
/-!  _law_expression -/
abbrev s18 : Stmt := top 15
abbrev N18 : List Str := ["_law_state", "_law_kind", "_law_levels", "_law_choice", "_law_op", "_law_one", "_law_inner"]
abbrev P18 : List Str := ["_law_state", "_law_kind", "_law_levels"]
noncomputable def b18 (φ : Nat → FD) : FS := sSeq (sSet (.nm 3) (fCal 2 (φ 16) [] (fAc (fV 0) (fAc (fC (.int 8)) (fA0))))) (sSeq (sIf (fB (f2 gEq (fCal 2 (φ 16) [] (fAc (fV 0) (fAc (fC (.int 16)) (fA0)))) (fC (.int 0)))) (sSeq (sSet (.nm 1) (f2 gIx (fLst (fAc (fC (.str "int")) (fAc (fC (.str "bool")) (fA0)))) (fCall gInt (fAc (f2 gEq (fV 1) (fC (.str "int"))) (fA0))))) (sNil)) (sNil)) (sSeq (sIf (fB (f2 gLt (fV 3) (fC (.int 3)))) (sSeq (sRet (fTup (fAc (fC (.str "var")) (fAc (f2 gIx (fLst (fAc (fC (.str "a")) (fAc (fC (.str "b")) (fAc (fC (.str "c")) (fAc (fC (.str "d")) (fAc (fC (.str "e")) (fAc (fC (.str "f")) (fAc (fC (.str "g")) (fA0))))))))) (fCal 2 (φ 16) [] (fAc (fV 0) (fAc (fC (.int 7)) (fA0))))) (fA0))))) (sNil)) (sNil)) (sSeq (sIf (fOrT (fB (f2 gGt (fV 2) (fC (.int 3)))) (fB (f2 gEq (fV 3) (fC (.int 3))))) (sSeq (sRet (f2 gIx (fLst (fAc (fTup (fAc (fC (.str "int")) (fAc (fCal 2 (φ 16) [] (fAc (fV 0) (fAc (fC (.int 65536)) (fA0)))) (fA0)))) (fAc (fTup (fAc (fC (.str "bool")) (fAc (f2 gEq (f2 gMod (fV 3) (fC (.int 2))) (fC (.int 0))) (fA0)))) (fA0)))) (fCall gInt (fAc (f2 gEq (fV 1) (fC (.str "bool"))) (fA0))))) (sNil)) (sNil)) (sSeq (sIf (fB (f2 gEq (fV 1) (fC (.str "int")))) (sSeq (sSet (.nm 4) (f2 gIx (fLst (fAc (fC (.str "add")) (fAc (fC (.str "sub")) (fAc (fC (.str "mul")) (fA0))))) (fCal 2 (φ 16) [] (fAc (fV 0) (fAc (fC (.int 3)) (fA0)))))) (sSeq (sSet (.nm 5) (fCal 3 (φ 18) [] (fAc (fV 0) (fAc (fC (.str "int")) (fAc (f2 gAdd (fV 2) (fC (.int 1))) (fA0)))))) (sSeq (sRet (fTup (fAc (fV 4) (fAc (fV 5) (fAc (fCal 3 (φ 18) [] (fAc (fV 0) (fAc (fC (.str "int")) (fAc (f2 gAdd (fV 2) (fC (.int 1))) (fA0))))) (fA0)))))) (sNil)))) (sNil)) (sSeq (sSet (.nm 4) (f2 gIx (fLst (fAc (fC (.str "lt")) (fAc (fC (.str "le")) (fAc (fC (.str "eq")) (fAc (fC (.str "and")) (fAc (fC (.str "or")) (fAc (fC (.str "not")) (fAc (fC (.str "eq")) (fA0))))))))) (fCal 2 (φ 16) [] (fAc (fV 0) (fAc (fC (.int 7)) (fA0)))))) (sSeq (sSet (.nm 6) (fC (.str "int"))) (sSeq (sIf (fOrT (fB (f2 gIn (fV 4) (fTup (fAc (fC (.str "and")) (fAc (fC (.str "or")) (fAc (fC (.str "not")) (fA0))))))) (fAndT (fB (f2 gEq (fV 4) (fC (.str "eq")))) (fB (f2 gGt (fV 3) (fC (.int 5)))))) (sSeq (sSet (.nm 6) (fC (.str "bool"))) (sNil)) (sNil)) (sSeq (sSet (.nm 5) (fCal 3 (φ 18) [] (fAc (fV 0) (fAc (fV 6) (fAc (f2 gAdd (fV 2) (fC (.int 1))) (fA0)))))) (sSeq (sIf (fB (f2 gEq (fV 4) (fC (.str "not")))) (sSeq (sRet (fTup (fAc (fC (.str "not")) (fAc (fV 5) (fA0))))) (sNil)) (sNil)) (sSeq (sRet (fTup (fAc (fV 4) (fAc (fV 5) (fAc (fCal 3 (φ 18) [] (fAc (fV 0) (fAc (fV 6) (fAc (f2 gAdd (fV 2) (fC (.int 1))) (fA0))))) (fA0)))))) (sNil)))))))))))
def d18 : He.DefD := ⟨("_law_expression", none), "_law_expression", "_law_expression", defArgs s18, defBody s18, defScope s18, [], []⟩
theorem sc18 : FnScope N18 P18 (defScope s18) := ⟨rfl, rfl, rfl, by decide +kernel, rfl, by decide +kernel, by decide +kernel⟩
/-!  _law_due -/
abbrev s19 : Stmt := top 16
abbrev N19 : List Str := ["_law_pairs", "_law_expression_here", "_law_head", "_law_name", "_law_kind", "_law_found", "_law_operand"]
abbrev P19 : List Str := ["_law_pairs", "_law_expression_here"]
noncomputable def b19_1 (φ : Nat → FD) : FS := sSeq (sIf (fB (f2 gEq (fV 3) (f2 gIx (fV 1) (fC (.int 1))))) (sSeq (sRet (f2 gIx (fLst (fAc (fV 4) (fAc (fC (.str "!kind")) (fA0)))) (fCall gInt (fAc (f2 gNotIn (fV 4) (fTup (fAc (fC (.str "int")) (fAc (fC (.str "bool")) (fA0))))) (fA0))))) (sNil)) (sNil)) (sNil)
noncomputable def b19_2 (φ : Nat → FD) : FS := sSeq (sSet (.nm 4) (fCal 2 (φ 19) [] (fAc (fV 0) (fAc (fV 6) (fA0))))) (sSeq (sIf (fB (f2 gIn (fV 4) (fTup (fAc (fC (.str "!kind")) (fAc (fC (.str "!unknown")) (fA0)))))) (sSeq (sRet (fV 4)) (sNil)) (sNil)) (sSeq (sExpr (fMeth "list" gAppend (fV 5) (fAc (fV 4) (fA0)))) (sNil)))
noncomputable def b19 (φ : Nat → FD) : FS := sSeq (sSet (.nm 2) (f2 gIx (fV 1) (fC (.int 0)))) (sSeq (sIf (fB (f2 gIn (fV 2) (fTup (fAc (fC (.str "int")) (fAc (fC (.str "bool")) (fA0)))))) (sSeq (sRet (fV 2)) (sNil)) (sNil)) (sSeq (sIf (fB (f2 gEq (fV 2) (fC (.str "var")))) (sSeq (sFor (fV 0) (.tu [.nm 3, .nm 4]) (b19_1 φ)) (sSeq (sRet (fC (.str "!unknown"))) (sNil))) (sNil)) (sSeq (sSet (.nm 5) (fLst (fA0))) (sSeq (sFor (fSl (fV 1) (fO1 (fC (.int 1))) (fO0)) (.nm 6) (b19_2 φ)) (sSeq (sIf (fAndT (fB (f2 gIn (fV 2) (fTup (fAc (fC (.str "add")) (fAc (fC (.str "sub")) (fAc (fC (.str "mul")) (fA0))))))) (fB (f2 gEq (fV 5) (fLst (fAc (fC (.str "int")) (fAc (fC (.str "int")) (fA0))))))) (sSeq (sRet (fC (.str "int"))) (sNil)) (sNil)) (sSeq (sIf (fAndT (fB (f2 gIn (fV 2) (fTup (fAc (fC (.str "lt")) (fAc (fC (.str "le")) (fA0)))))) (fB (f2 gEq (fV 5) (fLst (fAc (fC (.str "int")) (fAc (fC (.str "int")) (fA0))))))) (sSeq (sRet (fC (.str "bool"))) (sNil)) (sNil)) (sSeq (sIf (fAndT (fB (f2 gEq (fV 2) (fC (.str "eq")))) (fB (f2 gEq (f2 gIx (fV 5) (fC (.int 0))) (f2 gIx (fV 5) (fC (.int 1)))))) (sSeq (sRet (fC (.str "bool"))) (sNil)) (sNil)) (sSeq (sIf (fAndT (fB (f2 gIn (fV 2) (fTup (fAc (fC (.str "and")) (fAc (fC (.str "or")) (fA0)))))) (fB (f2 gEq (fV 5) (fLst (fAc (fC (.str "bool")) (fAc (fC (.str "bool")) (fA0))))))) (sSeq (sRet (fC (.str "bool"))) (sNil)) (sNil)) (sSeq (sIf (fAndT (fB (f2 gEq (fV 2) (fC (.str "not")))) (fB (f2 gEq (fV 5) (fLst (fAc (fC (.str "bool")) (fA0)))))) (sSeq (sRet (fC (.str "bool"))) (sNil)) (sNil)) (sSeq (sRet (fC (.str "!kind"))) (sNil)))))))))))
def d19 : He.DefD := ⟨("_law_due", none), "_law_due", "_law_due", defArgs s19, defBody s19, defScope s19, [], []⟩
theorem sc19 : FnScope N19 P19 (defScope s19) := ⟨rfl, rfl, rfl, by decide +kernel, rfl, by decide +kernel, by decide +kernel⟩
/-!  law -/
abbrev s20 : Stmt := top 17
abbrev N20 : List Str := ["_law_script", "_law_state", "_law_pairs", "_law_k", "_law_expression_here", "_law_at", "_law_context_here", "_law_due_here", "_law_actual", "e"]
abbrev P20 : List Str := ["_law_script"]
noncomputable def b20_1 (φ : Nat → FD) : FS := sSeq (sSet (.nm 8) (fCal 3 (φ 4) [] (fAc (fV 4) (fAc (fV 6) (fAc (fV 5) (fA0)))))) (sNil)
noncomputable def b20_2 (φ : Nat → FD) (j : Nat) : FS := sSeq (sIf (fOrT (fB (f2 gNe (fXf j "at") (fV 5))) (fB (f2 gNe (fV 7) (f2 gAdd (fC (.str "!")) (fXf j "why"))))) (sSeq (sRet (fC (.bl false))) (sNil)) (sNil)) (sNil)
noncomputable def b20_3 (φ : Nat → FD) : FS := sSeq (sSet (.nm 4) (fCal 3 (φ 18) [] (fAc (fV 1) (fAc (f2 gIx (fLst (fAc (fC (.str "int")) (fAc (fC (.str "bool")) (fA0)))) (fCal 2 (φ 16) [] (fAc (fV 1) (fAc (fC (.int 2)) (fA0))))) (fAc (fC (.int 0)) (fA0)))))) (sSeq (sSet (.nm 5) (fCal 2 (φ 16) [] (fAc (fV 1) (fAc (fC (.int 900)) (fA0))))) (sSeq (sSet (.nm 6) (fMakeD "Context" 2 (φ 5) [] (fAc (fCall gTuple (fAc (fV 2) (fA0))) (fA0)))) (sSeq (sSet (.nm 7) (fCal 2 (φ 19) [] (fAc (fV 2) (fAc (fV 4) (fA0))))) (sSeq (sSet (.nm 8) (fC .non)) (sSeq (sTryAs 9 [("Mistaken", true)] (b20_1 φ) (fun _ j => b20_2 φ j)) (sSeq (sIf (fAndT (fB (f1 gIsN (fV 8))) (fB (f2 gNotIn (fV 7) (fTup (fAc (fC (.str "!kind")) (fAc (fC (.str "!unknown")) (fA0))))))) (sSeq (sRet (fC (.bl false))) (sNil)) (sNil)) (sSeq (sIf (fAndT (fB (f1 gNotN (fV 8))) (fB (f2 gNe (fV 8) (fV 7)))) (sSeq (sRet (fC (.bl false))) (sNil)) (sNil)) (sSeq (sIf (fB (f2 gNe (fMethD "Context" "pairs" 1 (φ 13) [] (fV 6) fA0) (fV 2))) (sSeq (sRet (fC (.bl false))) (sNil)) (sNil)) (sNil)))))))))
noncomputable def b20 (φ : Nat → FD) : FS := sSeq (sSet (.nm 1) (fLst (fAc (fV 0) (fAc (fC (.int 0)) (fAc (fC (.int 0)) (fAc (fC (.int 1)) (fA0))))))) (sSeq (sSet (.nm 2) (fCal 1 (φ 17) [] (fAc (fV 1) (fA0)))) (sSeq (sForR 1 (fAc (fC (.int 3)) (fA0)) (.nm 3) (b20_3 φ)) (sSeq (sRet (fC (.bl true))) (sNil))))
def d20 : He.DefD := ⟨("law", none), "law", "law", defArgs s20, defBody s20, defScope s20, [], []⟩
theorem sc20 : FnScope N20 P20 (defScope s20) := ⟨rfl, rfl, rfl, by decide +kernel, rfl, by decide +kernel, by decide +kernel⟩
noncomputable def bod (φ : Nat → FD) : Nat → FD
  | 2 => runB 3 (b2 φ)
  | 3 => runB 3 (b3 φ)
  | 4 => runB 6 (b4 φ)
  | 5 => runB 4 (b5 φ)
  | 6 => runB 2 (b6 φ)
  | 7 => runB 2 (b7 φ)
  | 8 => runB 2 (b8 φ)
  | 13 => runB 2 (b13 φ)
  | 16 => runB 7 (b16 φ)
  | 17 => runB 3 (b17 φ)
  | 18 => runB 7 (b18 φ)
  | 19 => runB 7 (b19 φ)
  | 20 => runB 10 (b20 φ)
  | _ => fun _ _ => .st
noncomputable def ph : Nat → Nat → FD
  | 0, _ => fun _ _ => .st
  | n + 1, i => bod (ph n) i
theorem ph_2 (n : Nat) : ph (n + 1) 2 = runB 3 (b2 (ph n)) := rfl
theorem ph_3 (n : Nat) : ph (n + 1) 3 = runB 3 (b3 (ph n)) := rfl
theorem ph_4 (n : Nat) : ph (n + 1) 4 = runB 6 (b4 (ph n)) := rfl
theorem ph_5 (n : Nat) : ph (n + 1) 5 = runB 4 (b5 (ph n)) := rfl
theorem ph_6 (n : Nat) : ph (n + 1) 6 = runB 2 (b6 (ph n)) := rfl
theorem ph_7 (n : Nat) : ph (n + 1) 7 = runB 2 (b7 (ph n)) := rfl
theorem ph_8 (n : Nat) : ph (n + 1) 8 = runB 2 (b8 (ph n)) := rfl
theorem ph_13 (n : Nat) : ph (n + 1) 13 = runB 2 (b13 (ph n)) := rfl
theorem ph_16 (n : Nat) : ph (n + 1) 16 = runB 7 (b16 (ph n)) := rfl
theorem ph_17 (n : Nat) : ph (n + 1) 17 = runB 3 (b17 (ph n)) := rfl
theorem ph_18 (n : Nat) : ph (n + 1) 18 = runB 7 (b18 (ph n)) := rfl
theorem ph_19 (n : Nat) : ph (n + 1) 19 = runB 7 (b19 (ph n)) := rfl
theorem ph_20 (n : Nat) : ph (n + 1) 20 = runB 10 (b20 (ph n)) := rfl
structure Fs (K : PySem.W.Frag) (mg : Str → Option Value) : Prop where
  g_ARITHMETIC : mg "ARITHMETIC" = some (.ref (He.ga K "ARITHMETIC"))
  g_COMPARISONS : mg "COMPARISONS" = some (.ref (He.ga K "COMPARISONS"))
  c_Context : Cls K (He.ga K "Context")
  m_Context_binds : Meth K (He.ga K "Context") "binds" (He.ma K (He.ga K "Context") "binds")
  g_Mistaken : mg "Mistaken" = some (.ref (He.ga K "Mistaken"))
  m_Context_is_end : Meth K (He.ga K "Context") "is_end" (He.ma K (He.ga K "Context") "is_end")
  m_Context_kind : Meth K (He.ga K "Context") "kind" (He.ma K (He.ga K "Context") "kind")
  g_name_kind : mg "name_kind" = some (.ref (He.ga K "name_kind"))
  g_kind_of : mg "kind_of" = some (.ref (He.ga K "kind_of"))
  g_operator_kind : mg "operator_kind" = some (.ref (He.ga K "operator_kind"))
  a_Context_bound : NoAttr K (He.ga K "Context") "bound"
  n_len : mg "len" = none
  n_int : mg "int" = none
  n_abs : mg "abs" = none
  g__law_draw : mg "_law_draw" = some (.ref (He.ga K "_law_draw"))
  g__law_expression : mg "_law_expression" = some (.ref (He.ga K "_law_expression"))
  g__law_due : mg "_law_due" = some (.ref (He.ga K "_law_due"))
  g__law_context : mg "_law_context" = some (.ref (He.ga K "_law_context"))
  n_tuple : mg "tuple" = none
  k_Context : Mk K (He.ga K "Context") (He.ma K (He.ga K "Context") "__init__")
  g_Context : mg "Context" = some (.ref (He.ga K "Context"))
  e_Mistaken_Mistaken : PySem.W.exmOne K (.ref (He.ga K "Mistaken")) (.ref (He.ga K "Mistaken")) = some true
  m_Context_pairs : Meth K (He.ga K "Context") "pairs" (He.ma K (He.ga K "Context") "pairs")
  n_range : mg "range" = none
  n_super : mg "super" = none
  n_str : mg "str" = none
  t_ARITHMETIC : KTup K (He.ga K "ARITHMETIC") ([.str "add", .str "sub", .str "mul"] : List V)
  t_COMPARISONS : KTup K (He.ga K "COMPARISONS") ([.str "lt", .str "le"] : List V)
structure Cs (P : Program) (w : World) (K : PySem.W.Frag) (mg : Str → Option Value) (base : Heap) (k : Nat) (φ : Nat → FD) : Prop where
  c2 : Cal P w K mg base k 3 [[]] (φ 2) (He.fAd K d2.at_)
  c3 : Cal P w K mg base k 3 [[]] (φ 3) (He.fAd K d3.at_)
  c4 : Cal P w K mg base k 3 [[]] (φ 4) (He.fAd K d4.at_)
  c5 : Cal P w K mg base k 2 [[]] (φ 5) (He.fAd K d5.at_)
  c6 : Cal P w K mg base k 2 [[]] (φ 6) (He.fAd K d6.at_)
  c7 : Cal P w K mg base k 2 [[]] (φ 7) (He.fAd K d7.at_)
  c8 : Cal P w K mg base k 2 [[]] (φ 8) (He.fAd K d8.at_)
  c13 : Cal P w K mg base k 1 [[]] (φ 13) (He.fAd K d13.at_)
  c16 : Cal P w K mg base k 2 [[]] (φ 16) (He.fAd K d16.at_)
  c17 : Cal P w K mg base k 1 [[]] (φ 17) (He.fAd K d17.at_)
  c18 : Cal P w K mg base k 3 [[]] (φ 18) (He.fAd K d18.at_)
  c19 : Cal P w K mg base k 2 [[]] (φ 19) (He.fAd K d19.at_)
  c20 : Cal P w K mg base k 1 [[]] (φ 20) (He.fAd K d20.at_)
abbrev sx_Mistaken : Stmt := inClass (top 3) 0
def x_Mistaken : ExD := ⟨"Mistaken", "__init__", "Mistaken.__init__", defArgs sx_Mistaken, defBody sx_Mistaken, defScope sx_Mistaken, ["at", "why"]⟩
theorem scx_Mistaken : ScS ["self", "at", "why"] ["self", "at", "why"] (defScope sx_Mistaken) := ⟨rfl, rfl, rfl, by decide +kernel, rfl, by decide +kernel, by decide +kernel, by decide +kernel, by decide +kernel, by decide +kernel⟩
theorem exc_Mistaken {P : Program} {w : World} {K : PySem.W.Frag} {mg : Str → Option Value} {base : Heap} (hP : (P.main.scope.names.lookup ("super" : Str)).isSome = false) (F : Fs K mg) (S : ExS P K x_Mistaken) : ExcC P w K mg base "Mistaken" 2 okV2 (fv2 "at" "why") := by
  obtain ⟨oc, od, dV, kV, doc, pm, an, ct, osl, lk, rfl⟩ := S.fn
  refine ⟨S.oex, F.g_Mistaken, exAd K x_Mistaken, ?fd, ["self", "at", "why"], S.ini, S.ty, ?hb, ?hf⟩
  case hf => exact fn_super (k := 0) (N := ["self", "at", "why"]) scx_Mistaken (S.sup hP) S.oex lk S.cd rfl rfl (by decide +kernel) F.n_super (fun vs H Q E ⟨a, ys, e, hl, _⟩ => by rw [e]; simp [hl]) (fun A outer s H vs Q E hr h => hbody2 (sep := " ") (by rfl) rfl S.oex (S.fld "at" (by simp [x_Mistaken])) (S.fld "why" (by simp [x_Mistaken])) (pa_cons (pe_op op_add_str (pe_op op_add_str (pe_callTy cr_str (by rfl) F.n_str (by rfl) (pa_cons (pv 1) pa_nil)) pe_str) (pe_callTy cr_str (by rfl) F.n_str (by rfl) (pa_cons (pv 2) pa_nil))) pa_nil) (pss_cons (ps_ost (pv 0) (pv 1)) (pss_one (ps_ost (pv 0) (pv 2)))) h) (fun _ => rfl) (fun _ => rfl) (fun _ => rfl) (fun _ => rfl)
  case hb => exact Binds.all (fun us hl => match us, hl with | [_, _, _], _ => rfl)
structure Xs (P : Program) (w : World) (K : PySem.W.Frag) (mg : Str → Option Value) (base : Heap) : Prop where
  x_Mistaken : ExcC P w K mg base "Mistaken" 2 okV2 (fv2 "at" "why")
  f_Mistaken : XfC K (He.ga K "Mistaken")
  nf_Mistaken : ∀ f : Str, f ∈ (["at", "why"] : List Str) → PySem.W.findIn K (.ref (He.ga K "Mistaken")) f = some none
section
variable {P : Program} {w : World} {K : PySem.W.Frag} {mg : Str → Option Value} {base : Heap} {k : Nat} {φ : Nat → FD}
theorem ok2 {f : Addr} {fd : FuncData} (F : Fs K mg) (D : FunD K d2.name d2.qual d2.params d2.body d2.scope (d2.dvs K) (d2.kws K) f fd) (C : Cs P w K mg base k φ) (XC : Xs P w K mg base) (hk : 1 ≤ k) : FnOk P w K mg base (L2.CX P w) (k + 2) f fd P2 (SpD K P2.length (runB N2.length (b2 φ))) := by
  have sc := sc2
  refine fn_okD D sc fun cdv A outer s H E hr1 tk hp => ?_
  have hr := hr1.mono (Nat.le_succ _)
  have hr2 := hr1.mono (show 2 ≤ k + 1 by omega)
  have hs := NoSl.of E
  have hu := (show _ + 100 < cLine from by have := hr1.un; omega : (A.deeper (envOfC d2.qual d2.scope s.heap.objs.size f cdv)).units + 100 < cLine)
  exact (dss_cons (ds_if ((dw_and (dt_cmp (opr_in hu) o2_in (de_var 0) (de_gtup (by rfl) F.g_ARITHMETIC F.t_ARITHMETIC (by first | rfl | kernel_rfl)) (by rfl)) (dw_and (dt_cmp (opr_eq hu) o2_eq (de_var 1) de_str (nomark _)) (dw_and1 (dt_cmp (opr_eq hu) o2_eq (de_var 2) de_str (nomark _)))))).dt (dss_cons (ds_ret de_str) dss_nil) dss_nil) (dss_cons (ds_if ((dw_and (dt_cmp (opr_in hu) o2_in (de_var 0) (de_gtup (by rfl) F.g_COMPARISONS F.t_COMPARISONS (by first | rfl | kernel_rfl)) (by rfl)) (dw_and (dt_cmp (opr_eq hu) o2_eq (de_var 1) de_str (nomark _)) (dw_and1 (dt_cmp (opr_eq hu) o2_eq (de_var 2) de_str (nomark _)))))).dt (dss_cons (ds_ret de_str) dss_nil) dss_nil) (dss_cons (ds_if ((dw_and (dt_cmp (opr_eq hu) o2_eq (de_var 0) de_str (nomark _)) (dw_and1 (dt_cmp (opr_eq hu) o2_eq (de_var 1) (de_var 2) (nomark _))))).dt (dss_cons (ds_ret de_str) dss_nil) dss_nil) (dss_cons (ds_if ((dw_and (dt_cmp (opr_in hu) o2_in (de_var 0) (de_tup (da_cons de_str (da_cons de_str da_nil))) (by rfl)) (dw_and (dt_cmp (opr_eq hu) o2_eq (de_var 1) de_str (nomark _)) (dw_and1 (dt_cmp (opr_eq hu) o2_eq (de_var 2) de_str (nomark _)))))).dt (dss_cons (ds_ret de_str) dss_nil) dss_nil) (dss_cons (ds_ret de_non) dss_nil)))))
theorem ok3 {f : Addr} {fd : FuncData} (F : Fs K mg) (D : FunD K d3.name d3.qual d3.params d3.body d3.scope (d3.dvs K) (d3.kws K) f fd) (C : Cs P w K mg base k φ) (XC : Xs P w K mg base) (hk : 1 ≤ k) : FnOk P w K mg base (L2.CX P w) (k + 2) f fd P3 (SpD K P3.length (runB N3.length (b3 φ))) := by
  have sc := sc3
  refine fn_okD D sc fun cdv A outer s H E hr1 tk hp => ?_
  have hr := hr1.mono (Nat.le_succ _)
  have hr2 := hr1.mono (show 2 ≤ k + 1 by omega)
  have hs := NoSl.of E
  have hu := (show _ + 100 < cLine from by have := hr1.un; omega : (A.deeper (envOfC d3.qual d3.scope s.heap.objs.size f cdv)).units + 100 < cLine)
  exact (dss_cons (ds_if (dt_not (dt_tru (de_meth (de_var 1) F.c_Context F.m_Context_binds C.c6 (by simp) hr tk hs (da_cons (de_var 0) da_nil)))) (dss_cons (ds_raise (arg2 "at" "why") XC.x_Mistaken (by rfl) hr2 tk (by rfl) (da_cons (de_var 2) (da_cons de_str da_nil))) dss_nil) dss_nil) (dss_cons (ds_if (dt_tru (de_meth (de_var 1) F.c_Context F.m_Context_is_end C.c8 (by simp) hr tk hs (da_cons (de_var 0) da_nil))) (dss_cons (ds_raise (arg2 "at" "why") XC.x_Mistaken (by rfl) hr2 tk (by rfl) (da_cons (de_var 2) (da_cons de_str da_nil))) dss_nil) dss_nil) (dss_cons (ds_ret (de_meth (de_var 1) F.c_Context F.m_Context_kind C.c7 (by simp) hr tk hs (da_cons (de_var 0) da_nil))) dss_nil)))
theorem ok4 {f : Addr} {fd : FuncData} (F : Fs K mg) (D : FunD K d4.name d4.qual d4.params d4.body d4.scope (d4.dvs K) (d4.kws K) f fd) (C : Cs P w K mg base k φ) (XC : Xs P w K mg base) (hk : 1 ≤ k) : FnOk P w K mg base (L2.CX P w) (k + 2) f fd P4 (SpD K P4.length (runB N4.length (b4 φ))) := by
  have sc := sc4
  refine fn_okD D sc fun cdv A outer s H E hr1 tk hp => ?_
  have hr := hr1.mono (Nat.le_succ _)
  have hr2 := hr1.mono (show 2 ≤ k + 1 by omega)
  have hs := NoSl.of E
  have hu := (show _ + 100 < cLine from by have := hr1.un; omega : (A.deeper (envOfC d4.qual d4.scope s.heap.objs.size f cdv)).units + 100 < cLine)
  exact (dss_cons (ds_set (i := 3) (de_ix hu (de_var 0) de_int) sc.nd trivial) (dss_cons (ds_if (dt_cmp (opr_in hu) o2_in (de_var 3) (de_tup (da_cons de_str (da_cons de_str da_nil))) (by rfl)) (dss_cons (ds_ret (de_var 3)) dss_nil) dss_nil) (dss_cons (ds_if (dt_cmp (opr_eq hu) o2_eq (de_var 3) de_str (nomark _)) (dss_cons (ds_ret (de_call C.c3 (by simp) hr tk F.g_name_kind (by rfl) (da_cons (de_ix hu (de_var 0) de_int) (da_cons (de_var 1) (da_cons (de_var 2) da_nil))))) dss_nil) dss_nil) (dss_cons (ds_set (i := 4) (de_call C.c4 (by simp) hr tk F.g_kind_of (by rfl) (da_cons (de_ix hu (de_var 0) de_int) (da_cons (de_var 1) (da_cons (de_var 2) da_nil)))) sc.nd trivial) (dss_cons (ds_if (dt_cmp (opr_eq hu) o2_eq (de_var 3) de_str (nomark _)) (dss_cons (ds_if (dt_cmp (opr_ne hu) o2_ne (de_var 4) de_str (nomark _)) (dss_cons (ds_raise (arg2 "at" "why") XC.x_Mistaken (by rfl) hr2 tk (by rfl) (da_cons (de_var 2) (da_cons de_str da_nil))) dss_nil) dss_nil) (dss_cons (ds_ret de_str) dss_nil)) dss_nil) (dss_cons (ds_set (i := 5) (de_call C.c2 (by simp) hr tk F.g_operator_kind (by rfl) (da_cons (de_var 3) (da_cons (de_var 4) (da_cons (de_call C.c4 (by simp) hr tk F.g_kind_of (by rfl) (da_cons (de_ix hu (de_var 0) de_int) (da_cons (de_var 1) (da_cons (de_var 2) da_nil)))) da_nil)))) sc.nd trivial) (dss_cons (ds_if (dt_isN (de_var 5)) (dss_cons (ds_raise (arg2 "at" "why") XC.x_Mistaken (by rfl) hr2 tk (by rfl) (da_cons (de_var 2) (da_cons de_str da_nil))) dss_nil) dss_nil) (dss_cons (ds_ret (de_var 5)) dss_nil))))))))
theorem ok5 {f : Addr} {fd : FuncData} (F : Fs K mg) (D : FunD K d5.name d5.qual d5.params d5.body d5.scope (d5.dvs K) (d5.kws K) f fd) (C : Cs P w K mg base k φ) (XC : Xs P w K mg base) (hk : 1 ≤ k) : FnOk P w K mg base (L2.CX P w) (k + 2) f fd P5 (SpD K P5.length (runB N5.length (b5 φ))) := by
  have sc := sc5
  refine fn_okD D sc fun cdv A outer s H E hr1 tk hp => ?_
  have hr := hr1.mono (Nat.le_succ _)
  have hr2 := hr1.mono (show 2 ≤ k + 1 by omega)
  have hs := NoSl.of E
  have hu := (show _ + 100 < cLine from by have := hr1.un; omega : (A.deeper (envOfC d5.qual d5.scope s.heap.objs.size f cdv)).units + 100 < cLine)
  exact (dss_cons (ds_setFld F.c_Context F.a_Context_bound de_d0K (de_var 0)) (dss_cons (ds_for hp (by rfl) (de_var 1) (dg_tup (by rfl) (dgs_cons (dg_name (i := 2) sc.nd trivial) (dgs_cons (dg_name (i := 3) sc.nd trivial) dgs_nil)) (by rfl)) (dss_cons (ds_setIx hu (de_var 3) (de_fld F.c_Context F.a_Context_bound (de_var 0)) (de_var 2)) dss_nil)) dss_nil))
theorem ok6 {f : Addr} {fd : FuncData} (F : Fs K mg) (D : FunD K d6.name d6.qual d6.params d6.body d6.scope (d6.dvs K) (d6.kws K) f fd) (C : Cs P w K mg base k φ) (XC : Xs P w K mg base) (hk : 1 ≤ k) : FnOk P w K mg base (L2.CX P w) (k + 2) f fd P6 (SpD K P6.length (runB N6.length (b6 φ))) := by
  have sc := sc6
  refine fn_okD D sc fun cdv A outer s H E hr1 tk hp => ?_
  have hr := hr1.mono (Nat.le_succ _)
  have hr2 := hr1.mono (show 2 ≤ k + 1 by omega)
  have hs := NoSl.of E
  have hu := (show _ + 100 < cLine from by have := hr1.un; omega : (A.deeper (envOfC d6.qual d6.scope s.heap.objs.size f cdv)).units + 100 < cLine)
  exact (dss_cons (ds_ret (de_cmp (opr_in hu) o2_in (de_var 1) (de_fld F.c_Context F.a_Context_bound (de_var 0)) (by rfl))) dss_nil)
theorem ok7 {f : Addr} {fd : FuncData} (F : Fs K mg) (D : FunD K d7.name d7.qual d7.params d7.body d7.scope (d7.dvs K) (d7.kws K) f fd) (C : Cs P w K mg base k φ) (XC : Xs P w K mg base) (hk : 1 ≤ k) : FnOk P w K mg base (L2.CX P w) (k + 2) f fd P7 (SpD K P7.length (runB N7.length (b7 φ))) := by
  have sc := sc7
  refine fn_okD D sc fun cdv A outer s H E hr1 tk hp => ?_
  have hr := hr1.mono (Nat.le_succ _)
  have hr2 := hr1.mono (show 2 ≤ k + 1 by omega)
  have hs := NoSl.of E
  have hu := (show _ + 100 < cLine from by have := hr1.un; omega : (A.deeper (envOfC d7.qual d7.scope s.heap.objs.size f cdv)).units + 100 < cLine)
  exact (dss_cons (ds_ret (de_ix hu (de_fld F.c_Context F.a_Context_bound (de_var 0)) (de_var 1))) dss_nil)
theorem ok8 {f : Addr} {fd : FuncData} (F : Fs K mg) (D : FunD K d8.name d8.qual d8.params d8.body d8.scope (d8.dvs K) (d8.kws K) f fd) (C : Cs P w K mg base k φ) (XC : Xs P w K mg base) (hk : 1 ≤ k) : FnOk P w K mg base (L2.CX P w) (k + 2) f fd P8 (SpD K P8.length (runB N8.length (b8 φ))) := by
  have sc := sc8
  refine fn_okD D sc fun cdv A outer s H E hr1 tk hp => ?_
  have hr := hr1.mono (Nat.le_succ _)
  have hr2 := hr1.mono (show 2 ≤ k + 1 by omega)
  have hs := NoSl.of E
  have hu := (show _ + 100 < cLine from by have := hr1.un; omega : (A.deeper (envOfC d8.qual d8.scope s.heap.objs.size f cdv)).units + 100 < cLine)
  exact (dss_cons (ds_ret (de_and (de_cmp (opr_in hu) o2_in (de_var 1) (de_fld F.c_Context F.a_Context_bound (de_var 0)) (by rfl)) (de_one (de_cmp (opr_notIn hu) o2_notIn (de_ix hu (de_fld F.c_Context F.a_Context_bound (de_var 0)) (de_var 1)) (de_tup (da_cons de_str (da_cons de_str da_nil))) (by rfl))))) dss_nil)
theorem ok13 {f : Addr} {fd : FuncData} (F : Fs K mg) (D : FunD K d13.name d13.qual d13.params d13.body d13.scope (d13.dvs K) (d13.kws K) f fd) (C : Cs P w K mg base k φ) (XC : Xs P w K mg base) (hk : 1 ≤ k) : FnOk P w K mg base (L2.CX P w) (k + 2) f fd P13 (SpD K P13.length (runB N13.length (b13 φ))) := by
  have sc := sc13
  refine fn_okD D sc fun cdv A outer s H E hr1 tk hp => ?_
  have hr := hr1.mono (Nat.le_succ _)
  have hr2 := hr1.mono (show 2 ≤ k + 1 by omega)
  have hs := NoSl.of E
  have hu := (show _ + 100 < cLine from by have := hr1.un; omega : (A.deeper (envOfC d13.qual d13.scope s.heap.objs.size f cdv)).units + 100 < cLine)
  exact (dss_cons (ds_ret (de_lc (own := [("name", 1)]) (by rfl) sc.nd (de_fld F.c_Context F.a_Context_bound (de_var 0)) (blk_of (by rfl)) (by decide) (fun _ _ _ _ _ => (dg_name (i := 1) sc.nd trivial)) (fun _ _ _ _ _ => dts_nil) (fun _ _ _ _ _ => (de_tup (da_cons (de_var 1) (da_cons (de_ix hu (de_fld F.c_Context F.a_Context_bound (de_var 0)) (de_var 1)) da_nil)))))) dss_nil)
theorem ok16 {f : Addr} {fd : FuncData} (F : Fs K mg) (D : FunD K d16.name d16.qual d16.params d16.body d16.scope (d16.dvs K) (d16.kws K) f fd) (C : Cs P w K mg base k φ) (XC : Xs P w K mg base) (hk : 1 ≤ k) : FnOk P w K mg base (L2.CX P w) (k + 2) f fd P16 (SpD K P16.length (runB N16.length (b16 φ))) := by
  have sc := sc16
  refine fn_okD D sc fun cdv A outer s H E hr1 tk hp => ?_
  have hr := hr1.mono (Nat.le_succ _)
  have hr2 := hr1.mono (show 2 ≤ k + 1 by omega)
  have hs := NoSl.of E
  have hu := (show _ + 100 < cLine from by have := hr1.un; omega : (A.deeper (envOfC d16.qual d16.scope s.heap.objs.size f cdv)).units + 100 < cLine)
  exact (dss_cons (ds_if (dt_cmp opr_le o2_le (de_ix hu (de_var 0) de_int) de_int (nomark _)) (dss_cons (ds_set (i := 2) (de_ix hu (de_var 0) de_int) sc.nd trivial) (dss_cons (ds_setIx hu (de_add (de_var 2) de_int) (de_var 0) de_int) (dss_cons (ds_set (i := 3) (de_add (de_mul (de_var 2) de_int) de_int) sc.nd trivial) (dss_cons (ds_if (dt_cmp opr_lt o2_lt (de_var 2) (de_callB cr_len oa_len (by rfl) F.n_len (by rfl) (da_cons (de_ix hu (de_var 0) de_int) da_nil)) (nomark _)) (dss_cons (ds_set (i := 3) (de_ix hu (de_ix hu (de_var 0) de_int) (de_var 2)) sc.nd trivial) dss_nil) dss_nil) (dss_cons (ds_if (dt_chain opr_le opr_lt o2_le o2_lt de_int (de_var 3) de_int) (dss_cons (ds_set (i := 4) (de_mod (de_callTy call_int1 oa_int (by rfl) F.n_int (by rfl) (da_cons (de_add (de_add (de_mul (de_var 3) de_int) (de_mul (de_var 2) de_int)) (de_ix hu (de_var 0) de_int)) da_nil)) de_int) sc.nd trivial) (dss_cons (ds_set (i := 5) (de_mod (de_callTy call_int1 oa_int (by rfl) F.n_int (by rfl) (da_cons (de_add (de_add (de_mul (de_var 4) de_int) (de_var 3)) de_int) da_nil)) de_int) sc.nd trivial) (dss_cons (ds_setIx hu (de_add (de_mul (de_var 4) de_int) (de_var 5)) (de_var 0) de_int) dss_nil))) (dss_cons (ds_setIx hu (de_callB call_abs oa_abs (by rfl) F.n_abs (by rfl) (da_cons (de_var 3) da_nil)) (de_var 0) de_int) dss_nil)) (dss_cons (ds_setIx hu (de_mod (de_callTy call_int1 oa_int (by rfl) F.n_int (by rfl) (da_cons (de_add (de_mul (de_ix hu (de_var 0) de_int) de_int) (de_var 3)) da_nil)) de_int) (de_var 0) de_int) dss_nil)))))) dss_nil) (dss_cons (ds_set (i := 6) (de_mod (de_callTy call_int1 oa_int (by rfl) F.n_int (by rfl) (da_cons (de_ix hu (de_var 0) de_int) da_nil)) (de_var 1)) sc.nd trivial) (dss_cons (ds_setIx hu (de_div (de_callTy call_int1 oa_int (by rfl) F.n_int (by rfl) (da_cons (de_ix hu (de_var 0) de_int) da_nil)) (de_var 1)) (de_var 0) de_int) (dss_cons (ds_ret (de_var 6)) dss_nil))))
theorem ok17 {f : Addr} {fd : FuncData} (F : Fs K mg) (D : FunD K d17.name d17.qual d17.params d17.body d17.scope (d17.dvs K) (d17.kws K) f fd) (C : Cs P w K mg base k φ) (XC : Xs P w K mg base) (hk : 1 ≤ k) : FnOk P w K mg base (L2.CX P w) (k + 2) f fd P17 (SpD K P17.length (runB N17.length (b17 φ))) := by
  have sc := sc17
  refine fn_okD D sc fun cdv A outer s H E hr1 tk hp => ?_
  have hr := hr1.mono (Nat.le_succ _)
  have hr2 := hr1.mono (show 2 ≤ k + 1 by omega)
  have hs := NoSl.of E
  have hu := (show _ + 100 < cLine from by have := hr1.un; omega : (A.deeper (envOfC d17.qual d17.scope s.heap.objs.size f cdv)).units + 100 < cLine)
  exact (dss_cons (ds_set (i := 1) (de_lst da_nil) sc.nd trivial) (dss_cons (ds_for hp (by rfl) (de_sl (de_lst (da_cons de_str (da_cons de_str (da_cons de_str (da_cons de_str (da_cons de_str (da_cons de_str da_nil))))))) do_none (do_some (de_call C.c16 (by simp) hr tk F.g__law_draw (by rfl) (da_cons (de_var 0) (da_cons de_int da_nil))))) (dg_name (i := 2) sc.nd trivial) (dss_cons (ds_expr (de_bm PySem.F.plainAttrs_list PySem.F.slot_list_append PySem.F.type_list_append mt_append om_append (de_var 1) (da_cons (de_tup (da_cons (de_var 2) (da_cons (de_ix hu (de_lst (da_cons de_str (da_cons de_str (da_cons (de_tup (da_cons de_str (da_cons de_str da_nil))) (da_cons (de_tup (da_cons de_str da_nil)) (da_cons de_str da_nil)))))) (de_call C.c16 (by simp) hr (F2.Takes.unl tk) F.g__law_draw (by rfl) (da_cons (de_var 0) (da_cons de_int da_nil)))) da_nil))) da_nil))) dss_nil)) (dss_cons (ds_ret (de_var 1)) dss_nil)))
theorem ok18 {f : Addr} {fd : FuncData} (F : Fs K mg) (D : FunD K d18.name d18.qual d18.params d18.body d18.scope (d18.dvs K) (d18.kws K) f fd) (C : Cs P w K mg base k φ) (XC : Xs P w K mg base) (hk : 1 ≤ k) : FnOk P w K mg base (L2.CX P w) (k + 2) f fd P18 (SpD K P18.length (runB N18.length (b18 φ))) := by
  have sc := sc18
  refine fn_okD D sc fun cdv A outer s H E hr1 tk hp => ?_
  have hr := hr1.mono (Nat.le_succ _)
  have hr2 := hr1.mono (show 2 ≤ k + 1 by omega)
  have hs := NoSl.of E
  have hu := (show _ + 100 < cLine from by have := hr1.un; omega : (A.deeper (envOfC d18.qual d18.scope s.heap.objs.size f cdv)).units + 100 < cLine)
  exact (dss_cons (ds_set (i := 3) (de_call C.c16 (by simp) hr tk F.g__law_draw (by rfl) (da_cons (de_var 0) (da_cons de_int da_nil))) sc.nd trivial) (dss_cons (ds_if (dt_cmp (opr_eq hu) o2_eq (de_call C.c16 (by simp) hr tk F.g__law_draw (by rfl) (da_cons (de_var 0) (da_cons de_int da_nil))) de_int (nomark _)) (dss_cons (ds_set (i := 1) (de_ix hu (de_lst (da_cons de_str (da_cons de_str da_nil))) (de_callTy call_int1 oa_int (by rfl) F.n_int (by rfl) (da_cons (de_cmp (opr_eq hu) o2_eq (de_var 1) de_str (nomark _)) da_nil))) sc.nd trivial) dss_nil) dss_nil) (dss_cons (ds_if (dt_cmp opr_lt o2_lt (de_var 3) de_int (nomark _)) (dss_cons (ds_ret (de_tup (da_cons de_str (da_cons (de_ix hu (de_lst (da_cons de_str (da_cons de_str (da_cons de_str (da_cons de_str (da_cons de_str (da_cons de_str (da_cons de_str da_nil)))))))) (de_call C.c16 (by simp) hr tk F.g__law_draw (by rfl) (da_cons (de_var 0) (da_cons de_int da_nil)))) da_nil)))) dss_nil) dss_nil) (dss_cons (ds_if ((dw_or (dt_cmp op_gt o2_gt (de_var 2) de_int (nomark _)) (dw_or1 (dt_cmp (opr_eq hu) o2_eq (de_var 3) de_int (nomark _))))).dt (dss_cons (ds_ret (de_ix hu (de_lst (da_cons (de_tup (da_cons de_str (da_cons (de_call C.c16 (by simp) hr tk F.g__law_draw (by rfl) (da_cons (de_var 0) (da_cons de_int da_nil))) da_nil))) (da_cons (de_tup (da_cons de_str (da_cons (de_cmp (opr_eq hu) o2_eq (de_mod (de_var 3) de_int) de_int (nomark _)) da_nil))) da_nil))) (de_callTy call_int1 oa_int (by rfl) F.n_int (by rfl) (da_cons (de_cmp (opr_eq hu) o2_eq (de_var 1) de_str (nomark _)) da_nil)))) dss_nil) dss_nil) (dss_cons (ds_if (dt_cmp (opr_eq hu) o2_eq (de_var 1) de_str (nomark _)) (dss_cons (ds_set (i := 4) (de_ix hu (de_lst (da_cons de_str (da_cons de_str (da_cons de_str da_nil)))) (de_call C.c16 (by simp) hr tk F.g__law_draw (by rfl) (da_cons (de_var 0) (da_cons de_int da_nil)))) sc.nd trivial) (dss_cons (ds_set (i := 5) (de_call C.c18 (by simp) hr tk F.g__law_expression (by rfl) (da_cons (de_var 0) (da_cons de_str (da_cons (de_add (de_var 2) de_int) da_nil)))) sc.nd trivial) (dss_cons (ds_ret (de_tup (da_cons (de_var 4) (da_cons (de_var 5) (da_cons (de_call C.c18 (by simp) hr tk F.g__law_expression (by rfl) (da_cons (de_var 0) (da_cons de_str (da_cons (de_add (de_var 2) de_int) da_nil)))) da_nil))))) dss_nil))) dss_nil) (dss_cons (ds_set (i := 4) (de_ix hu (de_lst (da_cons de_str (da_cons de_str (da_cons de_str (da_cons de_str (da_cons de_str (da_cons de_str (da_cons de_str da_nil)))))))) (de_call C.c16 (by simp) hr tk F.g__law_draw (by rfl) (da_cons (de_var 0) (da_cons de_int da_nil)))) sc.nd trivial) (dss_cons (ds_set (i := 6) de_str sc.nd trivial) (dss_cons (ds_if ((dw_or (dt_cmp (opr_in hu) o2_in (de_var 4) (de_tup (da_cons de_str (da_cons de_str (da_cons de_str da_nil)))) (by rfl)) (dw_or1 ((dw_and (dt_cmp (opr_eq hu) o2_eq (de_var 4) de_str (nomark _)) (dw_and1 (dt_cmp op_gt o2_gt (de_var 3) de_int (nomark _))))).dt))).dt (dss_cons (ds_set (i := 6) de_str sc.nd trivial) dss_nil) dss_nil) (dss_cons (ds_set (i := 5) (de_call C.c18 (by simp) hr tk F.g__law_expression (by rfl) (da_cons (de_var 0) (da_cons (de_var 6) (da_cons (de_add (de_var 2) de_int) da_nil)))) sc.nd trivial) (dss_cons (ds_if (dt_cmp (opr_eq hu) o2_eq (de_var 4) de_str (nomark _)) (dss_cons (ds_ret (de_tup (da_cons de_str (da_cons (de_var 5) da_nil)))) dss_nil) dss_nil) (dss_cons (ds_ret (de_tup (da_cons (de_var 4) (da_cons (de_var 5) (da_cons (de_call C.c18 (by simp) hr tk F.g__law_expression (by rfl) (da_cons (de_var 0) (da_cons (de_var 6) (da_cons (de_add (de_var 2) de_int) da_nil)))) da_nil))))) dss_nil)))))))))))
theorem ok19 {f : Addr} {fd : FuncData} (F : Fs K mg) (D : FunD K d19.name d19.qual d19.params d19.body d19.scope (d19.dvs K) (d19.kws K) f fd) (C : Cs P w K mg base k φ) (XC : Xs P w K mg base) (hk : 1 ≤ k) : FnOk P w K mg base (L2.CX P w) (k + 2) f fd P19 (SpD K P19.length (runB N19.length (b19 φ))) := by
  have sc := sc19
  refine fn_okD D sc fun cdv A outer s H E hr1 tk hp => ?_
  have hr := hr1.mono (Nat.le_succ _)
  have hr2 := hr1.mono (show 2 ≤ k + 1 by omega)
  have hs := NoSl.of E
  have hu := (show _ + 100 < cLine from by have := hr1.un; omega : (A.deeper (envOfC d19.qual d19.scope s.heap.objs.size f cdv)).units + 100 < cLine)
  exact (dss_cons (ds_set (i := 2) (de_ix hu (de_var 1) de_int) sc.nd trivial) (dss_cons (ds_if (dt_cmp (opr_in hu) o2_in (de_var 2) (de_tup (da_cons de_str (da_cons de_str da_nil))) (by rfl)) (dss_cons (ds_ret (de_var 2)) dss_nil) dss_nil) (dss_cons (ds_if (dt_cmp (opr_eq hu) o2_eq (de_var 2) de_str (nomark _)) (dss_cons (ds_for hp (by rfl) (de_var 0) (dg_tup (by rfl) (dgs_cons (dg_name (i := 3) sc.nd trivial) (dgs_cons (dg_name (i := 4) sc.nd trivial) dgs_nil)) (by rfl)) (dss_cons (ds_if (dt_cmp (opr_eq hu) o2_eq (de_var 3) (de_ix hu (de_var 1) de_int) (nomark _)) (dss_cons (ds_ret (de_ix hu (de_lst (da_cons (de_var 4) (da_cons de_str da_nil))) (de_callTy call_int1 oa_int (by rfl) F.n_int (by rfl) (da_cons (de_cmp (opr_notIn hu) o2_notIn (de_var 4) (de_tup (da_cons de_str (da_cons de_str da_nil))) (by rfl)) da_nil)))) dss_nil) dss_nil) dss_nil)) (dss_cons (ds_ret de_str) dss_nil)) dss_nil) (dss_cons (ds_set (i := 5) (de_lst da_nil) sc.nd trivial) (dss_cons (ds_for hp (by rfl) (de_sl (de_var 1) (do_some de_int) do_none) (dg_name (i := 6) sc.nd trivial) (dss_cons (ds_set (i := 4) (de_call C.c19 (by simp) hr (F2.Takes.unl tk) F.g__law_due (by rfl) (da_cons (de_var 0) (da_cons (de_var 6) da_nil))) sc.nd trivial) (dss_cons (ds_if (dt_cmp (opr_in hu) o2_in (de_var 4) (de_tup (da_cons de_str (da_cons de_str da_nil))) (by rfl)) (dss_cons (ds_ret (de_var 4)) dss_nil) dss_nil) (dss_cons (ds_expr (de_bm PySem.F.plainAttrs_list PySem.F.slot_list_append PySem.F.type_list_append mt_append om_append (de_var 5) (da_cons (de_var 4) da_nil))) dss_nil)))) (dss_cons (ds_if ((dw_and (dt_cmp (opr_in hu) o2_in (de_var 2) (de_tup (da_cons de_str (da_cons de_str (da_cons de_str da_nil)))) (by rfl)) (dw_and1 (dt_cmp (opr_eq hu) o2_eq (de_var 5) (de_lst (da_cons de_str (da_cons de_str da_nil))) (nomark _))))).dt (dss_cons (ds_ret de_str) dss_nil) dss_nil) (dss_cons (ds_if ((dw_and (dt_cmp (opr_in hu) o2_in (de_var 2) (de_tup (da_cons de_str (da_cons de_str da_nil))) (by rfl)) (dw_and1 (dt_cmp (opr_eq hu) o2_eq (de_var 5) (de_lst (da_cons de_str (da_cons de_str da_nil))) (nomark _))))).dt (dss_cons (ds_ret de_str) dss_nil) dss_nil) (dss_cons (ds_if ((dw_and (dt_cmp (opr_eq hu) o2_eq (de_var 2) de_str (nomark _)) (dw_and1 (dt_cmp (opr_eq hu) o2_eq (de_ix hu (de_var 5) de_int) (de_ix hu (de_var 5) de_int) (nomark _))))).dt (dss_cons (ds_ret de_str) dss_nil) dss_nil) (dss_cons (ds_if ((dw_and (dt_cmp (opr_in hu) o2_in (de_var 2) (de_tup (da_cons de_str (da_cons de_str da_nil))) (by rfl)) (dw_and1 (dt_cmp (opr_eq hu) o2_eq (de_var 5) (de_lst (da_cons de_str (da_cons de_str da_nil))) (nomark _))))).dt (dss_cons (ds_ret de_str) dss_nil) dss_nil) (dss_cons (ds_if ((dw_and (dt_cmp (opr_eq hu) o2_eq (de_var 2) de_str (nomark _)) (dw_and1 (dt_cmp (opr_eq hu) o2_eq (de_var 5) (de_lst (da_cons de_str da_nil)) (nomark _))))).dt (dss_cons (ds_ret de_str) dss_nil) dss_nil) (dss_cons (ds_ret de_str) dss_nil)))))))))))
theorem ok20 {f : Addr} {fd : FuncData} (F : Fs K mg) (D : FunD K d20.name d20.qual d20.params d20.body d20.scope (d20.dvs K) (d20.kws K) f fd) (C : Cs P w K mg base k φ) (XC : Xs P w K mg base) (hk : 1 ≤ k) : FnOk P w K mg base (L2.CX P w) (k + 2) f fd P20 (SpD K P20.length (runB N20.length (b20 φ))) := by
  have sc := sc20
  refine fn_okD D sc fun cdv A outer s H E hr1 tk hp => ?_
  have hr := hr1.mono (Nat.le_succ _)
  have hr2 := hr1.mono (show 2 ≤ k + 1 by omega)
  have hs := NoSl.of E
  have hu := (show _ + 100 < cLine from by have := hr1.un; omega : (A.deeper (envOfC d20.qual d20.scope s.heap.objs.size f cdv)).units + 100 < cLine)
  exact (dss_cons (ds_set (i := 1) (de_lst (da_cons (de_var 0) (da_cons de_int (da_cons de_int (da_cons de_int da_nil))))) sc.nd trivial) (dss_cons (ds_set (i := 2) (de_call C.c17 (by simp) hr tk F.g__law_context (by rfl) (da_cons (de_var 1) da_nil)) sc.nd trivial) (dss_cons (ds_forR1 hp (by rfl) (by rfl) F.n_range (da_cons de_int da_nil) (dg_name (i := 3) sc.nd trivial) (dss_cons (ds_set (i := 4) (de_call C.c18 (by simp) hr (F2.Takes.unl tk) F.g__law_expression (by rfl) (da_cons (de_var 1) (da_cons (de_ix hu (de_lst (da_cons de_str (da_cons de_str da_nil))) (de_call C.c16 (by simp) hr (F2.Takes.unl tk) F.g__law_draw (by rfl) (da_cons (de_var 1) (da_cons de_int da_nil)))) (da_cons de_int da_nil)))) sc.nd trivial) (dss_cons (ds_set (i := 5) (de_call C.c16 (by simp) hr (F2.Takes.unl tk) F.g__law_draw (by rfl) (da_cons (de_var 1) (da_cons de_int da_nil))) sc.nd trivial) (dss_cons (ds_set (i := 6) (de_make F.k_Context C.c5 (by simp) hr1 (F2.Takes.unl tk) (NoSl.unw hs) F.g_Context (by rfl) (da_cons (de_callTy call_tuple_of oa_tuple (by rfl) F.n_tuple (by rfl) (da_cons (de_var 2) da_nil)) da_nil)) sc.nd trivial) (dss_cons (ds_set (i := 7) (de_call C.c19 (by simp) hr (F2.Takes.unl tk) F.g__law_due (by rfl) (da_cons (de_var 2) (da_cons (de_var 4) da_nil))) sc.nd trivial) (dss_cons (ds_set (i := 8) de_non sc.nd trivial) (dss_cons (ds_tryAs (i := 9) (em := [("Mistaken", true)]) (s := fun _ j => b20_2 φ j) (b := b20_1 φ) (by rfl) (by rfl) sc.nd (F2.Takes.unl tk) ⟨by rfl, by decide, .inl F.g_Mistaken⟩ (em1 F.e_Mistaken_Mistaken) (fun W2 pn xe tkT hpT => (dss_cons (ds_set (i := 8) (de_call C.c4 (by simp) hr tkT F.g_kind_of (by rfl) (da_cons (de_var 4) (da_cons (de_var 6) (da_cons (de_var 5) da_nil)))) sc.nd trivial) dss_nil)) (fun c j a dd oe pn hem hz hv => by obtain rfl := em1_c hem; exact (dss_cons (ds_if ((dw_or (dt_cmp (opr_ne hu) o2_ne (de_xf XC.f_Mistaken (XC.nf_Mistaken "at" (by simp)) hz hv) (de_var 5) (nomark _)) (dw_or1 (dt_cmp (opr_ne hu) o2_ne (de_var 7) (de_add de_str (de_xf XC.f_Mistaken (XC.nf_Mistaken "why" (by simp)) hz hv)) (nomark _))))).dt (dss_cons (ds_ret de_bl) dss_nil) dss_nil) dss_nil))) (dss_cons (ds_if ((dw_and (dt_isN (de_var 8)) (dw_and1 (dt_cmp (opr_notIn hu) o2_notIn (de_var 7) (de_tup (da_cons de_str (da_cons de_str da_nil))) (by rfl))))).dt (dss_cons (ds_ret de_bl) dss_nil) dss_nil) (dss_cons (ds_if ((dw_and (dt_notN (de_var 8)) (dw_and1 (dt_cmp (opr_ne hu) o2_ne (de_var 8) (de_var 7) (nomark _))))).dt (dss_cons (ds_ret de_bl) dss_nil) dss_nil) (dss_cons (ds_if (dt_cmp (opr_ne hu) o2_ne (de_meth0 (de_var 6) F.c_Context F.m_Context_pairs C.c13 (by simp) hr (F2.Takes.unl tk) (NoSl.unw hs)) (de_var 2) (nomark _)) (dss_cons (ds_ret de_bl) dss_nil) dss_nil) dss_nil)))))))))) (dss_cons (ds_ret de_bl) dss_nil))))
theorem bi2 {f : Addr} {fd : FuncData} (Df : FunD K d2.name d2.qual d2.params d2.body d2.scope (d2.dvs K) (d2.kws K) f fd) : ∀ dfl ∈ ([[]] : List (List D)), Fills K fd P2 dfl := by
  intro dfl h; obtain rfl := List.mem_singleton.mp h
  exact Fills.none (FunD.bindsN (ps := P2) Df fun _ _ _ _ _ _ us hl => match us, hl with | [_, _, _], _ => rfl)
theorem bi3 {f : Addr} {fd : FuncData} (Df : FunD K d3.name d3.qual d3.params d3.body d3.scope (d3.dvs K) (d3.kws K) f fd) : ∀ dfl ∈ ([[]] : List (List D)), Fills K fd P3 dfl := by
  intro dfl h; obtain rfl := List.mem_singleton.mp h
  exact Fills.none (FunD.bindsN (ps := P3) Df fun _ _ _ _ _ _ us hl => match us, hl with | [_, _, _], _ => rfl)
theorem bi4 {f : Addr} {fd : FuncData} (Df : FunD K d4.name d4.qual d4.params d4.body d4.scope (d4.dvs K) (d4.kws K) f fd) : ∀ dfl ∈ ([[]] : List (List D)), Fills K fd P4 dfl := by
  intro dfl h; obtain rfl := List.mem_singleton.mp h
  exact Fills.none (FunD.bindsN (ps := P4) Df fun _ _ _ _ _ _ us hl => match us, hl with | [_, _, _], _ => rfl)
-- TODO bi5: defaults
theorem bi5 {f : Addr} {fd : FuncData} (Df : FunD K d5.name d5.qual d5.params d5.body d5.scope (d5.dvs K) (d5.kws K) f fd) : ∀ dfl ∈ ([[]] : List (List D)), Fills K fd P5 dfl := by
  intro dfl h
  simp only [List.mem_cons, List.not_mem_nil, or_false] at h
  rcases h with rfl
  · obtain ⟨ds, h1, h2⟩ := FunD.binds1 (ps := P5) Df 2 1 (by intro z; cases z) rfl (fun T kV doc pm an cdv ct us its hl hi => match us, hl, its, hi with | [_, _], _, [_], _ => ⟨_, rfl, rfl⟩)
    exact ⟨_, ds, Fix.atoms rfl, h1, h2⟩
theorem bi6 {f : Addr} {fd : FuncData} (Df : FunD K d6.name d6.qual d6.params d6.body d6.scope (d6.dvs K) (d6.kws K) f fd) : ∀ dfl ∈ ([[]] : List (List D)), Fills K fd P6 dfl := by
  intro dfl h; obtain rfl := List.mem_singleton.mp h
  exact Fills.none (FunD.bindsN (ps := P6) Df fun _ _ _ _ _ _ us hl => match us, hl with | [_, _], _ => rfl)
theorem bi7 {f : Addr} {fd : FuncData} (Df : FunD K d7.name d7.qual d7.params d7.body d7.scope (d7.dvs K) (d7.kws K) f fd) : ∀ dfl ∈ ([[]] : List (List D)), Fills K fd P7 dfl := by
  intro dfl h; obtain rfl := List.mem_singleton.mp h
  exact Fills.none (FunD.bindsN (ps := P7) Df fun _ _ _ _ _ _ us hl => match us, hl with | [_, _], _ => rfl)
theorem bi8 {f : Addr} {fd : FuncData} (Df : FunD K d8.name d8.qual d8.params d8.body d8.scope (d8.dvs K) (d8.kws K) f fd) : ∀ dfl ∈ ([[]] : List (List D)), Fills K fd P8 dfl := by
  intro dfl h; obtain rfl := List.mem_singleton.mp h
  exact Fills.none (FunD.bindsN (ps := P8) Df fun _ _ _ _ _ _ us hl => match us, hl with | [_, _], _ => rfl)
theorem bi13 {f : Addr} {fd : FuncData} (Df : FunD K d13.name d13.qual d13.params d13.body d13.scope (d13.dvs K) (d13.kws K) f fd) : ∀ dfl ∈ ([[]] : List (List D)), Fills K fd P13 dfl := by
  intro dfl h; obtain rfl := List.mem_singleton.mp h
  exact Fills.none (FunD.bindsN (ps := P13) Df fun _ _ _ _ _ _ us hl => match us, hl with | [_], _ => rfl)
theorem bi16 {f : Addr} {fd : FuncData} (Df : FunD K d16.name d16.qual d16.params d16.body d16.scope (d16.dvs K) (d16.kws K) f fd) : ∀ dfl ∈ ([[]] : List (List D)), Fills K fd P16 dfl := by
  intro dfl h; obtain rfl := List.mem_singleton.mp h
  exact Fills.none (FunD.bindsN (ps := P16) Df fun _ _ _ _ _ _ us hl => match us, hl with | [_, _], _ => rfl)
theorem bi17 {f : Addr} {fd : FuncData} (Df : FunD K d17.name d17.qual d17.params d17.body d17.scope (d17.dvs K) (d17.kws K) f fd) : ∀ dfl ∈ ([[]] : List (List D)), Fills K fd P17 dfl := by
  intro dfl h; obtain rfl := List.mem_singleton.mp h
  exact Fills.none (FunD.bindsN (ps := P17) Df fun _ _ _ _ _ _ us hl => match us, hl with | [_], _ => rfl)
theorem bi18 {f : Addr} {fd : FuncData} (Df : FunD K d18.name d18.qual d18.params d18.body d18.scope (d18.dvs K) (d18.kws K) f fd) : ∀ dfl ∈ ([[]] : List (List D)), Fills K fd P18 dfl := by
  intro dfl h; obtain rfl := List.mem_singleton.mp h
  exact Fills.none (FunD.bindsN (ps := P18) Df fun _ _ _ _ _ _ us hl => match us, hl with | [_, _, _], _ => rfl)
theorem bi19 {f : Addr} {fd : FuncData} (Df : FunD K d19.name d19.qual d19.params d19.body d19.scope (d19.dvs K) (d19.kws K) f fd) : ∀ dfl ∈ ([[]] : List (List D)), Fills K fd P19 dfl := by
  intro dfl h; obtain rfl := List.mem_singleton.mp h
  exact Fills.none (FunD.bindsN (ps := P19) Df fun _ _ _ _ _ _ us hl => match us, hl with | [_, _], _ => rfl)
theorem bi20 {f : Addr} {fd : FuncData} (Df : FunD K d20.name d20.qual d20.params d20.body d20.scope (d20.dvs K) (d20.kws K) f fd) : ∀ dfl ∈ ([[]] : List (List D)), Fills K fd P20 dfl := by
  intro dfl h; obtain rfl := List.mem_singleton.mp h
  exact Fills.none (FunD.bindsN (ps := P20) Df fun _ _ _ _ _ _ us hl => match us, hl with | [_], _ => rfl)
structure Ds (K : PySem.W.Frag) : Prop where
  d2 : ∃ fd, FunD K d2.name d2.qual d2.params d2.body d2.scope (d2.dvs K) (d2.kws K) (He.fAd K d2.at_) fd
  d3 : ∃ fd, FunD K d3.name d3.qual d3.params d3.body d3.scope (d3.dvs K) (d3.kws K) (He.fAd K d3.at_) fd
  d4 : ∃ fd, FunD K d4.name d4.qual d4.params d4.body d4.scope (d4.dvs K) (d4.kws K) (He.fAd K d4.at_) fd
  d5 : ∃ fd, FunD K d5.name d5.qual d5.params d5.body d5.scope (d5.dvs K) (d5.kws K) (He.fAd K d5.at_) fd
  d6 : ∃ fd, FunD K d6.name d6.qual d6.params d6.body d6.scope (d6.dvs K) (d6.kws K) (He.fAd K d6.at_) fd
  d7 : ∃ fd, FunD K d7.name d7.qual d7.params d7.body d7.scope (d7.dvs K) (d7.kws K) (He.fAd K d7.at_) fd
  d8 : ∃ fd, FunD K d8.name d8.qual d8.params d8.body d8.scope (d8.dvs K) (d8.kws K) (He.fAd K d8.at_) fd
  d13 : ∃ fd, FunD K d13.name d13.qual d13.params d13.body d13.scope (d13.dvs K) (d13.kws K) (He.fAd K d13.at_) fd
  d16 : ∃ fd, FunD K d16.name d16.qual d16.params d16.body d16.scope (d16.dvs K) (d16.kws K) (He.fAd K d16.at_) fd
  d17 : ∃ fd, FunD K d17.name d17.qual d17.params d17.body d17.scope (d17.dvs K) (d17.kws K) (He.fAd K d17.at_) fd
  d18 : ∃ fd, FunD K d18.name d18.qual d18.params d18.body d18.scope (d18.dvs K) (d18.kws K) (He.fAd K d18.at_) fd
  d19 : ∃ fd, FunD K d19.name d19.qual d19.params d19.body d19.scope (d19.dvs K) (d19.kws K) (He.fAd K d19.at_) fd
  d20 : ∃ fd, FunD K d20.name d20.qual d20.params d20.body d20.scope (d20.dvs K) (d20.kws K) (He.fAd K d20.at_) fd
theorem all (F : Fs K mg) (D : Ds K) (XC : Xs P w K mg base) : ∀ n : Nat, Cs P w K mg base (2 * n + 1) (ph n)
  | 0 => by
    refine ⟨?_, ?_, ?_, ?_, ?_, ?_, ?_, ?_, ?_, ?_, ?_, ?_, ?_⟩
    · obtain ⟨fd, D2⟩ := D.d2; exact ⟨⟨fd, P2, rfl, fn_st D2, bi2 D2⟩, D2.kp⟩
    · obtain ⟨fd, D3⟩ := D.d3; exact ⟨⟨fd, P3, rfl, fn_st D3, bi3 D3⟩, D3.kp⟩
    · obtain ⟨fd, D4⟩ := D.d4; exact ⟨⟨fd, P4, rfl, fn_st D4, bi4 D4⟩, D4.kp⟩
    · obtain ⟨fd, D5⟩ := D.d5; exact ⟨⟨fd, P5, rfl, fn_st D5, bi5 D5⟩, D5.kp⟩
    · obtain ⟨fd, D6⟩ := D.d6; exact ⟨⟨fd, P6, rfl, fn_st D6, bi6 D6⟩, D6.kp⟩
    · obtain ⟨fd, D7⟩ := D.d7; exact ⟨⟨fd, P7, rfl, fn_st D7, bi7 D7⟩, D7.kp⟩
    · obtain ⟨fd, D8⟩ := D.d8; exact ⟨⟨fd, P8, rfl, fn_st D8, bi8 D8⟩, D8.kp⟩
    · obtain ⟨fd, D13⟩ := D.d13; exact ⟨⟨fd, P13, rfl, fn_st D13, bi13 D13⟩, D13.kp⟩
    · obtain ⟨fd, D16⟩ := D.d16; exact ⟨⟨fd, P16, rfl, fn_st D16, bi16 D16⟩, D16.kp⟩
    · obtain ⟨fd, D17⟩ := D.d17; exact ⟨⟨fd, P17, rfl, fn_st D17, bi17 D17⟩, D17.kp⟩
    · obtain ⟨fd, D18⟩ := D.d18; exact ⟨⟨fd, P18, rfl, fn_st D18, bi18 D18⟩, D18.kp⟩
    · obtain ⟨fd, D19⟩ := D.d19; exact ⟨⟨fd, P19, rfl, fn_st D19, bi19 D19⟩, D19.kp⟩
    · obtain ⟨fd, D20⟩ := D.d20; exact ⟨⟨fd, P20, rfl, fn_st D20, bi20 D20⟩, D20.kp⟩
  | n + 1 => by
    have C := all F D XC n
    refine ⟨?_, ?_, ?_, ?_, ?_, ?_, ?_, ?_, ?_, ?_, ?_, ?_, ?_⟩
    · obtain ⟨fd, D2⟩ := D.d2; exact ⟨⟨fd, P2, rfl, ok2 F D2 C XC (by omega), bi2 D2⟩, D2.kp⟩
    · obtain ⟨fd, D3⟩ := D.d3; exact ⟨⟨fd, P3, rfl, ok3 F D3 C XC (by omega), bi3 D3⟩, D3.kp⟩
    · obtain ⟨fd, D4⟩ := D.d4; exact ⟨⟨fd, P4, rfl, ok4 F D4 C XC (by omega), bi4 D4⟩, D4.kp⟩
    · obtain ⟨fd, D5⟩ := D.d5; exact ⟨⟨fd, P5, rfl, ok5 F D5 C XC (by omega), bi5 D5⟩, D5.kp⟩
    · obtain ⟨fd, D6⟩ := D.d6; exact ⟨⟨fd, P6, rfl, ok6 F D6 C XC (by omega), bi6 D6⟩, D6.kp⟩
    · obtain ⟨fd, D7⟩ := D.d7; exact ⟨⟨fd, P7, rfl, ok7 F D7 C XC (by omega), bi7 D7⟩, D7.kp⟩
    · obtain ⟨fd, D8⟩ := D.d8; exact ⟨⟨fd, P8, rfl, ok8 F D8 C XC (by omega), bi8 D8⟩, D8.kp⟩
    · obtain ⟨fd, D13⟩ := D.d13; exact ⟨⟨fd, P13, rfl, ok13 F D13 C XC (by omega), bi13 D13⟩, D13.kp⟩
    · obtain ⟨fd, D16⟩ := D.d16; exact ⟨⟨fd, P16, rfl, ok16 F D16 C XC (by omega), bi16 D16⟩, D16.kp⟩
    · obtain ⟨fd, D17⟩ := D.d17; exact ⟨⟨fd, P17, rfl, ok17 F D17 C XC (by omega), bi17 D17⟩, D17.kp⟩
    · obtain ⟨fd, D18⟩ := D.d18; exact ⟨⟨fd, P18, rfl, ok18 F D18 C XC (by omega), bi18 D18⟩, D18.kp⟩
    · obtain ⟨fd, D19⟩ := D.d19; exact ⟨⟨fd, P19, rfl, ok19 F D19 C XC (by omega), bi19 D19⟩, D19.kp⟩
    · obtain ⟨fd, D20⟩ := D.d20; exact ⟨⟨fd, P20, rfl, ok20 F D20 C XC (by omega), bi20 D20⟩, D20.kp⟩
end
def fn : List He.DefD := [d2, d3, d4, d5, d6, d7, d8, d13, d16, d17, d18, d19, d20]
def fa : List He.Fa := [.glo "ARITHMETIC", .glo "COMPARISONS", .cls "Context", .meth "Context" "binds", .glo "Mistaken", .meth "Context" "is_end", .meth "Context" "kind", .glo "name_kind", .glo "kind_of", .glo "operator_kind", .noat "Context" "bound", .free "len", .free "int", .free "abs", .glo "_law_draw", .glo "_law_expression", .glo "_law_due", .glo "_law_context", .free "tuple", .mkr "Context", .glo "Context", .exm "Mistaken" "Mistaken" true, .meth "Context" "pairs", .free "range", .free "super", .free "str", .glo "law"]
def tul : List TuD := [("ARITHMETIC", [.str "add", .str "sub", .str "mul"]), ("COMPARISONS", [.str "lt", .str "le"])]
def exl : List ExD := [x_Mistaken]
abbrev fil : Str := PySem.Challenge.pw_pourparler_k17_kinds_of_expressions.main.file
abbrev hk : PySem.W.Hook := hookE 6 fa fn fil exl tul
def ob (s : PySem.W.SharedT) : AlE := obsEG 6 fa fn fil exl tul (HandSHeadRun.getT s)
theorem ob_eq (s : PySem.W.SharedT) : ob s = hk.obs s.abs := obsEG_eq (HandSHeadRun.getT_eq s)
abbrev R : PySem.W.OpenRow := PySem.W.OpenLaw.row PySem.Challenge.rw_pourparler_k17_kinds_of_expressions
abbrev loose : List Str := ["_wall", "Refused", "Mistaken", "ARITHMETIC", "COMPARISONS", "operator_kind", "name_kind", "kind_of", "Context", "_law_draw", "_law_context", "_law_expression", "_law_due"]
theorem run (w : World) : HandSHeadRun.RunEq R (PySem.W.view R.prog [17]) hk ob 2000 loose w := by
  intro os
  kernel_rfl
theorem facts {K : PySem.W.Frag} {h : Heap} {mg : Str → Option Value} (X : K.In h) (G : h.Ns mainGlobals mg) (cE : SaysE fa fn fil exl tul K) : Fs K mg ∧ Ds K ∧ mg "law" = some (.ref (He.ga K "law")) :=
  let c := F2.SaysE.d cE
  ⟨⟨He.glo_ok X G (c.fact 0 (f := .glo "ARITHMETIC") rfl), He.glo_ok X G (c.fact 1 (f := .glo "COMPARISONS") rfl), He.cls_ok (c.fact 2 (f := .cls "Context") rfl), He.meth_ok (c.fact 3 (f := .meth "Context" "binds") rfl), He.glo_ok X G (c.fact 4 (f := .glo "Mistaken") rfl), He.meth_ok (c.fact 5 (f := .meth "Context" "is_end") rfl), He.meth_ok (c.fact 6 (f := .meth "Context" "kind") rfl), He.glo_ok X G (c.fact 7 (f := .glo "name_kind") rfl), He.glo_ok X G (c.fact 8 (f := .glo "kind_of") rfl), He.glo_ok X G (c.fact 9 (f := .glo "operator_kind") rfl), He.noat_ok (c.fact 10 (f := .noat "Context" "bound") rfl), He.free_ok X G (c.fact 11 (f := .free "len") rfl), He.free_ok X G (c.fact 12 (f := .free "int") rfl), He.free_ok X G (c.fact 13 (f := .free "abs") rfl), He.glo_ok X G (c.fact 14 (f := .glo "_law_draw") rfl), He.glo_ok X G (c.fact 15 (f := .glo "_law_expression") rfl), He.glo_ok X G (c.fact 16 (f := .glo "_law_due") rfl), He.glo_ok X G (c.fact 17 (f := .glo "_law_context") rfl), He.free_ok X G (c.fact 18 (f := .free "tuple") rfl), He.mkr_ok (c.fact 19 (f := .mkr "Context") rfl), He.glo_ok X G (c.fact 20 (f := .glo "Context") rfl), He.exm_ok (c.fact 21 (f := .exm "Mistaken" "Mistaken" true) rfl), He.meth_ok (c.fact 22 (f := .meth "Context" "pairs") rfl), He.free_ok X G (c.fact 23 (f := .free "range") rfl), He.free_ok X G (c.fact 24 (f := .free "super") rfl), He.free_ok X G (c.fact 25 (f := .free "str") rfl), F2.SaysE.tu cE 0 (p := ("ARITHMETIC", [.str "add", .str "sub", .str "mul"])) rfl, F2.SaysE.tu cE 1 (p := ("COMPARISONS", [.str "lt", .str "le"])) rfl⟩, ⟨c.def_ 0 (d := d2) rfl, c.def_ 1 (d := d3) rfl, c.def_ 2 (d := d4) rfl, c.def_ 3 (d := d5) rfl, c.def_ 4 (d := d6) rfl, c.def_ 5 (d := d7) rfl, c.def_ 6 (d := d8) rfl, c.def_ 7 (d := d13) rfl, c.def_ 8 (d := d16) rfl, c.def_ 9 (d := d17) rfl, c.def_ 10 (d := d18) rfl, c.def_ 11 (d := d19) rfl, c.def_ 12 (d := d20) rfl⟩, He.glo_ok X G (c.fact 26 (f := .glo "law") rfl)⟩
end Wk17
open PySem PySem.W PySem.Calls PyProof.Rows
theorem Wk17.holds_of (N : Nat) (hN : 6 * N + 11 < 900) (h : ∀ ns : List Int, ns.length ≤ 63 → ∃ G, Wk17.ph N 20 [.scr (ns.map F2.D.int)] [] = .ok (.bl true) G) (hroom : L2.Room (2 * N + 1) callerA) : PySem.Challenge.rw_pourparler_k17_kinds_of_expressions.Holds := by
  w_on; o_law
  refine HandSHeadRun.head_any (r := OpenLaw.row PySem.Challenge.rw_pourparler_k17_kinds_of_expressions) (q := view (OpenLaw.row PySem.Challenge.rw_pourparler_k17_kinds_of_expressions).prog [17]) (H := Wk17.hk) (ob := Wk17.ob) (M := 2000) (loose := Wk17.loose) (d := HandSHeadRun.topDef (OpenLaw.row PySem.Challenge.rw_pourparler_k17_kinds_of_expressions).prog 17) (kwd := []) Wk17.ob_eq
    (by kernel_rfl) (fun s => by kernel_rfl) Wk17.run (by kernel_rfl) (by kernel_rfl) (by kernel_rfl) (by rfl) (by first | assumption | decide +kernel) (by decide +kernel) ⟨rfl, rfl, rfl, rfl, rfl, by decide +kernel⟩ ?hw ?hc
  case hw => w_witness2
  case hc =>
    refine L2.walk_ofE (l := PySem.Challenge.rw_pourparler_k17_kinds_of_expressions) (n := 63) (k := 2 * N + 1) (x := "_law_script") (CX := L2.CX0) rfl (by decide) (by kernel_rfl) hroom ?F (fun _ _ _ _ z => z)
    intro w mg fa h0 Y G hmg0
    obtain ⟨K, KX, c⟩ := Y
    have hmg : mg ("law" : PySem.Str) = some (.ref fa) := by
      have e : (HandSHeadRun.topDef (OpenLaw.row PySem.Challenge.rw_pourparler_k17_kinds_of_expressions).prog 17).name = ("law" : PySem.Str) := by kernel_rfl
      rw [← e]
      exact hmg0
    have cE := c
    obtain ⟨F, D, gl⟩ := Wk17.facts KX G c
    have XC : ∀ base : Heap, Wk17.Xs PySem.Challenge.pw_pourparler_k17_kinds_of_expressions w K mg base := fun base => ⟨Wk17.exc_Mistaken (by decide +kernel) F (F2.SaysE.ex (P := PySem.Challenge.pw_pourparler_k17_kinds_of_expressions) cE 0 (d := Wk17.x_Mistaken) rfl), (F2.SaysE.ex (P := PySem.Challenge.pw_pourparler_k17_kinds_of_expressions) cE 0 (d := Wk17.x_Mistaken) rfl).xf, (F2.SaysE.ex (P := PySem.Challenge.pw_pourparler_k17_kinds_of_expressions) cE 0 (d := Wk17.x_Mistaken) rfl).fld⟩
    have e := hmg.symm.trans gl
    cases e
    obtain ⟨fd, D20⟩ := D.d20
    have b := L2.FunD.bindsA (ps := Wk17.P20) D20 fun _ _ _ _ _ _ us hl => match us, hl with | [_], _ => rfl
    refine ⟨K, fd, fun vs H Q _ => F2.SpD K 1 (Wk17.ph N 20) vs H Q fun _ _ _ => False, KX, fun s v => b s [v] rfl, fun H a ns hl hO hS => F2.law_entry (h ns hl) H a hO hS, fun base hb1 hb2 => ?_⟩
    cases N with
    | zero => exact absurd (h [] (by simp)) (fun ⟨G, z⟩ => nomatch z)
    | succ N => exact F2.FnOk.cx0 (Wk17.ok20 F D20 (Wk17.all F D (XC base) N) (XC base) (by omega))
end
section
namespace Wk17
open PySem PySem.Spec PyProof.Rows L2 F2
/-! ### the draws of a state [script, place, pool, mixed] at number 0 -/
structure St (G : GH) : Prop where
  ex : ∃ (xs : List Int) (p x z : Int), G[0]? = some (.lst [.scr (xs.map D.int), .int p, .int x, .int z]) ∧ 0 ≤ p
/-- what stands behind the state stays -/
structure Fr (G G' : GH) : Prop where
  ok : St G'
  len : G.length ≤ G'.length
  at_ : ∀ i, 1 ≤ i → i < G.length → G'[i]? = G[i]?
theorem Fr.trans {G G1 G2 : GH} (a : Fr G G1) (b : Fr G1 G2) : Fr G G2 := ⟨b.ok, Nat.le_trans a.len b.len, fun i h1 h2 => by rw [b.at_ i h1 (Nat.lt_of_lt_of_le h2 a.len), a.at_ i h1 h2]⟩
theorem Fr.refl {G : GH} (h : St G) : Fr G G := ⟨h, Nat.le_refl _, fun _ _ _ => rfl⟩
theorem Fr.get {G G' : GH} {i : Nat} {o : GO} (f : Fr G G') (h2 : 1 ≤ i) (h : G[i]? = some o) : G'[i]? = some o := by
  rw [f.at_ i h2 (List.getElem?_eq_some_iff.mp h).1]; exact h
theorem St.one {G : GH} (h : St G) : 1 ≤ G.length := by
  obtain ⟨xs, p, x, z, h1, _⟩ := h.ex
  exact (List.getElem?_eq_some_iff.mp h1).1
theorem St.app {G : GH} (h : St G) (B : GH) : Fr G (G ++ B) := by
  obtain ⟨xs, p, x, z, h1, h2⟩ := h.ex
  have l := h.one
  exact ⟨⟨xs, p, x, z, by rw [List.getElem?_append_left (by omega)]; exact h1, h2⟩, by simp, fun i _ hi => by rw [List.getElem?_append_left hi]⟩
theorem set_lt {G : GH} {n i : Nat} {o : GO} (h : i ≠ n) : (G.set n o)[i]? = G[i]? := List.getElem?_set_ne (Ne.symm h)
theorem St.set {G : GH} (h : St G) {n : Nat} {o : GO} (hn : 1 ≤ n) : St (G.set n o) := by
  obtain ⟨xs, p, x, z, h1, h2⟩ := h.ex
  exact ⟨xs, p, x, z, by rw [set_lt (by omega)]; exact h1, h2⟩
theorem last {G : GH} {o : GO} : (G ++ [o])[G.length]? = some o := by simp
theorem grow {G B : GH} {i : Nat} {o : GO} (h : G[i]? = some o) : (G ++ B)[i]? = some o := by
  rw [List.getElem?_append_left (List.getElem?_eq_some_iff.mp h).1]; exact h
theorem fr_set0 {G : GH} (h : St G) {xs : List Int} {p x z : Int} (hp : 0 ≤ p) : Fr G (G.set 0 (.lst [.scr (xs.map D.int), .int p, .int x, .int z])) :=
  ⟨⟨xs, p, x, z, by rw [List.getElem?_set_self (by have := h.one; omega)], hp⟩, by simp, fun i hi _ => by rw [set_lt (by omega)]⟩
theorem draw_ok (N : Nat) (G : GH) (m : Int) (hm : 0 < m ∧ m < 1073741824) (h : St G) : ∃ v G', 0 ≤ v ∧ v < m ∧ ph (N + 1) 16 [.ref 0, .int m] G = .ok (.int v) G' ∧ Fr G G' ∧ G'.length = G.length := by
  obtain ⟨xs, p, x, z, h1, h2⟩ := h.ex
  have hl := h.one
  obtain ⟨hm0, hm1⟩ := hm
  have e1 : ∀ o, (G.set 0 o)[0]? = some o := fun o => by rw [List.getElem?_set_self (by omega)]
  have hp1 : 0 ≤ p + 1 := by omega
  have mm : m ≠ 0 := by omega
  generalize hR : ph (N + 1) 16 [.ref 0, .int m] G = R
  rw [ph_16] at hR
  by_cases hx : x ≤ 0
  · by_cases hq : p < xs.length
    · obtain ⟨c, hc, hmem⟩ := atI_mem (xs := xs.map D.int) (i := p) h2 (by simpa using hq)
      obtain ⟨c, _, rfl⟩ := List.mem_map.mp hmem
      by_cases hb0 : 0 ≤ c
      · by_cases hb1 : c < 1000000000000000000
        · simp [b16, x_sSeq, g_ix_lst h1, hx, g_setix_lst h1, g_ix_lst (e1 _), g_setix_lst (e1 _), hm0, hm1, ixN, hq, hc, hb0, hb1] at hR
          subst hR
          exact ⟨_, _, Int.emod_nonneg _ mm, Int.emod_lt_of_pos _ hm0, rfl, fr_set0 h hp1, by simp⟩
        · simp [b16, x_sSeq, g_ix_lst h1, hx, g_setix_lst h1, g_ix_lst (e1 _), g_setix_lst (e1 _), hm0, hm1, ixN, hq, hc, hb0, hb1] at hR
          subst hR
          exact ⟨_, _, Int.emod_nonneg _ mm, Int.emod_lt_of_pos _ hm0, rfl, fr_set0 h hp1, by simp⟩
      · simp [b16, x_sSeq, g_ix_lst h1, hx, g_setix_lst h1, g_ix_lst (e1 _), g_setix_lst (e1 _), hm0, hm1, ixN, hq, hc, hb0] at hR
        subst hR
        exact ⟨_, _, Int.emod_nonneg _ mm, Int.emod_lt_of_pos _ hm0, rfl, fr_set0 h hp1, by simp⟩
    · by_cases hb0 : 0 ≤ p * 7919 + 13
      · by_cases hb1 : p * 7919 + 13 < 1000000000000000000
        · simp [b16, x_sSeq, g_ix_lst h1, hx, g_setix_lst h1, g_ix_lst (e1 _), g_setix_lst (e1 _), hm0, hm1, ixN, hq, hb0, hb1] at hR
          subst hR
          exact ⟨_, _, Int.emod_nonneg _ mm, Int.emod_lt_of_pos _ hm0, rfl, fr_set0 h hp1, by simp⟩
        · simp [b16, x_sSeq, g_ix_lst h1, hx, g_setix_lst h1, g_ix_lst (e1 _), g_setix_lst (e1 _), hm0, hm1, ixN, hq, hb0, hb1] at hR
          subst hR
          exact ⟨_, _, Int.emod_nonneg _ mm, Int.emod_lt_of_pos _ hm0, rfl, fr_set0 h hp1, by simp⟩
      · exact absurd (show 0 ≤ p * 7919 + 13 by omega) hb0
  · simp [b16, x_sSeq, g_ix_lst h1, hx, g_setix_lst h1, g_ix_lst (e1 _), g_setix_lst (e1 _), hm0, hm1, ixN] at hR
    subst hR
    exact ⟨_, _, Int.emod_nonneg _ mm, Int.emod_lt_of_pos _ hm0, rfl, fr_set0 h h2, by simp⟩
/-- [..][draw(state, n)] -/
theorem pick_ok (N : Nat) (G : GH) (h : St G) {A : FA} {ds : List D} {ρ : Rho} {i : Nat} {m : Int} (hi : ∀ G, fV i ρ G = .ok (.ref 0) G) (hA : ∀ G, A ρ G = .ok ds G) (hm : m = ds.length) (h0 : 0 < ds.length ∧ ds.length < 1000) :
    ∃ d G', d ∈ ds ∧ Fr G G' ∧ f2 gIx (fLst A) (fCal 2 (ph (N + 1) 16) [] (fAc (fV i) (fAc (fC (.int m)) fA0))) ρ G = .ok d G' := by
  obtain ⟨v, G', h1, h2, h3, h4, _⟩ := draw_ok N (G ++ [.lst ds]) m (by omega) (h.app _).ok
  obtain ⟨d, hd, hmem⟩ := atI_mem (xs := ds) (i := v) h1 (by omega)
  refine ⟨d, G', hmem, (h.app _).trans h4, ?_⟩
  have e := h4.get h.one (last (G := G) (o := .lst ds))
  have hlen : ds.length ≤ 16777216 := by omega
  simp [hA, hi, hlen, h3, g_ix_lst e, hd]
/-- [a, b][int(..)] -/
theorem pick2 {G : GH} (h : St G) {a b : FE} {x y : D} {t : FE} {ρ : Rho} {c : Bool} (ha : ∀ G, a ρ G = .ok x G) (hb : ∀ G, b ρ G = .ok y G) (ht : ∀ G, t ρ G = .ok (.bl c) G) :
    ∃ G', Fr G G' ∧ f2 gIx (fLst (fAc a (fAc b fA0))) (fCall gInt (fAc t fA0)) ρ G = .ok (if c then y else x) G' := by
  refine ⟨G ++ [.lst [x, y]], h.app _, ?_⟩
  cases c <;> simp [ha, hb, ht, g_ix_lst (last (G := G) (o := .lst [x, y]))]
end Wk17
end
section
namespace Wk17
open PySem PySem.Spec PyProof.Rows L2 F2
/-! ### the context's pairs -/
def Ck (d : D) : Prop := d = .str "int" ∨ d = .str "bool" ∨ d = .tup [.str "name", .str "T"] ∨ d = .tup [.str "end"]
abbrev pairT (p : Str × D) : D := .tup [.str p.1, p.2]
structure Prs (ps : List (Str × D)) : Prop where
  nd : (ps.map (·.1)).Nodup
  ck : ∀ p ∈ ps, Ck p.2
  len : ps.length ≤ 6
def six : List Str := ["a", "b", "c", "d", "e", "f"]
theorem six_nd : six.Nodup := by
  unfold six
  simp
theorem ctx_ok (N : Nat) (G : GH) (h : St G) : ∃ (r : Nat) (ps : List (Str × D)) (G' : GH), ph (N + 2) 17 [.ref 0] G = .ok (.ref r) G' ∧ Fr G G' ∧ 1 ≤ r ∧ G'[r]? = some (.lst (ps.map pairT)) ∧ Prs ps := by
  have h1 := h.one
  rw [ph_17]
  simp only [x_runB, b17, List.map_cons, List.map_nil, List.length_cons, List.length_nil]
  have hrho : ([some (D.ref 0)] ++ List.replicate (3 - (0 + 1)) none : Rho) = [some (.ref 0), none, none] := rfl
  rw [hrho]
  have s1 : sSet (.nm 1) (fLst fA0) [some (.ref 0), none, none] G = .nx [some (.ref 0), some (.ref G.length), none] (G ++ [.lst []]) := by simp
  rw [seq_nx s1]
  obtain ⟨v, G2, v0, v1, e2, f2', l2⟩ := draw_ok N ((G ++ [.lst []]) ++ [.lst (six.map D.str)]) 7 (by omega) ((h.app _).ok.app _).ok
  have hL : (G ++ [GO.lst []])[G.length]? = some (.lst []) := last
  have hS := f2'.get (by simp) (last (G := G ++ [.lst []]) (o := .lst (six.map D.str)))
  have hL2 := f2'.get h1 (grow (B := [.lst (six.map D.str)]) hL)
  have fr2 : Fr G G2 := ((h.app _).trans ((h.app _).ok.app _)).trans f2'
  have hcut : cutG (six.map D.str) none (some v) = (six.take v.toNat).map D.str := by
    have hv : v = 0 ∨ v = 1 ∨ v = 2 ∨ v = 3 ∨ v = 4 ∨ v = 5 ∨ v = 6 := by omega
    rcases hv with rfl | rfl | rfl | rfl | rfl | rfl | rfl <;> rfl
  have esl : fSl (fLst (fAc (fC (.str "a")) (fAc (fC (.str "b")) (fAc (fC (.str "c")) (fAc (fC (.str "d")) (fAc (fC (.str "e")) (fAc (fC (.str "f")) (fA0)))))))) (fO0) (fO1 (fCal 2 (ph (N + 1) 16) [] (fAc (fV 0) (fAc (fC (.int 7)) (fA0))))) [some (.ref 0), some (.ref G.length), none] (G ++ [.lst []]) = .ok (.ref G2.length) (G2 ++ [.lst ((six.take v.toNat).map D.str)]) := by
    have e2' : ph (N + 1) 16 [.ref 0, .int 7] (G ++ [.lst [], .lst [.str "a", .str "b", .str "c", .str "d", .str "e", .str "f"]]) = .ok (.int v) G2 := by
      rw [← e2]; simp [six]
    have hS' : G2[G.length + 1]? = some (.lst (six.map D.str)) := by simpa using hS
    simp [e2', g_sl_lst hS', hcut]
  have gA : (G2 ++ [GO.lst ((six.take v.toNat).map D.str)])[G2.length]? = some (.lst ((six.take v.toNat).map D.str)) := last
  have gP := grow (B := [.lst ((six.take v.toNat).map D.str)]) hL2
  have ll := fr2.len
  have lt1 := (List.getElem?_eq_some_iff.mp hL2).1
  obtain ⟨ρ', G4, e4, q2, ps, done, rest, hdone, rfl, hrest, b2, b3, b4, b5, b6⟩ := forIt_inv (p := .nm 2) (body := b17_1 (ph (N + 1))) (ck := some G2.length) (all := (six.take v.toNat).map D.str)
    (fun xs ρ G' => ∃ (q2 : Option D) (ps : List (Str × D)) (done rest : List Str), six.take v.toNat = done ++ rest ∧ ρ = [some (.ref 0), some (.ref G.length), q2] ∧ xs = rest.map D.str ∧ ps.map (·.1) = done ∧ (∀ p ∈ ps, Ck p.2) ∧ Fr G G' ∧ G'[G.length]? = some (.lst (ps.map pairT)) ∧ G'[G2.length]? = some (.lst ((six.take v.toNat).map D.str)))
    (fun ρ G' ⟨_, _, _, _, _, _, _, _, _, _, _, h⟩ n hn => by cases hn; exact h)
    (fun x r ρ G' ⟨q2, ps, done, rest, hd, hρ, hx, hps, hk, hf, hp, ha⟩ => by
      refine ⟨fun n hn => by cases hn; exact ha, _, x_setP_nm _ _ _, ?_⟩
      subst hρ
      cases rest with
      | nil => cases hx
      | cons s rest =>
        obtain ⟨rfl, hx2⟩ := List.cons.inj (show x :: r = D.str s :: rest.map D.str from hx)
        obtain ⟨d, G5, hm, f5, e5⟩ := pick_ok N G' hf.ok (A := fAc (fC (.str "int")) (fAc (fC (.str "bool")) (fAc (fTup (fAc (fC (.str "name")) (fAc (fC (.str "T")) (fA0)))) (fAc (fTup (fAc (fC (.str "end")) (fA0))) (fAc (fC (.str "int")) (fA0)))))) (ds := [.str "int", .str "bool", .tup [.str "name", .str "T"], .tup [.str "end"], .str "int"]) (ρ := [some (.ref 0), some (.ref G.length), some (.str s)]) (i := 0) (m := 5) (fun _ => rfl) (fun _ => rfl) rfl (by simp)
        have hd2 : Ck d := by
          simp only [List.mem_cons, List.not_mem_nil, or_false] at hm
          rcases hm with rfl | rfl | rfl | rfl | rfl <;> simp [Ck]
        have gP5 := f5.get h1 hp
        have gA5 := f5.get (by omega) ha
        have hlen : ps.length < 16777216 := by
          have : ps.length = done.length := by rw [← hps]; simp
          have h6 : (six.take v.toNat).length ≤ 6 := by simp [six]; omega
          rw [hd] at h6; simp at h6; omega
        refine ⟨[some (.ref 0), some (.ref G.length), some (.str s)], G5.set G.length (.lst (ps.map pairT ++ [pairT (s, d)])), .inl ?_, some (.str s), ps ++ [(s, d)], done ++ [s], rest, ?_, rfl, hx2, by simp [hps], ?_, ?_, ?_, ?_⟩
        · have e5' := e5
          simp only [b17_1, x_sSeq]
          simp only [List.set_cons_succ, List.set_cons_zero]
          rw [x_sExpr, x_fMeth, x_fV1, R.bind_ok, if_pos (isTyM_lst hp), x_fAc, x_fTup, x_fAc, x_fV2, R.bind_ok, x_fAc, e5]
          simp [g_append gP5 (by simpa using hlen)]
        · rw [hd]; simp
        · intro p hp'
          rcases List.mem_append.mp hp' with h | h
          · exact hk p h
          · simp at h; subst h; exact hd2
        · have f6 := hf.trans f5
          exact ⟨f6.ok.set h1, by simpa using f6.len, fun i hi hl => by rw [set_lt (by omega)]; exact f6.at_ i hi hl⟩
        · rw [List.getElem?_set_self (by have := f5.len; have := hf.len; have := (List.getElem?_eq_some_iff.mp hp).1; omega)]; simp
        · rw [set_lt (by omega)]; exact gA5)
    ((six.take v.toNat).map D.str) [some (.ref 0), some (.ref G.length), none] (G2 ++ [.lst ((six.take v.toNat).map D.str)]) ⟨none, [], [], six.take v.toNat, by simp, rfl, rfl, rfl, by simp, fr2.trans (fr2.ok.app _), by simpa using gP, gA⟩
  have s2 : sFor (fSl (fLst (fAc (fC (.str "a")) (fAc (fC (.str "b")) (fAc (fC (.str "c")) (fAc (fC (.str "d")) (fAc (fC (.str "e")) (fAc (fC (.str "f")) (fA0)))))))) (fO0) (fO1 (fCal 2 (ph (N + 1) 16) [] (fAc (fV 0) (fAc (fC (.int 7)) (fA0)))))) (.nm 2) (b17_1 (ph (N + 1))) [some (.ref 0), some (.ref G.length), none] (G ++ [.lst []]) = .nx [some (.ref 0), some (.ref G.length), q2] G4 := by
    rw [x_sFor, esl, R.toS_ok, iter_lst gA]
    dsimp only
    rw [unlS_none]
    exact e4
  rw [seq_nx s2]
  refine ⟨G.length, ps, G4, by simp [x_sSeq], b4, h1, b5, ?_⟩
  have hr0 : rest = [] := List.map_eq_nil_iff.mp hrest.symm
  have hn : ps.map (·.1) = six.take v.toNat := by rw [b2, hdone, hr0, List.append_nil]
  refine ⟨by rw [hn]; exact (List.take_sublist _ _).nodup six_nd, b3, ?_⟩
  have := congrArg List.length hn
  simp [six] at this
  omega
end Wk17
end
section
namespace Wk17
open PySem PySem.Spec PyProof.Rows L2 F2
/-! ### expressions -/
inductive E where
  | int (i : Int) | bl (b : Bool) | var (s : Str) | no (a : E) | bin (op : String) (a b : E)
def E.d : E → D
  | .int i => .tup [.str "int", .int i]
  | .bl b => .tup [.str "bool", .bl b]
  | .var s => .tup [.str "var", .str s]
  | .no a => .tup [.str "not", a.d]
  | .bin op a b => .tup [.str op, a.d, b.d]
def ops : List String := ["add", "sub", "mul", "lt", "le", "eq", "and", "or"]
def E.ok : E → Nat → Prop
  | .int _, _ => True
  | .bl _, _ => True
  | .var _, _ => True
  | .no a, n => ∃ m, n = m + 1 ∧ a.ok m
  | .bin op a b, n => ∃ m, n = m + 1 ∧ op ∈ ops ∧ a.ok m ∧ b.ok m
theorem expr_ok (N : Nat) : ∀ (n : Nat) (lv : Int) (kind : String) (G : GH), (kind = "int" ∨ kind = "bool") → 4 ≤ lv + n → St G → ∃ (e : E) (G' : GH), e.ok n ∧ Fr G G' ∧ ph (N + n + 2) 18 [.ref 0, .str kind, .int lv] G = .ok e.d G'
  | n, lv, kind, G, hk, hl, h => by
    rw [show N + n + 2 = (N + n + 1) + 1 from rfl, ph_18]
    simp only [x_runB, b18, List.map_cons, List.map_nil, List.length_cons, List.length_nil]
    have hrho : ([some (D.ref 0), some (.str kind), some (.int lv)] ++ List.replicate (7 - (0 + 1 + 1 + 1)) none : Rho) = [some (.ref 0), some (.str kind), some (.int lv), none, none, none, none] := rfl
    rw [hrho]
    obtain ⟨c, G1, c0, c1, e1, f1, _⟩ := draw_ok (N + n) G 8 (by omega) h
    have s1 : (sSet (.nm 3) (fCal 2 ((ph (N + n + 1)) 16) [] (fAc (fV 0) (fAc (fC (.int 8)) (fA0))))) [some (.ref 0), some (.str kind), some (.int lv), none, none, none, none] G = .nx [some (.ref 0), some (.str kind), some (.int lv), some (.int c), none, none, none] G1 := by simp [e1]
    rw [seq_nx s1]
    obtain ⟨k2, G2, hk2, f2', s2⟩ : ∃ (k2 : String) (G2 : GH), (k2 = "int" ∨ k2 = "bool") ∧ Fr G1 G2 ∧ (sIf (fB (f2 gEq (fCal 2 ((ph (N + n + 1)) 16) [] (fAc (fV 0) (fAc (fC (.int 16)) (fA0)))) (fC (.int 0)))) (sSeq (sSet (.nm 1) (f2 gIx (fLst (fAc (fC (.str "int")) (fAc (fC (.str "bool")) (fA0)))) (fCall gInt (fAc (f2 gEq (fV 1) (fC (.str "int"))) (fA0))))) (sNil)) (sNil)) [some (.ref 0), some (.str kind), some (.int lv), some (.int c), none, none, none] G1 = .nx [some (.ref 0), some (.str k2), some (.int lv), some (.int c), none, none, none] G2 := by
      obtain ⟨v, G2, _, _, e2, f2', _⟩ := draw_ok (N + n) G1 16 (by omega) f1.ok
      have et : (fB (f2 gEq (fCal 2 ((ph (N + n + 1)) 16) [] (fAc (fV 0) (fAc (fC (.int 16)) (fA0)))) (fC (.int 0)))) [some (.ref 0), some (.str kind), some (.int lv), some (.int c), none, none, none] G1 = .ok (decide (v = 0)) G2 := by simp [e2]
      by_cases hv : v = 0
      · obtain ⟨G3, f3, e3⟩ := pick2 f2'.ok (a := fC (.str "int")) (b := fC (.str "bool")) (x := .str "int") (y := .str "bool") (t := f2 gEq (fV 1) (fC (.str "int"))) (ρ := [some (.ref 0), some (.str kind), some (.int lv), some (.int c), none, none, none]) (c := decide (kind = "int")) (fun _ => rfl) (fun _ => rfl) (fun _ => by simp)
        refine ⟨if kind = "int" then "bool" else "int", G3, by split <;> simp, f2'.trans f3, ?_⟩
        rw [x_sIf, et, R.toS_ok, if_pos (decide_eq_true hv), x_sSeq, x_sSet, e3, R.toS_ok]
        by_cases hki : kind = "int" <;> simp [hki]
      · refine ⟨kind, G2, hk, f2', ?_⟩
        rw [x_sIf, et, R.toS_ok, if_neg (by simpa using hv)]
        simp
    rw [seq_nx s2]
    have f12 := f1.trans f2'
    by_cases hc3 : c < 3
    · obtain ⟨d, G3, hm, f3, e3⟩ := pick_ok (N + n) G2 f2'.ok (A := (fAc (fC (.str "a")) (fAc (fC (.str "b")) (fAc (fC (.str "c")) (fAc (fC (.str "d")) (fAc (fC (.str "e")) (fAc (fC (.str "f")) (fAc (fC (.str "g")) (fA0))))))))) (ds := [.str "a", .str "b", .str "c", .str "d", .str "e", .str "f", .str "g"]) (ρ := [some (.ref 0), some (.str k2), some (.int lv), some (.int c), none, none, none]) (i := 0) (m := 7) (fun _ => rfl) (fun _ => rfl) rfl (by simp)
      have hd : ∃ s : Str, d = .str s := by
        simp only [List.mem_cons, List.not_mem_nil, or_false] at hm
        rcases hm with rfl | rfl | rfl | rfl | rfl | rfl | rfl <;> exact ⟨_, rfl⟩
      obtain ⟨s, rfl⟩ := hd
      refine ⟨.var s, G3, trivial, f12.trans f3, ?_⟩
      have er : (fTup (fAc (fC (.str "var")) (fAc (f2 gIx (fLst (fAc (fC (.str "a")) (fAc (fC (.str "b")) (fAc (fC (.str "c")) (fAc (fC (.str "d")) (fAc (fC (.str "e")) (fAc (fC (.str "f")) (fAc (fC (.str "g")) (fA0))))))))) (fCal 2 ((ph (N + n + 1)) 16) [] (fAc (fV 0) (fAc (fC (.int 7)) (fA0))))) (fA0)))) [some (.ref 0), some (.str k2), some (.int lv), some (.int c), none, none, none] G2 = .ok (E.var s).d G3 := by
        rw [x_fTup, x_fAc, x_fC, R.bind_ok, x_fAc, e3]
        rfl
      rw [x_sSeq, x_sIf]
      have et : (fB (f2 gLt (fV 3) (fC (.int 3)))) [some (.ref 0), some (.str k2), some (.int lv), some (.int c), none, none, none] G2 = .ok true G2 := by simp [hc3]
      rw [et, R.toS_ok, if_pos rfl, x_sSeq, x_sRet, er, R.toS_ok]
    have s3 : (sIf (fB (f2 gLt (fV 3) (fC (.int 3)))) (sSeq (sRet (fTup (fAc (fC (.str "var")) (fAc (f2 gIx (fLst (fAc (fC (.str "a")) (fAc (fC (.str "b")) (fAc (fC (.str "c")) (fAc (fC (.str "d")) (fAc (fC (.str "e")) (fAc (fC (.str "f")) (fAc (fC (.str "g")) (fA0))))))))) (fCal 2 ((ph (N + n + 1)) 16) [] (fAc (fV 0) (fAc (fC (.int 7)) (fA0))))) (fA0))))) (sNil)) (sNil)) [some (.ref 0), some (.str k2), some (.int lv), some (.int c), none, none, none] G2 = .nx [some (.ref 0), some (.str k2), some (.int lv), some (.int c), none, none, none] G2 := by simp [hc3]
    rw [seq_nx s3]
    by_cases hleaf : 3 < lv ∨ c = 3
    · obtain ⟨v, G3, _, _, e3, f3, _⟩ := draw_ok (N + n) G2 65536 (by omega) f2'.ok
      have et : (fOrT (fB (f2 gGt (fV 2) (fC (.int 3)))) (fB (f2 gEq (fV 3) (fC (.int 3))))) [some (.ref 0), some (.str k2), some (.int lv), some (.int c), none, none, none] G2 = .ok true G2 := by
        rcases hleaf with h | h
        · simp [h]
        · by_cases h3 : 3 < lv <;> simp [h, h3]
      have er : (f2 gIx (fLst (fAc (fTup (fAc (fC (.str "int")) (fAc (fCal 2 ((ph (N + n + 1)) 16) [] (fAc (fV 0) (fAc (fC (.int 65536)) (fA0)))) (fA0)))) (fAc (fTup (fAc (fC (.str "bool")) (fAc (f2 gEq (f2 gMod (fV 3) (fC (.int 2))) (fC (.int 0))) (fA0)))) (fA0)))) (fCall gInt (fAc (f2 gEq (fV 1) (fC (.str "bool"))) (fA0)))) [some (.ref 0), some (.str k2), some (.int lv), some (.int c), none, none, none] G2 = .ok (if k2 = "bool" then (E.bl (decide (c % 2 = 0))).d else (E.int v).d) (G3 ++ [.lst [(E.int v).d, (E.bl (decide (c % 2 = 0))).d]]) := by
        have g := last (G := G3) (o := .lst [(E.int v).d, (E.bl (decide (c % 2 = 0))).d])
        simp only [E.d] at g ⊢
        by_cases hkb : k2 = "bool" <;> simp [e3, hkb, g_ix_lst g]
      have f4 := f3.ok.app [.lst [(E.int v).d, (E.bl (decide (c % 2 = 0))).d]]
      rw [x_sSeq, x_sIf, et, R.toS_ok, if_pos rfl, x_sSeq, x_sRet, er, R.toS_ok]
      by_cases hkb : k2 = "bool"
      · rw [if_pos hkb]; exact ⟨.bl _, _, trivial, (f12.trans f3).trans f4, rfl⟩
      · rw [if_neg hkb]; exact ⟨.int v, _, trivial, (f12.trans f3).trans f4, rfl⟩
    have hlv : ¬ 3 < lv := fun z => hleaf (.inl z)
    have hc : ¬ c = 3 := fun z => hleaf (.inr z)
    have s4 : (sIf (fOrT (fB (f2 gGt (fV 2) (fC (.int 3)))) (fB (f2 gEq (fV 3) (fC (.int 3))))) (sSeq (sRet (f2 gIx (fLst (fAc (fTup (fAc (fC (.str "int")) (fAc (fCal 2 ((ph (N + n + 1)) 16) [] (fAc (fV 0) (fAc (fC (.int 65536)) (fA0)))) (fA0)))) (fAc (fTup (fAc (fC (.str "bool")) (fAc (f2 gEq (f2 gMod (fV 3) (fC (.int 2))) (fC (.int 0))) (fA0)))) (fA0)))) (fCall gInt (fAc (f2 gEq (fV 1) (fC (.str "bool"))) (fA0))))) (sNil)) (sNil)) [some (.ref 0), some (.str k2), some (.int lv), some (.int c), none, none, none] G2 = .nx [some (.ref 0), some (.str k2), some (.int lv), some (.int c), none, none, none] G2 := by simp [hlv, hc]
    rw [seq_nx s4]
    cases n with
    | zero => exfalso; omega
    | succ n =>
      have ih := expr_ok N n (lv + 1)
      rcases hk2 with rfl | rfl
      · -- int
        obtain ⟨d, G3, hm, f3, e3⟩ := pick_ok (N + n + 1) G2 f2'.ok (A := (fAc (fC (.str "add")) (fAc (fC (.str "sub")) (fAc (fC (.str "mul")) (fA0))))) (ds := [.str "add", .str "sub", .str "mul"]) (ρ := [some (.ref 0), some (.str "int"), some (.int lv), some (.int c), none, none, none]) (i := 0) (m := 3) (fun _ => rfl) (fun _ => rfl) rfl (by simp)
        have hd : ∃ s : String, s ∈ ops ∧ d = .str s := by
          simp only [List.mem_cons, List.not_mem_nil, or_false] at hm
          rcases hm with rfl | rfl | rfl <;> exact ⟨_, by simp [ops], rfl⟩
        obtain ⟨op, hop, rfl⟩ := hd
        obtain ⟨a, G4, ha, f4, e4⟩ := ih "int" G3 (.inl rfl) (by omega) f3.ok
        obtain ⟨b, G5, hb, f5, e5⟩ := ih "int" G4 (.inl rfl) (by omega) f4.ok
        refine ⟨.bin op a b, G5, ⟨n, rfl, hop, ha, hb⟩, ((f12.trans f3).trans f4).trans f5, ?_⟩
        have e4' : ph (N + (n + 1) + 1) 18 [.ref 0, .str "int", .int (lv + 1)] G3 = .ok a.d G4 := e4
        have e5' : ph (N + (n + 1) + 1) 18 [.ref 0, .str "int", .int (lv + 1)] G4 = .ok b.d G5 := e5
        have sa : (sSet (.nm 4) (f2 gIx (fLst (fAc (fC (.str "add")) (fAc (fC (.str "sub")) (fAc (fC (.str "mul")) (fA0))))) (fCal 2 ((ph (N + (n + 1) + 1)) 16) [] (fAc (fV 0) (fAc (fC (.int 3)) (fA0)))))) [some (.ref 0), some (.str "int"), some (.int lv), some (.int c), none, none, none] G2 = .nx [some (.ref 0), some (.str "int"), some (.int lv), some (.int c), some (.str op), none, none] G3 := by
          have e3' := e3
          rw [x_sSet]
          have ee : (f2 gIx (fLst (fAc (fC (.str "add")) (fAc (fC (.str "sub")) (fAc (fC (.str "mul")) (fA0))))) (fCal 2 ((ph (N + (n + 1) + 1)) 16) [] (fAc (fV 0) (fAc (fC (.int 3)) (fA0))))) [some (.ref 0), some (.str "int"), some (.int lv), some (.int c), none, none, none] G2 = .ok (.str op) G3 := e3
          rw [ee]; rfl
        have et : (fB (f2 gEq (fV 1) (fC (.str "int")))) [some (.ref 0), some (.str "int"), some (.int lv), some (.int c), none, none, none] G2 = .ok true G2 := by simp
        rw [x_sSeq, x_sIf, et, R.toS_ok, if_pos rfl, seq_nx sa]
        simp [x_sSeq, e4', e5', E.d]
      · -- bool
        have s5 : (sIf (fB (f2 gEq (fV 1) (fC (.str "int")))) (sSeq (sSet (.nm 4) (f2 gIx (fLst (fAc (fC (.str "add")) (fAc (fC (.str "sub")) (fAc (fC (.str "mul")) (fA0))))) (fCal 2 ((ph (N + (n + 1) + 1)) 16) [] (fAc (fV 0) (fAc (fC (.int 3)) (fA0)))))) (sSeq (sSet (.nm 5) (fCal 3 ((ph (N + (n + 1) + 1)) 18) [] (fAc (fV 0) (fAc (fC (.str "int")) (fAc (f2 gAdd (fV 2) (fC (.int 1))) (fA0)))))) (sSeq (sRet (fTup (fAc (fV 4) (fAc (fV 5) (fAc (fCal 3 ((ph (N + (n + 1) + 1)) 18) [] (fAc (fV 0) (fAc (fC (.str "int")) (fAc (f2 gAdd (fV 2) (fC (.int 1))) (fA0))))) (fA0)))))) (sNil)))) (sNil)) [some (.ref 0), some (.str "bool"), some (.int lv), some (.int c), none, none, none] G2 = .nx [some (.ref 0), some (.str "bool"), some (.int lv), some (.int c), none, none, none] G2 := by simp
        rw [seq_nx s5]
        obtain ⟨d, G3, hm, f3, e3⟩ := pick_ok (N + n + 1) G2 f2'.ok (A := (fAc (fC (.str "lt")) (fAc (fC (.str "le")) (fAc (fC (.str "eq")) (fAc (fC (.str "and")) (fAc (fC (.str "or")) (fAc (fC (.str "not")) (fAc (fC (.str "eq")) (fA0))))))))) (ds := [.str "lt", .str "le", .str "eq", .str "and", .str "or", .str "not", .str "eq"]) (ρ := [some (.ref 0), some (.str "bool"), some (.int lv), some (.int c), none, none, none]) (i := 0) (m := 7) (fun _ => rfl) (fun _ => rfl) rfl (by simp)
        have hd : ∃ s : String, (s ∈ ops ∨ s = "not") ∧ d = .str s := by
          simp only [List.mem_cons, List.not_mem_nil, or_false] at hm
          rcases hm with rfl | rfl | rfl | rfl | rfl | rfl | rfl <;> exact ⟨_, by simp [ops], rfl⟩
        obtain ⟨op, hop, rfl⟩ := hd
        have sa : (sSet (.nm 4) (f2 gIx (fLst (fAc (fC (.str "lt")) (fAc (fC (.str "le")) (fAc (fC (.str "eq")) (fAc (fC (.str "and")) (fAc (fC (.str "or")) (fAc (fC (.str "not")) (fAc (fC (.str "eq")) (fA0))))))))) (fCal 2 ((ph (N + (n + 1) + 1)) 16) [] (fAc (fV 0) (fAc (fC (.int 7)) (fA0)))))) [some (.ref 0), some (.str "bool"), some (.int lv), some (.int c), none, none, none] G2 = .nx [some (.ref 0), some (.str "bool"), some (.int lv), some (.int c), some (.str op), none, none] G3 := by
          rw [x_sSet]
          have ee : (f2 gIx (fLst (fAc (fC (.str "lt")) (fAc (fC (.str "le")) (fAc (fC (.str "eq")) (fAc (fC (.str "and")) (fAc (fC (.str "or")) (fAc (fC (.str "not")) (fAc (fC (.str "eq")) (fA0))))))))) (fCal 2 ((ph (N + (n + 1) + 1)) 16) [] (fAc (fV 0) (fAc (fC (.int 7)) (fA0))))) [some (.ref 0), some (.str "bool"), some (.int lv), some (.int c), none, none, none] G2 = .ok (.str op) G3 := e3
          rw [ee]; rfl
        rw [seq_nx sa]
        obtain ⟨inn, hinn, sb⟩ : ∃ inn : String, (inn = "int" ∨ inn = "bool") ∧ ∀ R : FS, sSeq (sSet (.nm 6) (fC (.str "int"))) (sSeq (sIf (fOrT (fB (f2 gIn (fV 4) (fTup (fAc (fC (.str "and")) (fAc (fC (.str "or")) (fAc (fC (.str "not")) (fA0))))))) (fAndT (fB (f2 gEq (fV 4) (fC (.str "eq")))) (fB (f2 gGt (fV 3) (fC (.int 5)))))) (sSeq (sSet (.nm 6) (fC (.str "bool"))) (sNil)) (sNil)) R) [some (.ref 0), some (.str "bool"), some (.int lv), some (.int c), some (.str op), none, none] G3 = R [some (.ref 0), some (.str "bool"), some (.int lv), some (.int c), some (.str op), none, some (.str inn)] G3 := by
          by_cases h1 : op = "and" ∨ op = "or" ∨ op = "not"
          · refine ⟨"bool", .inr rfl, fun R => ?_⟩
            rcases h1 with rfl | rfl | rfl <;> simp [x_sSeq]
          · have h2 : ¬ op = "and" ∧ ¬ op = "or" ∧ ¬ op = "not" := ⟨fun z => h1 (.inl z), fun z => h1 (.inr (.inl z)), fun z => h1 (.inr (.inr z))⟩
            by_cases h3 : op = "eq"
            · subst h3
              by_cases h4 : 5 < c
              · refine ⟨"bool", .inr rfl, fun R => ?_⟩
                simp [x_sSeq, h4]
              · refine ⟨"int", .inl rfl, fun R => ?_⟩
                simp [x_sSeq, h4]
            · refine ⟨"int", .inl rfl, fun R => ?_⟩
              simp [x_sSeq, h2, h3]
        rw [sb]
        obtain ⟨a, G4, ha, f4, e4⟩ := ih inn G3 hinn (by omega) f3.ok
        have e4' : ph (N + (n + 1) + 1) 18 [.ref 0, .str inn, .int (lv + 1)] G3 = .ok a.d G4 := e4
        by_cases hnot : op = "not"
        · subst hnot
          refine ⟨.no a, G4, ⟨n, rfl, ha⟩, (f12.trans f3).trans f4, ?_⟩
          simp [x_sSeq, e4', E.d]
        · obtain ⟨b, G5, hb, f5, e5⟩ := ih inn G4 hinn (by omega) f4.ok
          have e5' : ph (N + (n + 1) + 1) 18 [.ref 0, .str inn, .int (lv + 1)] G4 = .ok b.d G5 := e5
          have hop' : op ∈ ops := hop.resolve_right hnot
          refine ⟨.bin op a b, G5, ⟨n, rfl, hop', ha, hb⟩, ((f12.trans f3).trans f4).trans f5, ?_⟩
          simp [x_sSeq, e4', e5', E.d, hnot]
end Wk17
end
section
namespace Wk17
open PySem PySem.Spec PyProof.Rows L2 F2
/-! ### the kind that is due -/
inductive Du where
  | int | bool | kind | unk
deriving DecidableEq
def Du.s : Du → String
  | .int => "int"
  | .bool => "bool"
  | .kind => "!kind"
  | .unk => "!unknown"
def Du.bad : Du → Bool
  | .kind => true
  | .unk => true
  | _ => false
def ofK : D → Du
  | .str x => if x = Str.ofString "int" then .int else .bool
  | _ => .kind
def look : List (Str × D) → Str → Du
  | [], _ => .unk
  | p :: r, s => if p.1 = s then ofK p.2 else look r s
def op2 (op : String) (x y : Du) : Du :=
  if op = "add" ∨ op = "sub" ∨ op = "mul" then (if x = .int ∧ y = .int then .int else .kind)
  else if op = "lt" ∨ op = "le" then (if x = .int ∧ y = .int then .bool else .kind)
  else if op = "eq" then (if x = y then .bool else .kind)
  else if x = .bool ∧ y = .bool then .bool else .kind
def E.due (ps : List (Str × D)) : E → Du
  | .int _ => .int
  | .bl _ => .bool
  | .var s => look ps s
  | .no a => if (a.due ps).bad = true then a.due ps else if a.due ps = .bool then .bool else .kind
  | .bin op a b => if (a.due ps).bad = true then a.due ps else if (b.due ps).bad = true then b.due ps else op2 op (a.due ps) (b.due ps)
/-- what stands stays -/
structure Kp (G G' : GH) : Prop where
  len : G.length ≤ G'.length
  at_ : ∀ i, i < G.length → G'[i]? = G[i]?
theorem Kp.refl {G : GH} : Kp G G := ⟨Nat.le_refl _, fun _ _ => rfl⟩
theorem Kp.trans {G G1 G2 : GH} (a : Kp G G1) (b : Kp G1 G2) : Kp G G2 := ⟨Nat.le_trans a.len b.len, fun i h => by rw [b.at_ i (Nat.lt_of_lt_of_le h a.len), a.at_ i h]⟩
theorem Kp.app {G : GH} (B : GH) : Kp G (G ++ B) := ⟨by simp, fun i h => by rw [List.getElem?_append_left h]⟩
theorem Kp.get {G G' : GH} {i : Nat} {o : GO} (f : Kp G G') (h : G[i]? = some o) : G'[i]? = some o := by
  rw [f.at_ i (List.getElem?_eq_some_iff.mp h).1]; exact h
theorem Kp.set {G G' : GH} (f : Kp G G') {n : Nat} {o : GO} (h : G.length ≤ n) : Kp G (G'.set n o) := ⟨by simpa using f.len, fun i hi => by rw [set_lt (by omega)]; exact f.at_ i hi⟩
theorem Kp.fr {G G' : GH} (f : Kp G G') (h : St G) : Fr G G' := by
  obtain ⟨xs, p, x, z, h1, h2⟩ := h.ex
  exact ⟨⟨xs, p, x, z, f.get h1, h2⟩, f.len, fun i _ hi => f.at_ i hi⟩
theorem Ck.du {d : D} (h : Ck d) : ofK d = .int ∧ d = .str "int" ∨ ofK d = .bool ∧ d = .str "bool" ∨ ofK d = .kind ∧ ∃ xs, d = .tup xs ∧ sB 64 d = true := by
  rcases h with rfl | rfl | rfl | rfl
  · left; simp [ofK]
  · right; left; simp [ofK]
  · right; right; exact ⟨rfl, _, rfl, rfl⟩
  · right; right; exact ⟨rfl, _, rfl, rfl⟩
theorem var_turn (φ : Nat → FD) {p : Str × D} (hc : Ck p.2) {s : Str} {r : Nat} {h q3 q4 : Option D} {G : GH} :
    (p.1 = s → ∃ G', Kp G G' ∧ b19_1 φ [some (.ref r), some (.tup [.str "var", .str s]), h, some (.str p.1), some p.2, none, none] G = .rt (.str (ofK p.2).s) G') ∧
    (p.1 ≠ s → b19_1 φ [some (.ref r), some (.tup [.str "var", .str s]), h, some (.str p.1), some p.2, none, none] G = .nx [some (.ref r), some (.tup [.str "var", .str s]), h, some (.str p.1), some p.2, none, none] G) := by
  refine ⟨fun e => ?_, fun e => ?_⟩
  · refine ⟨G ++ [.lst [p.2, .str "!kind"]], .app _, ?_⟩
    have g := last (G := G) (o := .lst [p.2, .str "!kind"])
    rcases hc.du with ⟨h1, h2⟩ | ⟨h1, h2⟩ | ⟨h1, xs, h2, h3⟩
    · rw [h1]; rw [h2] at g ⊢; simp [b19_1, x_sSeq, e, g_ix_lst g, Du.s]
    · rw [h1]; rw [h2] at g ⊢; simp [b19_1, x_sSeq, e, g_ix_lst g, Du.s]
    · rw [h1]; rw [h2] at g h3 ⊢; simp [b19_1, x_sSeq, e, g_ix_lst g, Du.s, notin_t2 h3]
  · simp [b19_1, x_sSeq, e]
theorem var_loop (φ : Nat → FD) {all : List D} {s : Str} {r : Nat} {h : Option D} {G : GH} (hg : G[r]? = some (.lst all)) : ∀ (qs : List (Str × D)) (q3 q4 : Option D), (∀ p ∈ qs, Ck p.2) →
    (look qs s = .unk ∧ ∃ q3' q4', forIt (.tu [.nm 3, .nm 4]) (b19_1 φ) (some r) all (qs.map pairT) [some (.ref r), some (.tup [.str "var", .str s]), h, q3, q4, none, none] G = .nx [some (.ref r), some (.tup [.str "var", .str s]), h, q3', q4', none, none] G) ∨
    (∃ G', Kp G G' ∧ forIt (.tu [.nm 3, .nm 4]) (b19_1 φ) (some r) all (qs.map pairT) [some (.ref r), some (.tup [.str "var", .str s]), h, q3, q4, none, none] G = .rt (.str (look qs s).s) G')
  | [], q3, q4, _ => .inl ⟨rfl, q3, q4, by rw [List.map_nil, forIt, if_pos]; intro n hn; cases hn; exact hg⟩
  | p :: qs, q3, q4, hc => by
    have hck : chkL (some r) all G := fun n hn => by cases hn; exact hg
    obtain ⟨t1, t2⟩ := var_turn φ (p := p) (hc p (List.mem_cons_self ..)) (s := s) (r := r) (h := h) (q3 := q3) (q4 := q4) (G := G)
    have hs : setP (.tu [.nm 3, .nm 4]) (pairT p) [some (.ref r), some (.tup [.str "var", .str s]), h, q3, q4, none, none] = some [some (.ref r), some (.tup [.str "var", .str s]), h, some (.str p.1), some p.2, none, none] := by simp
    by_cases e : p.1 = s
    · obtain ⟨G', k, t⟩ := t1 e
      refine .inr ⟨G', k, ?_⟩
      rw [List.map_cons, forIt, if_pos hck, hs]
      dsimp only
      rw [t, look, if_pos e]
    · have ih := var_loop φ (s := s) (h := h) hg qs (some (.str p.1)) (some p.2) fun z hz => hc z (List.mem_cons_of_mem _ hz)
      rw [List.map_cons, forIt, if_pos hck, hs]
      dsimp only
      rw [t2 e, look, if_neg e]
      exact ih
/-- one operand -/
theorem due_turn (φ : Nat → FD) {x : D} {r L : Nat} {e h q4 q6 : Option D} {d : Du} {G G1 : GH} {xs : List D} (hx : φ 19 [.ref r, x] G = .ok (.str d.s) G1) (hl : G1[L]? = some (.lst xs)) (hn : xs.length < 3) :
    b19_2 φ [some (.ref r), e, h, none, q4, some (.ref L), some x] G = if d.bad = true then .rt (.str d.s) G1 else .nx [some (.ref r), e, h, none, some (.str d.s), some (.ref L), some x] (G1.set L (.lst (xs ++ [.str d.s]))) := by
  have hn' : xs.length < 16777216 := by omega
  cases d <;> simp [Du.s] at hx <;> simp [b19_2, x_sSeq, hx, Du.s, Du.bad, isTyM_lst hl, g_append hl hn']
theorem fin2 (φ : Nat → FD) {op : String} (ho : op ∈ ops) {x y : Du} (hx : x.bad = false) (hy : y.bad = false) {r L : Nat} {e q4 q6 : Option D} {G : GH} (g : G[L]? = some (.lst [.str x.s, .str y.s])) :
    ∃ G', Kp G G' ∧ (sSeq (sIf (fAndT (fB (f2 gIn (fV 2) (fTup (fAc (fC (.str "add")) (fAc (fC (.str "sub")) (fAc (fC (.str "mul")) (fA0))))))) (fB (f2 gEq (fV 5) (fLst (fAc (fC (.str "int")) (fAc (fC (.str "int")) (fA0))))))) (sSeq (sRet (fC (.str "int"))) (sNil)) (sNil)) (sSeq (sIf (fAndT (fB (f2 gIn (fV 2) (fTup (fAc (fC (.str "lt")) (fAc (fC (.str "le")) (fA0)))))) (fB (f2 gEq (fV 5) (fLst (fAc (fC (.str "int")) (fAc (fC (.str "int")) (fA0))))))) (sSeq (sRet (fC (.str "bool"))) (sNil)) (sNil)) (sSeq (sIf (fAndT (fB (f2 gEq (fV 2) (fC (.str "eq")))) (fB (f2 gEq (f2 gIx (fV 5) (fC (.int 0))) (f2 gIx (fV 5) (fC (.int 1)))))) (sSeq (sRet (fC (.str "bool"))) (sNil)) (sNil)) (sSeq (sIf (fAndT (fB (f2 gIn (fV 2) (fTup (fAc (fC (.str "and")) (fAc (fC (.str "or")) (fA0)))))) (fB (f2 gEq (fV 5) (fLst (fAc (fC (.str "bool")) (fAc (fC (.str "bool")) (fA0))))))) (sSeq (sRet (fC (.str "bool"))) (sNil)) (sNil)) (sSeq (sIf (fAndT (fB (f2 gEq (fV 2) (fC (.str "not")))) (fB (f2 gEq (fV 5) (fLst (fAc (fC (.str "bool")) (fA0)))))) (sSeq (sRet (fC (.str "bool"))) (sNil)) (sNil)) (sSeq (sRet (fC (.str "!kind"))) (sNil))))))) [some (.ref r), e, some (.str op), none, q4, some (.ref L), q6] G = .rt (.str (op2 op x y).s) G' := by
  have q2 : ∀ a b : String, gEq (.ref L) (.ref G.length) (G ++ [GO.lst [D.str a, D.str b]]) = .ok (.bl (decide (x.s = a ∧ y.s = b))) (G ++ [.lst [.str a, .str b]]) := by
    intro a b
    rw [eq_lists (grow g) last (fun z hz => by simp at hz; rcases hz with rfl | rfl <;> rfl) (fun z hz => by simp at hz; rcases hz with rfl | rfl <;> rfl)]
    simp
  generalize hR : ((sSeq (sIf (fAndT (fB (f2 gIn (fV 2) (fTup (fAc (fC (.str "add")) (fAc (fC (.str "sub")) (fAc (fC (.str "mul")) (fA0))))))) (fB (f2 gEq (fV 5) (fLst (fAc (fC (.str "int")) (fAc (fC (.str "int")) (fA0))))))) (sSeq (sRet (fC (.str "int"))) (sNil)) (sNil)) (sSeq (sIf (fAndT (fB (f2 gIn (fV 2) (fTup (fAc (fC (.str "lt")) (fAc (fC (.str "le")) (fA0)))))) (fB (f2 gEq (fV 5) (fLst (fAc (fC (.str "int")) (fAc (fC (.str "int")) (fA0))))))) (sSeq (sRet (fC (.str "bool"))) (sNil)) (sNil)) (sSeq (sIf (fAndT (fB (f2 gEq (fV 2) (fC (.str "eq")))) (fB (f2 gEq (f2 gIx (fV 5) (fC (.int 0))) (f2 gIx (fV 5) (fC (.int 1)))))) (sSeq (sRet (fC (.str "bool"))) (sNil)) (sNil)) (sSeq (sIf (fAndT (fB (f2 gIn (fV 2) (fTup (fAc (fC (.str "and")) (fAc (fC (.str "or")) (fA0)))))) (fB (f2 gEq (fV 5) (fLst (fAc (fC (.str "bool")) (fAc (fC (.str "bool")) (fA0))))))) (sSeq (sRet (fC (.str "bool"))) (sNil)) (sNil)) (sSeq (sIf (fAndT (fB (f2 gEq (fV 2) (fC (.str "not")))) (fB (f2 gEq (fV 5) (fLst (fAc (fC (.str "bool")) (fA0)))))) (sSeq (sRet (fC (.str "bool"))) (sNil)) (sNil)) (sSeq (sRet (fC (.str "!kind"))) (sNil))))))) : FS) [some (.ref r), e, some (.str op), none, q4, some (.ref L), q6] G = R
  simp only [ops, List.mem_cons, List.not_mem_nil, or_false] at ho
  rcases ho with rfl | rfl | rfl | rfl | rfl | rfl | rfl | rfl <;> cases x <;> simp only [Du.bad, Bool.true_eq_false] at hx <;> cases y <;> simp only [Du.bad, Bool.true_eq_false] at hy <;> (simp [x_sSeq, q2, g_ix_lst g, Du.s] at hR; subst hR; first | exact ⟨_, .refl, rfl⟩ | exact ⟨_, .app _, rfl⟩)
theorem fin1 (φ : Nat → FD) {x : Du} (hx : x.bad = false) {r L : Nat} {e q4 q6 : Option D} {G : GH} (g : G[L]? = some (.lst [.str x.s])) :
    ∃ G', Kp G G' ∧ (sSeq (sIf (fAndT (fB (f2 gIn (fV 2) (fTup (fAc (fC (.str "add")) (fAc (fC (.str "sub")) (fAc (fC (.str "mul")) (fA0))))))) (fB (f2 gEq (fV 5) (fLst (fAc (fC (.str "int")) (fAc (fC (.str "int")) (fA0))))))) (sSeq (sRet (fC (.str "int"))) (sNil)) (sNil)) (sSeq (sIf (fAndT (fB (f2 gIn (fV 2) (fTup (fAc (fC (.str "lt")) (fAc (fC (.str "le")) (fA0)))))) (fB (f2 gEq (fV 5) (fLst (fAc (fC (.str "int")) (fAc (fC (.str "int")) (fA0))))))) (sSeq (sRet (fC (.str "bool"))) (sNil)) (sNil)) (sSeq (sIf (fAndT (fB (f2 gEq (fV 2) (fC (.str "eq")))) (fB (f2 gEq (f2 gIx (fV 5) (fC (.int 0))) (f2 gIx (fV 5) (fC (.int 1)))))) (sSeq (sRet (fC (.str "bool"))) (sNil)) (sNil)) (sSeq (sIf (fAndT (fB (f2 gIn (fV 2) (fTup (fAc (fC (.str "and")) (fAc (fC (.str "or")) (fA0)))))) (fB (f2 gEq (fV 5) (fLst (fAc (fC (.str "bool")) (fAc (fC (.str "bool")) (fA0))))))) (sSeq (sRet (fC (.str "bool"))) (sNil)) (sNil)) (sSeq (sIf (fAndT (fB (f2 gEq (fV 2) (fC (.str "not")))) (fB (f2 gEq (fV 5) (fLst (fAc (fC (.str "bool")) (fA0)))))) (sSeq (sRet (fC (.str "bool"))) (sNil)) (sNil)) (sSeq (sRet (fC (.str "!kind"))) (sNil))))))) [some (.ref r), e, some (.str "not"), none, q4, some (.ref L), q6] G = .rt (.str (if x = .bool then Du.bool else .kind).s) G' := by
  have q2 : ∀ a : String, gEq (.ref L) (.ref G.length) (G ++ [GO.lst [D.str a]]) = .ok (.bl (decide (x.s = a))) (G ++ [.lst [.str a]]) := by
    intro a
    rw [eq_lists (grow g) last (fun z hz => by simp at hz; subst hz; rfl) (fun z hz => by simp at hz; subst hz; rfl)]
    simp
  generalize hR : ((sSeq (sIf (fAndT (fB (f2 gIn (fV 2) (fTup (fAc (fC (.str "add")) (fAc (fC (.str "sub")) (fAc (fC (.str "mul")) (fA0))))))) (fB (f2 gEq (fV 5) (fLst (fAc (fC (.str "int")) (fAc (fC (.str "int")) (fA0))))))) (sSeq (sRet (fC (.str "int"))) (sNil)) (sNil)) (sSeq (sIf (fAndT (fB (f2 gIn (fV 2) (fTup (fAc (fC (.str "lt")) (fAc (fC (.str "le")) (fA0)))))) (fB (f2 gEq (fV 5) (fLst (fAc (fC (.str "int")) (fAc (fC (.str "int")) (fA0))))))) (sSeq (sRet (fC (.str "bool"))) (sNil)) (sNil)) (sSeq (sIf (fAndT (fB (f2 gEq (fV 2) (fC (.str "eq")))) (fB (f2 gEq (f2 gIx (fV 5) (fC (.int 0))) (f2 gIx (fV 5) (fC (.int 1)))))) (sSeq (sRet (fC (.str "bool"))) (sNil)) (sNil)) (sSeq (sIf (fAndT (fB (f2 gIn (fV 2) (fTup (fAc (fC (.str "and")) (fAc (fC (.str "or")) (fA0)))))) (fB (f2 gEq (fV 5) (fLst (fAc (fC (.str "bool")) (fAc (fC (.str "bool")) (fA0))))))) (sSeq (sRet (fC (.str "bool"))) (sNil)) (sNil)) (sSeq (sIf (fAndT (fB (f2 gEq (fV 2) (fC (.str "not")))) (fB (f2 gEq (fV 5) (fLst (fAc (fC (.str "bool")) (fA0)))))) (sSeq (sRet (fC (.str "bool"))) (sNil)) (sNil)) (sSeq (sRet (fC (.str "!kind"))) (sNil))))))) : FS) [some (.ref r), e, some (.str "not"), none, q4, some (.ref L), q6] G = R
  cases x <;> simp only [Du.bad, Bool.true_eq_false] at hx <;> (simp [x_sSeq, q2, g_ix_lst g, Du.s] at hR; subst hR; first | exact ⟨_, .refl, rfl⟩ | exact ⟨_, .app _, rfl⟩)
theorem due_ok (N : Nat) {ps : List (Str × D)} (hp : Prs ps) {r : Nat} : ∀ (e : E) (n : Nat) (G : GH), e.ok n → G[r]? = some (.lst (ps.map pairT)) → ∃ G', Kp G G' ∧ ph (N + n + 1) 19 [.ref r, e.d] G = .ok (.str (e.due ps).s) G'
  | .int i, n, G, _, hg => ⟨G, .refl, by rw [ph_19]; simp [b19, x_sSeq, E.d, E.due, Du.s]⟩
  | .bl b, n, G, _, hg => ⟨G, .refl, by rw [ph_19]; simp [b19, x_sSeq, E.d, E.due, Du.s]⟩
  | .var s, n, G, _, hg => by
    rw [ph_19]
    simp only [x_runB, b19, List.map_cons, List.map_nil, List.length_cons, List.length_nil, E.d, E.due]
    have hrho : ([some (D.ref r), some (.tup [.str "var", .str s])] ++ List.replicate (7 - (0 + 1 + 1)) none : Rho) = [some (.ref r), some (.tup [.str "var", .str s]), none, none, none, none, none] := rfl
    rw [hrho]
    have s0 : (sSet (.nm 2) (f2 gIx (fV 1) (fC (.int 0)))) [some (.ref r), some (.tup [.str "var", .str s]), none, none, none, none, none] G = .nx [some (.ref r), some (.tup [.str "var", .str s]), some (.str "var"), none, none, none, none] G := by simp
    have s1 : (sIf (fB (f2 gIn (fV 2) (fTup (fAc (fC (.str "int")) (fAc (fC (.str "bool")) (fA0)))))) (sSeq (sRet (fV 2)) (sNil)) (sNil)) [some (.ref r), some (.tup [.str "var", .str s]), some (.str "var"), none, none, none, none] G = .nx [some (.ref r), some (.tup [.str "var", .str s]), some (.str "var"), none, none, none, none] G := by simp
    have et : (fB (f2 gEq (fV 2) (fC (.str "var")))) [some (.ref r), some (.tup [.str "var", .str s]), some (.str "var"), none, none, none, none] G = .ok true G := by simp
    rw [seq_nx s0, seq_nx s1, x_sSeq, x_sIf, et, R.toS_ok, if_pos rfl, x_sSeq, x_sFor, x_fV0, R.toS_ok, iter_lst hg]
    dsimp only
    rw [unlS_none]
    rcases var_loop (ph (N + n)) (s := s) (h := some (.str "var")) hg ps none none hp.ck with ⟨h1, q3, q4, h2⟩ | ⟨G', k, h2⟩
    · rw [h2, h1]
      exact ⟨G, .refl, by simp [x_sSeq, Du.s]⟩
    · rw [h2]
      exact ⟨G', k, rfl⟩
  | .no a, n, G, ho, hg => by
    obtain ⟨m, rfl, ha⟩ := ho
    rw [ph_19]
    simp only [x_runB, b19, List.map_cons, List.map_nil, List.length_cons, List.length_nil, E.d, E.due]
    have hrho : ([some (D.ref r), some (.tup [.str "not", a.d])] ++ List.replicate (7 - (0 + 1 + 1)) none : Rho) = [some (.ref r), some (.tup [.str "not", a.d]), none, none, none, none, none] := rfl
    rw [hrho]
    have s0 : (sSet (.nm 2) (f2 gIx (fV 1) (fC (.int 0)))) [some (.ref r), some (.tup [.str "not", a.d]), none, none, none, none, none] G = .nx [some (.ref r), some (.tup [.str "not", a.d]), some (.str "not"), none, none, none, none] G := by simp
    have s1 : (sIf (fB (f2 gIn (fV 2) (fTup (fAc (fC (.str "int")) (fAc (fC (.str "bool")) (fA0)))))) (sSeq (sRet (fV 2)) (sNil)) (sNil)) [some (.ref r), some (.tup [.str "not", a.d]), some (.str "not"), none, none, none, none] G = .nx [some (.ref r), some (.tup [.str "not", a.d]), some (.str "not"), none, none, none, none] G := by simp
    have s2 : (sIf (fB (f2 gEq (fV 2) (fC (.str "var")))) (sSeq (sFor (fV 0) (.tu [.nm 3, .nm 4]) (b19_1 (ph (N + (m + 1))))) (sSeq (sRet (fC (.str "!unknown"))) (sNil))) (sNil)) [some (.ref r), some (.tup [.str "not", a.d]), some (.str "not"), none, none, none, none] G = .nx [some (.ref r), some (.tup [.str "not", a.d]), some (.str "not"), none, none, none, none] G := by simp
    have s3 : (sSet (.nm 5) (fLst (fA0))) [some (.ref r), some (.tup [.str "not", a.d]), some (.str "not"), none, none, none, none] G = .nx [some (.ref r), some (.tup [.str "not", a.d]), some (.str "not"), none, none, some (.ref G.length), none] (G ++ [.lst []]) := by simp
    rw [seq_nx s0, seq_nx s1, seq_nx s2, seq_nx s3]
    obtain ⟨G1, k1, e1⟩ := due_ok N hp a m (G ++ [.lst []]) ha (grow hg)
    have gl := k1.get (last (G := G) (o := .lst []))
    have k0 := (Kp.app (G := G) [.lst []]).trans k1
    have ec : cutG [D.str "not", a.d] (some 1) none = [a.d] := rfl
    have t := due_turn (ph (N + (m + 1))) (e := some (.tup [.str "not", a.d])) (h := some (.str "not")) (q4 := none) (q6 := none) e1 gl (by simp)
    have efor : ∀ X : RS, b19_2 (ph (N + (m + 1))) [some (.ref r), some (.tup [.str "not", a.d]), some (.str "not"), none, none, some (.ref G.length), some a.d] (G ++ [.lst []]) = X → (match X with | .ct _ _ => False | .bk _ _ => False | _ => True) → (sFor (fSl (fV 1) (fO1 (fC (.int 1))) (fO0)) (.nm 6) (b19_2 (ph (N + (m + 1))))) [some (.ref r), some (.tup [.str "not", a.d]), some (.str "not"), none, none, some (.ref G.length), none] (G ++ [.lst []]) = X := by
      intro X hX hn
      rw [x_sFor, x_fSl, x_fV1, R.bind_ok, x_fO1, x_fC, R.bind_ok]
      simp only [R.bind_ok, x_fO0]
      have eg : gSl (.tup [D.str "not", a.d]) (some 1) none (G ++ [GO.lst []]) = .ok (.tup [a.d]) (G ++ [GO.lst []]) := by rw [gSl, ec]
      rw [eg, R.toS_ok, iter_tup]
      dsimp only
      rw [unlS_none, forIt, if_pos chkL_none, x_setP_nm]
      simp only [List.set_cons_succ, List.set_cons_zero]
      rw [hX]
      cases X <;> first | exact absurd hn id | rfl | (dsimp only; rw [forIt, if_pos chkL_none])
    by_cases hb : (a.due ps).bad = true
    · rw [if_pos hb] at t ⊢
      rw [x_sSeq, efor _ t trivial]
      exact ⟨G1, k0, rfl⟩
    · rw [if_neg hb] at t ⊢
      rw [seq_nx (efor _ t trivial)]
      obtain ⟨G2, k2, e2⟩ := fin1 (ph (N + (m + 1))) (x := a.due ps) (by simpa using hb) (r := r) (L := G.length) (e := some (.tup [.str "not", a.d])) (q4 := some (.str (a.due ps).s)) (q6 := some a.d) (G := G1.set G.length (.lst ([] ++ [.str (a.due ps).s]))) (by rw [List.getElem?_set_self (List.getElem?_eq_some_iff.mp gl).1]; rfl)
      rw [e2]
      exact ⟨G2, (k0.set (Nat.le_refl _)).trans k2, rfl⟩
  | .bin op a b, n, G, ho, hg => by
    obtain ⟨m, rfl, hop, ha, hb⟩ := ho
    rw [ph_19]
    simp only [x_runB, b19, List.map_cons, List.map_nil, List.length_cons, List.length_nil, E.d, E.due]
    have hrho : ([some (D.ref r), some (.tup [.str op, a.d, b.d])] ++ List.replicate (7 - (0 + 1 + 1)) none : Rho) = [some (.ref r), some (.tup [.str op, a.d, b.d]), none, none, none, none, none] := rfl
    rw [hrho]
    have s0 : (sSet (.nm 2) (f2 gIx (fV 1) (fC (.int 0)))) [some (.ref r), some (.tup [.str op, a.d, b.d]), none, none, none, none, none] G = .nx [some (.ref r), some (.tup [.str op, a.d, b.d]), some (.str op), none, none, none, none] G := by simp
    have ne : ¬ op = "int" ∧ ¬ op = "bool" ∧ ¬ op = "var" := by
      simp only [ops, List.mem_cons, List.not_mem_nil, or_false] at hop
      rcases hop with rfl | rfl | rfl | rfl | rfl | rfl | rfl | rfl <;> decide
    have s1 : (sIf (fB (f2 gIn (fV 2) (fTup (fAc (fC (.str "int")) (fAc (fC (.str "bool")) (fA0)))))) (sSeq (sRet (fV 2)) (sNil)) (sNil)) [some (.ref r), some (.tup [.str op, a.d, b.d]), some (.str op), none, none, none, none] G = .nx [some (.ref r), some (.tup [.str op, a.d, b.d]), some (.str op), none, none, none, none] G := by simp [ne]
    have s2 : (sIf (fB (f2 gEq (fV 2) (fC (.str "var")))) (sSeq (sFor (fV 0) (.tu [.nm 3, .nm 4]) (b19_1 (ph (N + (m + 1))))) (sSeq (sRet (fC (.str "!unknown"))) (sNil))) (sNil)) [some (.ref r), some (.tup [.str op, a.d, b.d]), some (.str op), none, none, none, none] G = .nx [some (.ref r), some (.tup [.str op, a.d, b.d]), some (.str op), none, none, none, none] G := by simp [ne]
    have s3 : (sSet (.nm 5) (fLst (fA0))) [some (.ref r), some (.tup [.str op, a.d, b.d]), some (.str op), none, none, none, none] G = .nx [some (.ref r), some (.tup [.str op, a.d, b.d]), some (.str op), none, none, some (.ref G.length), none] (G ++ [.lst []]) := by simp
    rw [seq_nx s0, seq_nx s1, seq_nx s2, seq_nx s3]
    obtain ⟨G1, k1, e1⟩ := due_ok N hp a m (G ++ [.lst []]) ha (grow hg)
    have gl := k1.get (last (G := G) (o := .lst []))
    have k0 := (Kp.app (G := G) [.lst []]).trans k1
    have ec : cutG [D.str op, a.d, b.d] (some 1) none = [a.d, b.d] := rfl
    have t := due_turn (ph (N + (m + 1))) (e := some (.tup [.str op, a.d, b.d])) (h := some (.str op)) (q4 := none) (q6 := none) e1 gl (by simp)
    have hin : (sFor (fSl (fV 1) (fO1 (fC (.int 1))) (fO0)) (.nm 6) (b19_2 (ph (N + (m + 1))))) [some (.ref r), some (.tup [.str op, a.d, b.d]), some (.str op), none, none, some (.ref G.length), none] (G ++ [.lst []]) = forIt (.nm 6) (b19_2 (ph (N + (m + 1)))) none [a.d, b.d] [a.d, b.d] [some (.ref r), some (.tup [.str op, a.d, b.d]), some (.str op), none, none, some (.ref G.length), none] (G ++ [.lst []]) := by
      rw [x_sFor, x_fSl, x_fV1, R.bind_ok, x_fO1, x_fC, R.bind_ok]
      simp only [R.bind_ok, x_fO0]
      have eg : gSl (.tup [D.str op, a.d, b.d]) (some 1) none (G ++ [GO.lst []]) = .ok (.tup [a.d, b.d]) (G ++ [GO.lst []]) := by rw [gSl, ec]
      rw [eg, R.toS_ok, iter_tup]
      dsimp only
      rw [unlS_none]
    by_cases hba : (a.due ps).bad = true
    · rw [if_pos hba] at t ⊢
      have e4 := hin
      rw [forIt, if_pos chkL_none, x_setP_nm] at e4
      simp only [List.set_cons_succ, List.set_cons_zero] at e4
      rw [t] at e4
      rw [x_sSeq, e4]
      exact ⟨G1, k0, rfl⟩
    · rw [if_neg hba] at t ⊢
      have g1 : (G1.set G.length (.lst ([] ++ [D.str (a.due ps).s])))[G.length]? = some (.lst [.str (a.due ps).s]) := by rw [List.getElem?_set_self (List.getElem?_eq_some_iff.mp gl).1]; rfl
      have k1' := k0.set (o := .lst ([] ++ [D.str (a.due ps).s])) (Nat.le_refl G.length)
      generalize (G1.set G.length (.lst ([] ++ [D.str (a.due ps).s]))) = G2 at t g1 k1'
      obtain ⟨G3, k3, e3⟩ := due_ok N hp b m G2 hb (k1'.get hg)
      have t2 := due_turn (ph (N + (m + 1))) (e := some (.tup [.str op, a.d, b.d])) (h := some (.str op)) (q4 := some (.str (a.due ps).s)) (q6 := some a.d) e3 (k3.get g1) (by simp)
      have k4 := k1'.trans k3
      have e4 := hin
      rw [forIt, if_pos chkL_none, x_setP_nm] at e4
      simp only [List.set_cons_succ, List.set_cons_zero] at e4
      rw [t] at e4
      dsimp only at e4
      rw [forIt, if_pos chkL_none, x_setP_nm] at e4
      simp only [List.set_cons_succ, List.set_cons_zero] at e4
      rw [t2] at e4
      by_cases hbb : (b.due ps).bad = true
      · rw [if_pos hbb] at e4 ⊢
        rw [x_sSeq, e4]
        exact ⟨G3, k4, rfl⟩
      · rw [if_neg hbb] at e4 ⊢
        dsimp only at e4
        rw [forIt, if_pos chkL_none] at e4
        rw [seq_nx e4]
        obtain ⟨G5, k5, e5⟩ := fin2 (ph (N + (m + 1))) hop (x := a.due ps) (y := b.due ps) (by simpa using hba) (by simpa using hbb) (r := r) (L := G.length) (e := some (.tup [.str op, a.d, b.d])) (q4 := some (.str (b.due ps).s)) (q6 := some b.d) (G := G3.set G.length (.lst ([.str (a.due ps).s] ++ [.str (b.due ps).s]))) (by rw [List.getElem?_set_self (List.getElem?_eq_some_iff.mp (k3.get g1)).1]; rfl)
        rw [e5]
        exact ⟨G5, (k4.set (Nat.le_refl _)).trans k5, rfl⟩
end Wk17
end
section
namespace Wk17
open PySem PySem.Spec PyProof.Rows L2 F2
/-! ### kind_of -/
def why : Du → String
  | .kind => "kind"
  | _ => "unknown"
def kres (d : Du) (at_ : Int) (G : GH) : F2.R D := match d with
  | .int => .ok (.str "int") G
  | .bool => .ok (.str "bool") G
  | d => .er "Mistaken" G.length (G ++ [.xd [("why", .str (why d)), ("at", .int at_)]])
theorem lenAt : ∀ n : Fin 900, (Str.ofString (toString (n.val : Int))).length + 1 ≤ 8388608 := by decide +kernel
theorem okAt {a : Int} (h : 0 ≤ a ∧ a < 900) {w : Str} (hw : w.length ≤ 8388608) : okD2 [.int a, .str w] = true := by
  obtain ⟨n, rfl⟩ := Int.eq_ofNat_of_zero_le h.1
  have h2 : n < 900 := by omega
  have l := lenAt ⟨n, h2⟩
  unfold okD2 strD
  dsimp only
  rw [if_pos (by omega)]
  exact decide_eq_true ⟨l, hw⟩
theorem okAtK {a : Int} (h : 0 ≤ a ∧ a < 900) : okD2 [.int a, .str "kind"] = true := okAt h (by decide +kernel)
theorem okAtU {a : Int} (h : 0 ≤ a ∧ a < 900) : okD2 [.int a, .str "unknown"] = true := okAt h (by decide +kernel)
def kvT (p : Str × D) : Key × D := (.inr p.1, p.2)
/-- the context: an instance at c, its dict at d -/
structure Cx (G : GH) (c d : Nat) (ps : List (Str × D)) : Prop where
  ins : G[c]? = some (.ins "Context" [("bound", .ref d)])
  dic : G[d]? = some (.dK (ps.map kvT))
theorem look_val (s : Str) : ∀ ps : List (Str × D), (∀ p ∈ ps, Ck p.2) → (valD (ps.map kvT) (.inr s) = none ∧ look ps s = .unk) ∨ ∃ d, valD (ps.map kvT) (.inr s) = some d ∧ look ps s = ofK d ∧ Ck d
  | [], _ => .inl ⟨rfl, rfl⟩
  | p :: r, h => by
    rw [List.map_cons, valD_cons, look]
    by_cases e : p.1 = s
    · rw [if_pos e, if_pos (show (kvT p).1 = .inr s by rw [kvT, e])]
      exact .inr ⟨p.2, rfl, rfl, h p (List.mem_cons_self ..)⟩
    · rw [if_neg e, if_neg (show ¬ (kvT p).1 = .inr s from fun z => e (Sum.inr.inj z))]
      exact look_val s r fun q hq => h q (List.mem_cons_of_mem _ hq)
section
variable {G : GH} {c d : Nat} {ps : List (Str × D)} {s : Str}
theorem fld_cx (C : Cx G c d ps) : gFld "Context" "bound" (.ref c) G = .ok (.ref d) G := by
  unfold gFld
  dsimp only
  rw [C.ins]
  rfl
theorem in_cx (C : Cx G c d ps) : gIn (.str s) (.ref d) G = .ok (.bl (valD (ps.map kvT) (.inr s)).isSome) G := by
  unfold gIn inB itemsD askD
  dsimp only
  rw [C.dic]
  rfl
theorem ix_cx (C : Cx G c d ps) {v : D} (h : valD (ps.map kvT) (.inr s) = some v) : gIx (.ref d) (.str s) G = .ok v G := g_ix_dK (.inl C.dic) rfl h
theorem binds_ok (N : Nat) (C : Cx G c d ps) : ph (N + 1) 6 [.ref c, .str s] G = .ok (.bl (valD (ps.map kvT) (.inr s)).isSome) G := by
  rw [ph_6]
  simp [b6, x_sSeq, fld_cx C, in_cx C]
theorem get_ok (N : Nat) (C : Cx G c d ps) {v : D} (h : valD (ps.map kvT) (.inr s) = some v) : ph (N + 1) 7 [.ref c, .str s] G = .ok v G := by
  rw [ph_7]
  simp [b7, x_sSeq, fld_cx C, ix_cx C h]
theorem isend_ok (N : Nat) (C : Cx G c d ps) {v : D} (h : valD (ps.map kvT) (.inr s) = some v) (hk : Ck v) : ph (N + 1) 8 [.ref c, .str s] G = .ok (.bl (decide (ofK v = .kind))) G := by
  rw [ph_8]
  rcases hk.du with ⟨h1, h2⟩ | ⟨h1, h2⟩ | ⟨h1, xs, h2, h3⟩
  · rw [h1]; rw [h2] at h; simp [b8, x_sSeq, fld_cx C, in_cx C, ix_cx C h, h]
  · rw [h1]; rw [h2] at h; simp [b8, x_sSeq, fld_cx C, in_cx C, ix_cx C h, h]
  · rw [h1]; rw [h2] at h h3; simp [b8, x_sSeq, fld_cx C, in_cx C, ix_cx C h, h, notin_t2 h3]
theorem name_ok (N : Nat) (hp : Prs ps) (C : Cx G c d ps) {a : Int} (ha : 0 ≤ a ∧ a < 900) : ph (N + 2) 3 [.str s, .ref c, .int a] G = kres (look ps s) a G := by
  rw [ph_3]
  have hb := binds_ok N C (s := s)
  have hlk : ∀ m : Str, m ≠ "bound" → List.lookup m [(("bound" : Str), D.ref d)] = none := fun m hm => by
    rw [List.lookup_cons, show (m == ("bound" : Str)) = false from beq_eq_false_iff_ne.mpr hm]; rfl
  have l1 := hlk "binds" (by simp)
  have l2 := hlk "is_end" (by simp)
  have l3 := hlk "kind" (by simp)
  rcases look_val s ps hp.ck with ⟨h1, h2⟩ | ⟨v, h1, h2, h3⟩
  · rw [h1] at hb
    rw [h2]
    simp [b3, x_sSeq, C.ins, l1, hb, okAtU ha, kres, why, fd2]
  · have hi := isend_ok N C h1 h3
    have hg := get_ok N C h1
    rw [h1] at hb
    rw [h2]
    rcases h3.du with ⟨k1, k2⟩ | ⟨k1, k2⟩ | ⟨k1, xs, k2, k3⟩
    · rw [k1] at hi ⊢; rw [k2] at hg; simp [b3, x_sSeq, C.ins, l1, l2, l3, hb, hi, hg, kres]
    · rw [k1] at hi ⊢; rw [k2] at hg; simp [b3, x_sSeq, C.ins, l1, l2, l3, hb, hi, hg, kres]
    · rw [k1] at hi ⊢; simp [b3, x_sSeq, C.ins, l1, l2, l3, hb, hi, okAtK ha, kres, why, fd2]
end
def opr (d : Du) : D := match d with
  | .int => .str "int"
  | .bool => .str "bool"
  | _ => .non
theorem operator_ok (N : Nat) (G : GH) {op : String} (ho : op ∈ ops) {x y : Du} (hx : x.bad = false) (hy : y.bad = false) : ph (N + 1) 2 [.str op, .str x.s, .str y.s] G = .ok (opr (op2 op x y)) G := by
  rw [ph_2]
  simp only [ops, List.mem_cons, List.not_mem_nil, or_false] at ho
  rcases ho with rfl | rfl | rfl | rfl | rfl | rfl | rfl | rfl <;> cases x <;> simp only [Du.bad, Bool.true_eq_false] at hx <;> cases y <;> simp only [Du.bad, Bool.true_eq_false] at hy <;> simp [b2, x_sSeq, Du.s, op2, opr]
theorem op2_nu {op : String} {x y : Du} : op2 op x y ≠ .unk := by
  unfold op2
  split
  · split <;> simp
  · split
    · split <;> simp
    · split <;> split <;> simp
theorem kres_ok {d : Du} (h : d.bad = false) (a : Int) (G : GH) : kres d a G = .ok (.str d.s) G := by cases d <;> first | rfl | cases h
theorem kres_er {d : Du} (h : d.bad = true) (a : Int) (G : GH) : kres d a G = .er "Mistaken" G.length (G ++ [.xd [("why", .str (why d)), ("at", .int a)]]) := by cases d <;> first | rfl | cases h
theorem kind_ok (N : Nat) {ps : List (Str × D)} (hp : Prs ps) {c d : Nat} {a : Int} (ha : 0 ≤ a ∧ a < 900) {G : GH} (C : Cx G c d ps) : ∀ (e : E) (n : Nat), e.ok n → ph (N + n + 3) 4 [e.d, .ref c, .int a] G = kres (e.due ps) a G
  | .int i, n, _ => by rw [ph_4]; simp [b4, x_sSeq, E.d, E.due, kres]
  | .bl b, n, _ => by rw [ph_4]; simp [b4, x_sSeq, E.d, E.due, kres]
  | .var s, n, _ => by
    have h := name_ok (N + n) hp C (s := s) ha
    rw [ph_4]
    cases q : look ps s <;> rw [q] at h <;> simp [b4, x_sSeq, E.d, E.due, h, q, kres]
  | .no x, n, ho => by
    obtain ⟨m, rfl, hx⟩ := ho
    have h : ph (N + (m + 1) + 2) 4 [x.d, .ref c, .int a] G = kres (x.due ps) a G := kind_ok N hp ha C x m hx
    rw [ph_4]
    cases q : x.due ps <;> rw [q] at h <;> simp [b4, x_sSeq, E.d, E.due, h, q, kres, Du.bad, okAtK ha, why, fd2]
  | .bin op x y, n, ho => by
    obtain ⟨m, rfl, hop, hx, hy⟩ := ho
    have h : ph (N + (m + 1) + 2) 4 [x.d, .ref c, .int a] G = kres (x.due ps) a G := kind_ok N hp ha C x m hx
    have h2 : ph (N + (m + 1) + 2) 4 [y.d, .ref c, .int a] G = kres (y.due ps) a G := kind_ok N hp ha C y m hy
    have ne : ¬ op = "int" ∧ ¬ op = "bool" ∧ ¬ op = "var" ∧ ¬ op = "not" := by
      simp only [ops, List.mem_cons, List.not_mem_nil, or_false] at hop
      rcases hop with rfl | rfl | rfl | rfl | rfl | rfl | rfl | rfl <;> decide
    rw [ph_4]
    by_cases bx : (x.due ps).bad = true
    · rw [kres_er bx] at h
      simp [b4, x_sSeq, E.d, E.due, h, bx, ne, kres_er bx]
    · have bx' : (x.due ps).bad = false := by simpa using bx
      rw [kres_ok bx'] at h
      by_cases by_ : (y.due ps).bad = true
      · rw [kres_er by_] at h2
        simp [b4, x_sSeq, E.d, E.due, h, h2, bx, by_, ne, kres_er by_]
      · have by' : (y.due ps).bad = false := by simpa using by_
        rw [kres_ok by'] at h2
        have h3 := operator_ok (N + (m + 1) + 1) G hop bx' by'
        have hn := op2_nu (op := op) (x := x.due ps) (y := y.due ps)
        have e5 : (E.bin op x y).due ps = op2 op (x.due ps) (y.due ps) := by simp [E.due, bx, by_]
        rw [e5]
        cases q : op2 op (x.due ps) (y.due ps) with
        | unk => exact absurd q hn
        | int => rw [q] at h3; simp [b4, x_sSeq, E.d, h, h2, ne, h3, opr, kres, isNonD]
        | bool => rw [q] at h3; simp [b4, x_sSeq, E.d, h, h2, ne, h3, opr, kres, isNonD]
        | kind => rw [q] at h3; simp [b4, x_sSeq, E.d, h, h2, ne, h3, opr, kres, isNonD, okAtK ha, why, fd2]
end Wk17
end
section
namespace Wk17
open PySem PySem.Spec PyProof.Rows L2 F2
/-! ### Context(..) and pairs() -/
theorem init_loop (φ : Nat → FD) {c d : Nat} (hcd : c ≠ d) {all : List D} {q1 : Option D} : ∀ (rest done : List (Str × D)) (q2 q3 : Option D) (G : GH), ((done ++ rest).map (·.1)).Nodup → (done ++ rest).length ≤ 6 → G[c]? = some (.ins "Context" [("bound", .ref d)]) → G[d]? = some (.dK (done.map kvT)) →
    ∃ ρ' G', forIt (.tu [.nm 2, .nm 3]) (b5_1 φ) none all (rest.map pairT) [some (.ref c), q1, q2, q3] G = .nx ρ' G' ∧ G'[d]? = some (.dK ((done ++ rest).map kvT)) ∧ G'.length = G.length ∧ ∀ i, i ≠ d → G'[i]? = G[i]?
  | [], done, q2, q3, G, _, _, hc, hd => ⟨_, G, by rw [List.map_nil, forIt, if_pos chkL_none], by simpa using hd, rfl, fun _ _ => rfl⟩
  | p :: rest, done, q2, q3, G, nd, hl, hc, hd => by
    have hf : gFld "Context" "bound" (.ref c) G = .ok (.ref d) G := by
      unfold gFld
      dsimp only
      rw [hc]
      rfl
    have hnew : (.inr p.1 : Key) ∉ (done.map kvT).map (·.1) := by
      intro h
      rw [List.map_map] at h
      obtain ⟨z, hz, e⟩ := List.mem_map.mp h
      have e2 : z.1 = p.1 := Sum.inr.inj e
      rw [List.map_append, List.nodup_append] at nd
      exact nd.2.2 z.1 (List.mem_map.mpr ⟨z, hz, rfl⟩) p.1 (by simp) e2
    have hset : gSetIx (.ref d) (.str p.1) p.2 G = .ok () (G.set d (.dK (done.map kvT ++ [kvT p]))) := by
      rw [g_setix_dK hd rfl (by simp at hl ⊢; omega), putKD_new hnew]; rfl
    have hb : b5_1 φ [some (.ref c), q1, some (.str p.1), some p.2] G = .nx [some (.ref c), q1, some (.str p.1), some p.2] (G.set d (.dK (done.map kvT ++ [kvT p]))) := by
      simp [b5_1, x_sSeq, hf, hset]
    have hlt := (List.getElem?_eq_some_iff.mp hd).1
    obtain ⟨ρ', G', e1, e2, e3, e4⟩ := init_loop φ hcd (all := all) (q1 := q1) rest (done ++ [p]) (some (.str p.1)) (some p.2) (G.set d (.dK (done.map kvT ++ [kvT p]))) (by simpa using nd) (by simpa using hl) (by rw [set_lt hcd]; exact hc) (by rw [List.getElem?_set_self hlt]; simp)
    refine ⟨ρ', G', ?_, by simpa using e2, by simpa using e3, fun i hi => by rw [e4 i hi, set_lt hi]⟩
    have hs : setP (.tu [.nm 2, .nm 3]) (pairT p) [some (.ref c), q1, q2, q3] = some [some (.ref c), q1, some (.str p.1), some p.2] := by simp
    rw [List.map_cons, forIt, if_pos chkL_none, hs]
    dsimp only
    rw [hb]
    exact e1
theorem make_ok (N : Nat) {ps : List (Str × D)} (hp : Prs ps) {G : GH} : ∃ (c d : Nat) (G' : GH), ph (N + 1) 5 [.ref G.length, .tup (ps.map pairT)] (G ++ [.ins "Context" []]) = .ok .non G' ∧ c = G.length ∧ Kp G G' ∧ Cx G' c d ps := by
  rw [ph_5]
  simp only [x_runB, b5, List.map_cons, List.map_nil, List.length_cons, List.length_nil]
  have hrho : ([some (D.ref G.length), some (.tup (ps.map pairT))] ++ List.replicate (4 - (0 + 1 + 1)) none : Rho) = [some (.ref G.length), some (.tup (ps.map pairT)), none, none] := rfl
  rw [hrho]
  have g0 : ((G ++ [GO.ins "Context" []]) ++ [GO.dK []])[G.length]? = some (.ins "Context" []) := grow last
  have hset : gSetFld "Context" "bound" (.ref G.length) (.ref (G ++ [GO.ins "Context" []]).length) ((G ++ [GO.ins "Context" []]) ++ [GO.dK []]) = .ok () (((G ++ [GO.ins "Context" []]) ++ [GO.dK []]).set G.length (.ins "Context" [("bound", .ref (G ++ [GO.ins "Context" []]).length)])) := by
    unfold gSetFld
    dsimp only
    rw [g0]
    rfl
  have s0 : (sSetFld "Context" "bound" (fV 0) (fD0K)) [some (.ref G.length), some (.tup (ps.map pairT)), none, none] (G ++ [.ins "Context" []]) = .nx [some (.ref G.length), some (.tup (ps.map pairT)), none, none] (((G ++ [GO.ins "Context" []]) ++ [GO.dK []]).set G.length (.ins "Context" [("bound", .ref (G ++ [GO.ins "Context" []]).length)])) := by
    rw [x_sSetFld, x_fD0K, R.toS_ok, x_fV0, R.toS_ok, hset, R.toS_ok]
  rw [seq_nx s0]
  have hdl : (G ++ [GO.ins "Context" []]).length = G.length + 1 := by simp
  rw [hdl]
  have gc : (((G ++ [GO.ins "Context" []]) ++ [GO.dK []]).set G.length (.ins "Context" [("bound", .ref (G.length + 1))]))[G.length]? = some (.ins "Context" [("bound", .ref (G.length + 1))]) := by rw [List.getElem?_set_self (by simp)]
  have gd : (((G ++ [GO.ins "Context" []]) ++ [GO.dK []]).set G.length (.ins "Context" [("bound", .ref (G.length + 1))]))[G.length + 1]? = some (.dK []) := by
    rw [set_lt (by omega)]
    have := last (G := G ++ [GO.ins "Context" []]) (o := GO.dK [])
    rw [hdl] at this
    exact this
  have kp := ((Kp.app (G := G) [GO.ins "Context" []]).trans (Kp.app [GO.dK []])).set (o := .ins "Context" [("bound", .ref (G.length + 1))]) (Nat.le_refl G.length)
  generalize (((G ++ [GO.ins "Context" []]) ++ [GO.dK []]).set G.length (.ins "Context" [("bound", .ref (G.length + 1))])) = G1 at gc gd kp
  obtain ⟨ρ', G', e1, e2, e3, e4⟩ := init_loop (ph N) (c := G.length) (d := G.length + 1) (by omega) (all := ps.map pairT) (q1 := some (.tup (ps.map pairT))) ps [] none none G1 (by simpa using hp.nd) (by simpa using hp.len) gc gd
  refine ⟨G.length, G.length + 1, G', ?_, rfl, ⟨by rw [e3]; exact kp.len, fun i hi => by rw [e4 i (by omega)]; exact kp.at_ i hi⟩, ⟨by rw [e4 _ (by omega)]; exact gc, by simpa using e2⟩⟩
  rw [x_sSeq, x_sFor, x_fV1, R.toS_ok, iter_tup]
  dsimp only
  rw [unlS_none, e1]
  rfl
def fP (ps : List (Str × D)) : D → D
  | .str s => .tup [.str s, (valD (ps.map kvT) (.inr s)).getD .non]
  | _ => .non
theorem fP_map {ps : List (Str × D)} (nd : (ps.map (·.1)).Nodup) : ((ps.map kvT).map fun p => keyV p.1).map (fP ps) = ps.map pairT := by
  rw [List.map_map, List.map_map]
  refine List.map_congr_left fun p hp => ?_
  obtain ⟨i, hi⟩ := List.mem_iff_getElem?.mp hp
  have nd2 : ((ps.map kvT).map (·.1)).Nodup := by
    rw [List.map_map]
    have e : ((fun x : Key × D => x.1) ∘ kvT) = (fun s : Str => (.inr s : Key)) ∘ (fun p : Str × D => p.1) := rfl
    rw [e, ← List.map_map]
    exact List.pairwise_map.mpr (nd.imp fun hne e => hne (Sum.inr.inj e))
  have h := valD_get (l := ps.map kvT) (i := i) (k := .inr p.1) (d := p.2) nd2 (by rw [List.getElem?_map, hi]; rfl)
  show fP ps (.str p.1) = pairT p
  rw [fP, h]; rfl
theorem pairs_ok (N : Nat) {ps : List (Str × D)} (hp : Prs ps) {G : GH} {c d : Nat} (C : Cx G c d ps) : ∃ (l : Nat) (G' : GH), ph (N + 1) 13 [.ref c] G = .ok (.ref l) G' ∧ Kp G G' ∧ G'[l]? = some (.lst (ps.map pairT)) := by
  rw [ph_13]
  simp only [x_runB, b13, List.map_cons, List.map_nil, List.length_cons, List.length_nil]
  have hrho : ([some (D.ref c)] ++ List.replicate (2 - (0 + 1)) none : Rho) = [some (.ref c), none] := rfl
  rw [hrho]
  have hcd : c ≠ d := fun e => by have h1 := C.ins; have h2 := C.dic; rw [e, h2] at h1; cases h1
  have hlt := (List.getElem?_eq_some_iff.mp C.dic).1
  have hlc := (List.getElem?_eq_some_iff.mp C.ins).1
  have fd : ∀ B : GH, (G.set d (.fK (ps.map kvT)) ++ B)[d]? = some (.fK (ps.map kvT)) := fun B => grow (by rw [List.getElem?_set_self hlt])
  have fc : ∀ B : GH, (G.set d (.fK (ps.map kvT)) ++ B)[c]? = some (.ins "Context" [("bound", .ref d)]) := fun B => grow (by rw [set_lt hcd]; exact C.ins)
  obtain ⟨B', e⟩ := lcRun_map (p := .nm 1) (te := (fTup (fAc (fV 1) (fAc (f2 gIx (f1 (gFld "Context" "bound") (fV 0)) (fV 1)) (fA0))))) (ck := none) (lk := some d) (own := [1]) (xs := (ps.map kvT).map fun p => keyV p.1) (ρ := [some (.ref c), none]) (A := G.set d (.fK (ps.map kvT))) (f := fP ps) (fun n hn => nomatch hn) (by have := hp.len; simp; omega) (fun x hx => by
    obtain ⟨z, hz, rfl⟩ := List.mem_map.mp hx
    obtain ⟨p, hp', rfl⟩ := List.mem_map.mp hz
    refine ⟨[some (.ref c), some (.str p.1)], rfl, fun acc B => ⟨B, ?_⟩⟩
    have hf : gFld "Context" "bound" (.ref c) (G.set d (.fK (ps.map kvT)) ++ .lst acc :: B) = .ok (.ref d) (G.set d (.fK (ps.map kvT)) ++ .lst acc :: B) := by
      unfold gFld
      dsimp only
      rw [fc]
      rfl
    obtain ⟨i, hi⟩ := List.mem_iff_getElem?.mp hp'
    have nd2 : ((ps.map kvT).map (·.1)).Nodup := by
      rw [List.map_map]
      have e : ((fun x : Key × D => x.1) ∘ kvT) = (fun s : Str => (.inr s : Key)) ∘ (fun p : Str × D => p.1) := rfl
      rw [e, ← List.map_map]
      exact List.pairwise_map.mpr (hp.nd.imp fun hne e => hne (Sum.inr.inj e))
    have hv := valD_get (l := ps.map kvT) (i := i) (k := .inr p.1) (d := p.2) nd2 (by rw [List.getElem?_map, hi]; rfl)
    have hix : gIx (.ref d) (.str p.1) (G.set d (.fK (ps.map kvT)) ++ .lst acc :: B) = .ok p.2 (G.set d (.fK (ps.map kvT)) ++ .lst acc :: B) := g_ix_dK (.inr (fd _)) rfl hv
    have hfp : fP ps (keyV (kvT p).1) = .tup [.str p.1, p.2] := by
      show fP ps (.str p.1) = _
      rw [fP, hv]; rfl
    rw [hfp]
    simp [hf, hix])
  rw [fP_map hp.nd] at e
  have hfl : gFld "Context" "bound" (.ref c) G = .ok (.ref d) G := fld_cx C
  have e2 : (fLc (f1 (gFld "Context" "bound") (fV 0)) (.nm 1) (fYes) (fTup (fAc (fV 1) (fAc (f2 gIx (f1 (gFld "Context" "bound") (fV 0)) (fV 1)) (fA0)))) [1]) [some (.ref c), none] G = .ok (.ref (G.set d (.fK (ps.map kvT))).length) (unlockG (some d) (G.set d (.fK (ps.map kvT)) ++ .lst (ps.map pairT) :: B')) := by
    rw [x_fLc, x_f1, x_fV0, R.bind_ok, hfl, R.bind_ok, iter_dK C.dic]
    exact e
  rw [x_sSeq, x_sRet, e2, R.toS_ok]
  have eu : unlockG (some d) (G.set d (.fK (ps.map kvT)) ++ .lst (ps.map pairT) :: B') = G ++ .lst (ps.map pairT) :: B' := by
    unfold unlockG
    dsimp only
    rw [fd]
    dsimp only
    rw [List.set_append_left _ _ (by simpa using hlt), List.set_set]
    congr 1
    refine List.ext_getElem? fun i => ?_
    by_cases hi : i = d
    · subst hi; rw [List.getElem?_set_self hlt, C.dic]; rfl
    · rw [set_lt hi]
  rw [eu]
  exact ⟨G.length, G ++ .lst (ps.map pairT) :: B', by simp, .app _, by simp⟩
end Wk17
end
section
namespace Wk17
open PySem PySem.Spec PyProof.Rows L2 F2
/-! ### the law -/
theorem bang {d : Du} (h : d.bad = true) : gAdd (.str "!") (.str (why d)) = fun G => .ok (.str d.s) G := by
  funext G
  cases d with
  | kind =>
    show (if (Str.ofString "!").length + (Str.ofString "kind").length ≤ 16777216 then F2.R.ok (D.str (Str.ofString "!" ++ Str.ofString "kind")) G else .st) = _
    rw [if_pos (by decide +kernel), show Str.ofString "!" ++ Str.ofString "kind" = Str.ofString "!kind" by decide +kernel]; rfl
  | unk =>
    show (if (Str.ofString "!").length + (Str.ofString "unknown").length ≤ 16777216 then F2.R.ok (D.str (Str.ofString "!" ++ Str.ofString "unknown")) G else .st) = _
    rw [if_pos (by decide +kernel), show Str.ofString "!" ++ Str.ofString "unknown" = Str.ofString "!unknown" by decide +kernel]; rfl
  | _ => cases h
theorem ck_pl {ps : List (Str × D)} (hp : Prs ps) : ∀ x ∈ ps.map pairT, plB 63 x = true := by
  intro x hx
  obtain ⟨p, hp', rfl⟩ := List.mem_map.mp hx
  rcases hp.ck p hp' with h | h | h | h <;> rw [pairT, h] <;> rfl
theorem turn_ok {ps : List (Str × D)} (hp : Prs ps) {r : Nat} {q0 q3 q4 q5 q6 q7 q8 q9 : Option D} {G : GH} (h : St G) (hr : 1 ≤ r) (hg : G[r]? = some (.lst (ps.map pairT))) :
    ∃ q4' q5' q6' q7' q8' q9' G', Fr G G' ∧ b20_3 (ph 10) [q0, some (.ref 0), some (.ref r), q3, q4, q5, q6, q7, q8, q9] G = .nx [q0, some (.ref 0), some (.ref r), q3, q4', q5', q6', q7', q8', q9'] G' := by
  obtain ⟨dk, G1, hm, f1, e1⟩ := pick_ok 9 G h (A := fAc (fC (.str "int")) (fAc (fC (.str "bool")) (fA0))) (ds := [.str "int", .str "bool"]) (ρ := [q0, some (.ref 0), some (.ref r), q3, q4, q5, q6, q7, q8, q9]) (i := 1) (m := 2) (fun _ => rfl) (fun _ => rfl) rfl (by simp)
  have hk : ∃ k : String, (k = "int" ∨ k = "bool") ∧ dk = .str k := by
    simp only [List.mem_cons, List.not_mem_nil, or_false] at hm
    rcases hm with rfl | rfl
    · exact ⟨_, .inl rfl, rfl⟩
    · exact ⟨_, .inr rfl, rfl⟩
  obtain ⟨k, hk, rfl⟩ := hk
  obtain ⟨e, G2, he, f2', e2⟩ := expr_ok 4 4 0 k G1 hk (by omega) f1.ok
  have s0 : (sSet (.nm 4) (fCal 3 ((ph 10) 18) [] (fAc (fV 1) (fAc (F2.f2 gIx (fLst (fAc (fC (.str "int")) (fAc (fC (.str "bool")) (fA0)))) (fCal 2 ((ph 10) 16) [] (fAc (fV 1) (fAc (fC (.int 2)) (fA0))))) (fAc (fC (.int 0)) (fA0)))))) [q0, some (.ref 0), some (.ref r), q3, q4, q5, q6, q7, q8, q9] G = .nx [q0, some (.ref 0), some (.ref r), q3, some e.d, q5, q6, q7, q8, q9] G2 := by
    have e2' : ph 10 18 [.ref 0, .str k, .int 0] G1 = .ok e.d G2 := e2
    have ea : (fAc (fV 1) (fAc (F2.f2 gIx (fLst (fAc (fC (.str "int")) (fAc (fC (.str "bool")) (fA0)))) (fCal 2 ((ph 10) 16) [] (fAc (fV 1) (fAc (fC (.int 2)) (fA0))))) (fAc (fC (.int 0)) (fA0)))) [q0, some (.ref 0), some (.ref r), q3, q4, q5, q6, q7, q8, q9] G = .ok [.ref 0, .str k, .int 0] G1 := by
      rw [x_fAc, x_fV1, R.bind_ok, x_fAc, e1]
      rfl
    rw [x_sSet, x_fCal, ea, R.bind_ok]
    simp [e2']
  obtain ⟨a, G3, a0, a1, e3, f3, _⟩ := draw_ok 9 G2 900 (by omega) f2'.ok
  have s1 : (sSet (.nm 5) (fCal 2 ((ph 10) 16) [] (fAc (fV 1) (fAc (fC (.int 900)) (fA0))))) [q0, some (.ref 0), some (.ref r), q3, some e.d, q5, q6, q7, q8, q9] G2 = .nx [q0, some (.ref 0), some (.ref r), q3, some e.d, some (.int a), q6, q7, q8, q9] G3 := by
    have e3' : ph 10 16 [.ref 0, .int 900] G2 = .ok (.int a) G3 := e3
    simp [e3']
  have f13 := (f1.trans f2').trans f3
  have g3 := f13.get hr hg
  obtain ⟨c, d, G4, e4, hc, k4, C4⟩ := make_ok 9 hp (G := G3)
  subst hc
  have s2 : (sSet (.nm 6) (fMakeD "Context" 2 ((ph 10) 5) [] (fAc (fCall gTuple (fAc (fV 2) (fA0))) (fA0)))) [q0, some (.ref 0), some (.ref r), q3, some e.d, some (.int a), q6, q7, q8, q9] G3 = .nx [q0, some (.ref 0), some (.ref r), q3, some e.d, some (.int a), some (.ref G3.length), q7, q8, q9] G4 := by
    have e4' : ph 10 5 [.ref G3.length, .tup (ps.map pairT)] (G3 ++ [.ins "Context" []]) = .ok .non G4 := e4
    simp [g_tuple_lst g3, e4']
  have g4 := k4.get g3
  obtain ⟨G5, k5, e5⟩ := due_ok 5 hp e 4 G4 he g4
  have s3 : (sSet (.nm 7) (fCal 2 ((ph 10) 19) [] (fAc (fV 2) (fAc (fV 4) (fA0))))) [q0, some (.ref 0), some (.ref r), q3, some e.d, some (.int a), some (.ref G3.length), q7, q8, q9] G4 = .nx [q0, some (.ref 0), some (.ref r), q3, some e.d, some (.int a), some (.ref G3.length), some (.str (e.due ps).s), q8, q9] G5 := by
    have e5' : ph 10 19 [.ref r, e.d] G4 = .ok (.str (e.due ps).s) G5 := e5
    simp [e5']
  have s4 : (sSet (.nm 8) (fC .non)) [q0, some (.ref 0), some (.ref r), q3, some e.d, some (.int a), some (.ref G3.length), some (.str (e.due ps).s), q8, q9] G5 = .nx [q0, some (.ref 0), some (.ref r), q3, some e.d, some (.int a), some (.ref G3.length), some (.str (e.due ps).s), some .non, q9] G5 := by simp
  have C5 : Cx G5 G3.length d ps := ⟨k5.get C4.ins, k5.get C4.dic⟩
  have e6 : ph 10 4 [e.d, .ref G3.length, .int a] G5 = kres (e.due ps) a G5 := kind_ok 3 hp ⟨a0, a1⟩ C5 e 4 he
  have f5 : Fr G G5 := f13.trans ((k4.trans k5).fr f3.ok)
  have hb : b20_3 (ph 10) [q0, some (.ref 0), some (.ref r), q3, q4, q5, q6, q7, q8, q9] G = (sSeq (sTryAs 9 [("Mistaken", true)] (b20_1 (ph 10)) (fun _ j => b20_2 (ph 10) j)) (sSeq (sIf (fAndT (fB (F2.f1 gIsN (fV 8))) (fB (F2.f2 gNotIn (fV 7) (fTup (fAc (fC (.str "!kind")) (fAc (fC (.str "!unknown")) (fA0))))))) (sSeq (sRet (fC (.bl false))) (sNil)) (sNil)) (sSeq (sIf (fAndT (fB (F2.f1 gNotN (fV 8))) (fB (F2.f2 gNe (fV 8) (fV 7)))) (sSeq (sRet (fC (.bl false))) (sNil)) (sNil)) (sSeq (sIf (fB (F2.f2 gNe (fMethD "Context" "pairs" 1 ((ph 10) 13) [] (fV 6) fA0) (fV 2))) (sSeq (sRet (fC (.bl false))) (sNil)) (sNil)) (sNil))))) [q0, some (.ref 0), some (.ref r), q3, some e.d, some (.int a), some (.ref G3.length), some (.str (e.due ps).s), some .non, q9] G5 := by
    rw [b20_3, seq_nx s0, seq_nx s1, seq_nx s2, seq_nx s3, seq_nx s4]
  rw [hb]
  by_cases bd : (e.due ps).bad = true
  · rw [kres_er bd] at e6
    have s5 : (sTryAs 9 [("Mistaken", true)] (b20_1 (ph 10)) (fun _ j => b20_2 (ph 10) j)) [q0, some (.ref 0), some (.ref r), q3, some e.d, some (.int a), some (.ref G3.length), some (.str (e.due ps).s), some .non, q9] G5 = .nx [q0, some (.ref 0), some (.ref r), q3, some e.d, some (.int a), some (.ref G3.length), some (.str (e.due ps).s), some .non, none] (G5 ++ [.xd [("why", .str (why (e.due ps))), ("at", .int a)]]) := by
      have gx := last (G := G5) (o := .xd [("why", .str (why (e.due ps))), ("at", .int a)])
      have bg : ∀ G, gAdd (.str "!") (.str (why (e.due ps))) G = .ok (.str (e.due ps).s) G := fun G => congrFun (bang bd) G
      have lw : List.lookup ("why" : Str) [(("why" : Str), D.str (why (e.due ps))), ("at", .int a)] = some (.str (why (e.due ps))) := rfl
      have la : List.lookup ("at" : Str) [(("why" : Str), D.str (why (e.due ps))), ("at", .int a)] = some (.int a) := by
        rw [List.lookup_cons, show (("at" : Str) == ("why" : Str)) = false from beq_eq_false_iff_ne.mpr (by simp)]; rfl
      have hbody : b20_1 (ph 10) [q0, some (.ref 0), some (.ref r), q3, some e.d, some (.int a), some (.ref G3.length), some (.str (e.due ps).s), some .non, q9] G5 = .er "Mistaken" G5.length [q0, some (.ref 0), some (.ref r), q3, some e.d, some (.int a), some (.ref G3.length), some (.str (e.due ps).s), some .non, q9] (G5 ++ [.xd [("why", .str (why (e.due ps))), ("at", .int a)]]) := by
        simp [b20_1, x_sSeq, e6]
      have lk : List.lookup ("Mistaken" : Str) [(("Mistaken" : Str), true)] = some true := rfl
      rw [x_sTryAs, hbody]
      dsimp only
      rw [lk]
      dsimp only
      rw [if_pos (by simp)]
      have xa : ∀ ρ : Rho, fXf G5.length "at" ρ (G5 ++ [.xd [("why", .str (why (e.due ps))), ("at", .int a)]]) = .ok (.int a) (G5 ++ [.xd [("why", .str (why (e.due ps))), ("at", .int a)]]) := fun ρ => by
        rw [x_fXf, gx]; dsimp only; rw [la]
      have xw : ∀ ρ : Rho, fXf G5.length "why" ρ (G5 ++ [.xd [("why", .str (why (e.due ps))), ("at", .int a)]]) = .ok (.str (why (e.due ps))) (G5 ++ [.xd [("why", .str (why (e.due ps))), ("at", .int a)]]) := fun ρ => by
        rw [x_fXf, gx]; dsimp only; rw [lw]
      generalize (G5 ++ [.xd [("why", .str (why (e.due ps))), ("at", .int a)]]) = GX at xa xw gx
      simp only [b20_2, x_sSeq, x_sIf, x_fOrT, x_fB, x_f2, List.set_cons_succ, List.set_cons_zero]
      simp only [xa, xw, x_fC, R.bind_ok, bg, x_fV5, x_fV7, g_ne_int, g_ne_str]
      simp [RS.clr]
    obtain ⟨l, G6, e7, k6, g6⟩ := pairs_ok 9 hp (G := G5 ++ [.xd [("why", .str (why (e.due ps))), ("at", .int a)]]) (c := G3.length) (d := d) ⟨grow C5.ins, grow C5.dic⟩
    have e7' : ph 10 13 [.ref G3.length] (G5 ++ [.xd [("why", .str (why (e.due ps))), ("at", .int a)]]) = .ok (.ref l) G6 := e7
    have fx := f5.ok.app [.xd [("why", .str (why (e.due ps))), ("at", .int a)]]
    have f6 := (f5.trans fx).trans (k6.fr fx.ok)
    have ne := ne_lists g6 (f6.get hr hg) (ck_pl hp)
    have ci : (G5 ++ [GO.xd [("why", .str (why (e.due ps))), ("at", .int a)]])[G3.length]? = some (.ins "Context" [("bound", .ref d)]) := grow C5.ins
    have lb : List.lookup ("pairs" : Str) [(("bound" : Str), D.ref d)] = none := by
      rw [List.lookup_cons, show (("pairs" : Str) == ("bound" : Str)) = false from beq_eq_false_iff_ne.mpr (by simp)]; rfl
    refine ⟨some e.d, some (.int a), some (.ref G3.length), some (.str (e.due ps).s), some .non, none, G6, f6, ?_⟩
    rw [seq_nx s5]
    generalize (G5 ++ [GO.xd [("why", .str (why (e.due ps))), ("at", .int a)]]) = GX at e7' ci
    cases q : e.due ps with
    | int => rw [q] at bd; cases bd
    | bool => rw [q] at bd; cases bd
    | kind => simp [x_sSeq, Du.s, isNonD, ci, lb, e7', ne]
    | unk => simp [x_sSeq, Du.s, isNonD, ci, lb, e7', ne]
  · have bd' : (e.due ps).bad = false := by simpa using bd
    rw [kres_ok bd'] at e6
    have s5 : (sTryAs 9 [("Mistaken", true)] (b20_1 (ph 10)) (fun _ j => b20_2 (ph 10) j)) [q0, some (.ref 0), some (.ref r), q3, some e.d, some (.int a), some (.ref G3.length), some (.str (e.due ps).s), some .non, q9] G5 = .nx [q0, some (.ref 0), some (.ref r), q3, some e.d, some (.int a), some (.ref G3.length), some (.str (e.due ps).s), some (.str (e.due ps).s), q9] G5 := by
      have hbody : b20_1 (ph 10) [q0, some (.ref 0), some (.ref r), q3, some e.d, some (.int a), some (.ref G3.length), some (.str (e.due ps).s), some .non, q9] G5 = .nx [q0, some (.ref 0), some (.ref r), q3, some e.d, some (.int a), some (.ref G3.length), some (.str (e.due ps).s), some (.str (e.due ps).s), q9] G5 := by
        simp [b20_1, x_sSeq, e6]
      rw [x_sTryAs, hbody]
    obtain ⟨l, G6, e7, k6, g6⟩ := pairs_ok 9 hp (G := G5) (c := G3.length) (d := d) C5
    have e7' : ph 10 13 [.ref G3.length] G5 = .ok (.ref l) G6 := e7
    have f6 := f5.trans (k6.fr f5.ok)
    have ne := ne_lists g6 (f6.get hr hg) (ck_pl hp)
    have ci := C5.ins
    have lb : List.lookup ("pairs" : Str) [(("bound" : Str), D.ref d)] = none := by
      rw [List.lookup_cons, show (("pairs" : Str) == ("bound" : Str)) = false from beq_eq_false_iff_ne.mpr (by simp)]; rfl
    refine ⟨some e.d, some (.int a), some (.ref G3.length), some (.str (e.due ps).s), some (.str (e.due ps).s), q9, G6, f6, ?_⟩
    rw [seq_nx s5]
    simp [x_sSeq, isNonD, ci, lb, e7', ne]
theorem law_ok (ns : List Int) : ∃ G, ph 11 20 [.scr (ns.map D.int)] [] = .ok (.bl true) G := by
  generalize hscr : D.scr (ns.map D.int) = scr
  rw [ph_20]
  simp only [x_runB, b20, List.map_cons, List.map_nil, List.length_cons, List.length_nil]
  have hrho : ([some scr] ++ List.replicate (10 - (0 + 1)) none : Rho) = [some scr, none, none, none, none, none, none, none, none, none] := rfl
  rw [hrho]
  have s0 : (sSet (.nm 1) (fLst (fAc (fV 0) (fAc (fC (.int 0)) (fAc (fC (.int 0)) (fAc (fC (.int 1)) (fA0))))))) [some scr, none, none, none, none, none, none, none, none, none] [] = .nx [some scr, some (.ref 0), none, none, none, none, none, none, none, none] [.lst [scr, .int 0, .int 0, .int 1]] := by simp
  have h0 : St [.lst [scr, .int 0, .int 0, .int 1]] := ⟨ns, 0, 0, 1, by rw [← hscr]; rfl, by omega⟩
  obtain ⟨r, ps, G1, e1, f1, hr, g1, hp⟩ := ctx_ok 8 _ h0
  have s1 : (sSet (.nm 2) (fCal 1 ((ph 10) 17) [] (fAc (fV 1) (fA0)))) [some scr, some (.ref 0), none, none, none, none, none, none, none, none] [.lst [scr, .int 0, .int 0, .int 1]] = .nx [some scr, some (.ref 0), some (.ref r), none, none, none, none, none, none, none] G1 := by
    have e1' : ph 10 17 [.ref 0] [.lst [scr, .int 0, .int 0, .int 1]] = .ok (.ref r) G1 := e1
    simp [e1']
  rw [seq_nx s0, seq_nx s1]
  obtain ⟨ρ', G2, e2, _⟩ := forIt_inv (p := .nm 3) (body := b20_3 (ph 10)) (ck := none) (all := [.int 0, .int 1, .int 2]) (fun xs ρ G => St G ∧ G[r]? = some (.lst (ps.map pairT)) ∧ ∃ q3 q4 q5 q6 q7 q8 q9, ρ = [some scr, some (.ref 0), some (.ref r), q3, q4, q5, q6, q7, q8, q9])
    (fun ρ G _ => chkL_none) (fun x t ρ G ⟨h1, h2, q3, q4, q5, q6, q7, q8, q9, h3⟩ => by
      subst h3
      obtain ⟨q4', q5', q6', q7', q8', q9', G', f, e⟩ := turn_ok hp (q0 := some scr) (q3 := some x) (q4 := q4) (q5 := q5) (q6 := q6) (q7 := q7) (q8 := q8) (q9 := q9) h1 hr h2
      exact ⟨chkL_none, _, x_setP_nm _ _ _, _, G', .inl e, f.ok, f.get hr h2, _, _, _, _, _, _, _, rfl⟩)
    [.int 0, .int 1, .int 2] [some scr, some (.ref 0), some (.ref r), none, none, none, none, none, none, none] G1 ⟨f1.ok, g1, _, _, _, _, _, _, _, rfl⟩
  have s2 : (sForR 1 (fAc (fC (.int 3)) (fA0)) (.nm 3) (b20_3 (ph 10))) [some scr, some (.ref 0), some (.ref r), none, none, none, none, none, none, none] G1 = .nx ρ' G2 := by
    rw [x_sForR, x_fAc, x_fC, R.bind_ok, x_fA0, R.bind_ok, R.toS_ok]
    have er : rngA 1 [.int 3] = some [.int 0, .int 1, .int 2] := rfl
    rw [er]
    exact e2
  rw [seq_nx s2]
  exact ⟨G2, by simp [x_sSeq]⟩
end Wk17
end
theorem PySem.Challenge.cw_pourparler_k17_kinds_of_expressions_holds : PySem.Challenge.rw_pourparler_k17_kinds_of_expressions.Holds :=
  Wk17.holds_of 11 (by decide) (fun ns _ => Wk17.law_ok ns) ⟨rfl, by decide, by decide⟩
